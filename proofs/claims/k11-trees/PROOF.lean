import PyProof.Rows.All
import Wide.All
import OpenK.AllK
import Wide.FinOn
import HandS.ForMost
import HandS.ForExc
import HandS.TupAny
import HandS.Flow
import HandS.Style
import KE.GoesEnum
import KE.GoesEnumKw
import KE.GoesMore
import HandS.Deep
import HandS.RaiseMore
import PyProof.ListStr
import PyProof.ReprRoads
import HandS.More
import PySem.Challenge.RW_hookrow_k11_trees_taken_apart
set_option Elab.async false
set_option linter.all false
set_option maxRecDepth 100000
/-! The tree layer: values as trees, mutable cells in a store. -/
namespace TL
open PySem L2

/-- a value as a tree; ref n: the mutable cell n -/
inductive D where
  | non | bl (b : Bool) | int (i : Int) | str (x : Str)
  | tup (ds : List D) | lst (ds : List D)
  | dct (kvs : List (Key × D))
  | obj (c : Nat) (fs : List (Str × D))
  | ref (n : Nat)
  | scr (ns : List Int)
/-- what stands in a mutable cell -/
inductive MO where
  | lst (ds : List D) | dct (kvs : List (Key × D)) | obj (c : Nat) (fs : List (Str × D)) | box
abbrev Sto := Nat → Option MO
def sup (st : Sto) (n : Nat) (m : MO) : Sto := fun k => if k = n then some m else st k
theorem sup_same {st : Sto} {n : Nat} {m : MO} : sup st n m n = some m := by simp [sup]
theorem sup_ne {st : Sto} {n k : Nat} {m : MO} (h : k ≠ n) : sup st n m k = st k := by simp [sup, h]
theorem sup_sup {st : Sto} {n : Nat} {m m' : MO} : sup (sup st n m) n m' = sup st n m' := by
  funext k; by_cases h : k = n <;> simp [sup, h]
/-- the cell n is given up -/
def sdel (st : Sto) (n : Nat) : Sto := fun k => if k = n then none else st k
theorem sdel_ne {st : Sto} {n k : Nat} (h : k ≠ n) : sdel st n k = st k := by simp [sdel, h]
theorem sdel_same {st : Sto} {n : Nat} : sdel st n n = none := by simp [sdel]
theorem sdel_sup {st : Sto} {n : Nat} {m : MO} (h : st n = none) : sdel (sup st n m) n = st := by
  funext k
  by_cases e : k = n
  · subst e; rw [sdel_same, h]
  · rw [sdel_ne e, sup_ne e]
/-- st' knows all that st knows -/
def Sub (st st' : Sto) : Prop := ∀ n m, st n = some m → st' n = some m
theorem Sub.refl (st : Sto) : Sub st st := fun _ _ h => h
theorem Sub.trans {a b c : Sto} (x : Sub a b) (y : Sub b c) : Sub a c := fun n m h => y n m (x n m h)
theorem Sub.new {st : Sto} {n : Nat} {m : MO} (h : st n = none) : Sub st (sup st n m) := fun k m' e => by
  have : k ≠ n := by rintro rfl; rw [h] at e; cases e
  rw [sup_ne this]; exact e
theorem Sub.upd {st st' : Sto} {n : Nat} {m : MO} (s : Sub st st') (h : st n = none) : Sub st (sup st' n m) := fun k m' e => by
  have : k ≠ n := by rintro rfl; rw [h] at e; cases e
  rw [sup_ne this]; exact s k m' e
theorem Sub.del {st st' : Sto} {n : Nat} (s : Sub st st') (h : st n = none) : Sub st (sdel st' n) := fun k m' e => by
  have : k ≠ n := by rintro rfl; rw [h] at e; cases e
  rw [sdel_ne this]; exact s k m' e
theorem Sub.none {st st' : Sto} {n : Nat} (s : Sub st st') (h : st' n = Option.none) : st n = Option.none := by
  cases e : st n with
  | none => rfl
  | some m => rw [s n m e] at h; cases h

/-- the fixed part: the written heap, the classes -/
structure Gx where
  K : PySem.W.Frag
  cA : Nat → Addr
/-- the ghost: where the cells stand, who owns an address -/
structure Gh where
  rho : Nat → Option Addr
  own : Addr → Option Nat

/-- nobody's, holding u -/
def Fz (g : Gh) (H : Hp) (a : Addr) (u : HO) : Prop := g.own a = none ∧ Rd H a u
def FT (X : Gx) (g : Gh) (H : Hp) (a : Addr) (vs : List V) : Prop := Fz g H a (.tup vs) ∨
  ∃ (o : Obj) (its : Array Value) (n : Nat), X.K.lookup a = some o ∧ o.cls = .type "tuple" ∧ o.data = .seq its n ∧ its.size ≤ sizeLine ∧ Vals vs its.toList
def FL (X : Gx) (g : Gh) (H : Hp) (a : Addr) (vs : List V) : Prop := Fz g H a (.lst vs) ∨
  ∃ (o : Obj) (its : Array Value) (n : Nat), X.K.lookup a = some o ∧ o.cls = .type "list" ∧ o.dict = none ∧ o.data = .seq its n ∧ its.size ≤ sizeLine ∧ Vals vs its.toList
theorem FT.sq {X : Gx} {g : Gh} {H : Hp} {a : Addr} {vs : List V} (h : FT X g H a vs) : SqT X.K H a vs := h.elim (fun h => .inl h.2) .inr
theorem FL.sq {X : Gx} {g : Gh} {H : Hp} {a : Addr} {vs : List V} (h : FL X g H a vs) : SqL X.K H a vs := h.elim (fun h => .inl h.2) .inr

mutual
/-- v in H stands for the tree d -/
inductive Rep (X : Gx) (g : Gh) (H : Hp) : V → D → Prop
  | non : Rep X g H .non .non
  | bl (b : Bool) : Rep X g H (.bl b) (.bl b)
  | int (i : Int) : Rep X g H (.int i) (.int i)
  | str (x : Str) : Rep X g H (.str x) (.str x)
  | tup {a : Addr} {vs : List V} {ds : List D} : FT X g H a vs → Reps X g H vs ds → Rep X g H (.ref a) (.tup ds)
  | lst {a : Addr} {vs : List V} {ds : List D} : g.own a = none → H a = some (.lst vs) → Reps X g H vs ds → Rep X g H (.ref a) (.lst ds)
  | scr {a : Addr} {ns : List Int} : FL X g H a (ns.map V.int) → Rep X g H (.ref a) (.scr ns)
  | dct {a : Addr} {kv : List (Key × V)} {kd : List (Key × D)} : Fz g H a (.dK kv) → RepK X g H kv kd → Rep X g H (.ref a) (.dct kd)
  | obj {a dx : Addr} {c : Nat} {fv : List (Str × V)} {fd : List (Str × D)} : g.own a = none → H a = some (.ins (X.cA c) dx fv) → RepF X g H fv fd → Rep X g H (.ref a) (.obj c fd)
  | ref {a : Addr} {n : Nat} : g.rho n = some a → Rep X g H (.ref a) (.ref n)
inductive Reps (X : Gx) (g : Gh) (H : Hp) : List V → List D → Prop
  | nil : Reps X g H [] []
  | cons {v : V} {vs : List V} {d : D} {ds : List D} : Rep X g H v d → Reps X g H vs ds → Reps X g H (v :: vs) (d :: ds)
inductive RepK (X : Gx) (g : Gh) (H : Hp) : List (Key × V) → List (Key × D) → Prop
  | nil : RepK X g H [] []
  | cons {k : Key} {v : V} {vs : List (Key × V)} {d : D} {ds : List (Key × D)} : Rep X g H v d → RepK X g H vs ds → RepK X g H ((k, v) :: vs) ((k, d) :: ds)
inductive RepF (X : Gx) (g : Gh) (H : Hp) : List (Str × V) → List (Str × D) → Prop
  | nil : RepF X g H [] []
  | cons {k : Str} {v : V} {vs : List (Str × V)} {d : D} {ds : List (Str × D)} : Rep X g H v d → RepF X g H vs ds → RepF X g H ((k, v) :: vs) ((k, d) :: ds)
end

def isDk : HO → Bool
  | .dK _ => true
  | .frz _ (.dK _) => true
  | _ => false
/-- no cell that st knows owns a -/
def Nob (g : Gh) (st : Sto) (a : Addr) : Prop := ∀ n, g.own a = some n → st n = none ∧ ∃ b, g.rho n = some b
theorem Nob.of {g : Gh} {st : Sto} {a : Addr} (h : g.own a = none) : Nob g st a := fun n e => by rw [h] at e; cases e
/-- what belongs to no cell of st stays as it was; cells keep their places -/
structure Step (g : Gh) (st : Sto) (H : Hp) (g' : Gh) (st' : Sto) (H' : Hp) : Prop where
  rho : ∀ n a, g.rho n = some a → g'.rho n = some a
  hid : ∀ n a, g.rho n = some a → st n = none → st' n = none
  own : ∀ a o, Nob g st a → H a = some o → g'.own a = g.own a
  ex : ∀ a o, Nob g st a → H a = some o → (isDk o = false ∨ g.own a ≠ none) → H' a = some o
  dk : ∀ a kv, g.own a = none → Rd H a (.dK kv) → Rd H' a (.dK kv)
theorem Step.refl (g : Gh) (st : Sto) (H : Hp) : Step g st H g st H := ⟨fun _ _ h => h, fun _ _ _ h => h, fun _ _ _ _ => rfl, fun _ _ _ h _ => h, fun _ _ _ h => h⟩
theorem rd_some {H : Hp} {a : Addr} {u : HO} (h : Rd H a u) : ∃ o, H a = Option.some o := h.elim (fun h => ⟨_, h⟩) fun ⟨_, h⟩ => ⟨_, h⟩
theorem isDk_rd {H : Hp} {a : Addr} {o : HO} (e : H a = some o) (q : isDk o = true) : ∃ kv, Rd H a (.dK kv) := by
  cases o with
  | dK kv => exact ⟨kv, .inl e⟩
  | frz ob u => cases u with
    | dK kv => exact ⟨kv, .inr ⟨ob, e⟩⟩
    | _ => cases q
  | _ => cases q
theorem Step.trans {g g1 g2 : Gh} {st st1 st2 : Sto} {H H1 H2 : Hp} (a : Step g st H g1 st1 H1) (b : Step g1 st1 H1 g2 st2 H2) : Step g st H g2 st2 H2 := by
  have nob : ∀ x o, Nob g st x → H x = some o → Nob g1 st1 x := fun x o w e n hn => by
    rw [a.own x o w e] at hn
    obtain ⟨h1, b, h2⟩ := w n hn
    exact ⟨a.hid n b h2 h1, b, a.rho n b h2⟩
  have there : ∀ x o, Nob g st x → H x = some o → ∃ o', H1 x = some o' := fun x o w e => by
    cases q : isDk o with
    | false => exact ⟨o, a.ex x o w e (.inl q)⟩
    | true =>
      cases hw : g.own x with
      | some n => exact ⟨o, a.ex x o w e (.inr (by rw [hw]; exact fun z => nomatch z))⟩
      | none =>
        obtain ⟨kv, r⟩ := isDk_rd e q
        exact rd_some (a.dk x kv hw r)
  refine ⟨fun n x h => b.rho n x (a.rho n x h), fun n x hn e => b.hid n x (a.rho n x hn) (a.hid n x hn e), fun x o w e => ?_, fun x o w e q => ?_, fun x kv w r => ?_⟩
  · obtain ⟨o1, e1⟩ := there x o w e
    rw [b.own x o1 (nob x o w e) e1, a.own x o w e]
  · refine b.ex x o (nob x o w e) (a.ex x o w e q) ?_
    rw [a.own x o w e]; exact q
  · obtain ⟨o, e⟩ := rd_some r
    refine b.dk x kv ?_ (a.dk x kv w r)
    rw [a.own x o (.of w) e]; exact w
theorem Step.fz {g g' : Gh} {st st' : Sto} {H H' : Hp} (s : Step g st H g' st' H') {a : Addr} {u : HO} (h : Fz g H a u) (hu : isDk u = false) (hu2 : ∀ ob, isDk (.frz ob u) = false) : Fz g' H' a u := by
  obtain ⟨w, r⟩ := h
  rcases r with r | ⟨ob, r⟩
  · exact ⟨by rw [s.own a _ (.of w) r]; exact w, .inl (s.ex a _ (.of w) r (.inl hu))⟩
  · exact ⟨by rw [s.own a _ (.of w) r]; exact w, .inr ⟨ob, s.ex a _ (.of w) r (.inl (hu2 ob))⟩⟩
section
variable {X : Gx} {g g' : Gh} {st st' : Sto} {H H' : Hp}
theorem FT.mono (s : Step g st H g' st' H') {a : Addr} {vs : List V} (h : FT X g H a vs) : FT X g' H' a vs := h.elim (fun h => .inl (s.fz h rfl fun _ => rfl)) .inr
theorem FL.mono (s : Step g st H g' st' H') {a : Addr} {vs : List V} (h : FL X g H a vs) : FL X g' H' a vs := h.elim (fun h => .inl (s.fz h rfl fun _ => rfl)) .inr
theorem Fz.dmono (s : Step g st H g' st' H') {a : Addr} {kv : List (Key × V)} (h : Fz g H a (.dK kv)) : Fz g' H' a (.dK kv) := let ⟨o, e⟩ := rd_some h.2; ⟨by rw [s.own a o (.of h.1) e]; exact h.1, s.dk a kv h.1 h.2⟩
mutual
theorem Rep.mono (s : Step g st H g' st' H') : ∀ {v : V} {d : D}, Rep X g H v d → Rep X g' H' v d
  | _, _, .non => .non
  | _, _, .bl b => .bl b
  | _, _, .int i => .int i
  | _, _, .str x => .str x
  | _, _, .tup h r => .tup (h.mono s) (Reps.mono s r)
  | _, _, .lst w h r => .lst ((s.own _ _ (.of w) h).trans w) (s.ex _ _ (.of w) h (.inl rfl)) (Reps.mono s r)
  | _, _, .scr h => .scr (h.mono s)
  | _, _, .dct h r => .dct (h.dmono s) (RepK.mono s r)
  | _, _, .obj w h r => .obj ((s.own _ _ (.of w) h).trans w) (s.ex _ _ (.of w) h (.inl rfl)) (RepF.mono s r)
  | _, _, .ref h => .ref (s.rho _ _ h)
theorem Reps.mono (s : Step g st H g' st' H') : ∀ {v : List V} {d : List D}, Reps X g H v d → Reps X g' H' v d
  | _, _, .nil => .nil
  | _, _, .cons r t => .cons (Rep.mono s r) (Reps.mono s t)
theorem RepK.mono (s : Step g st H g' st' H') : ∀ {v : List (Key × V)} {d : List (Key × D)}, RepK X g H v d → RepK X g' H' v d
  | _, _, .nil => .nil
  | _, _, .cons r t => .cons (Rep.mono s r) (RepK.mono s t)
theorem RepF.mono (s : Step g st H g' st' H') : ∀ {v : List (Str × V)} {d : List (Str × D)}, RepF X g H v d → RepF X g' H' v d
  | _, _, .nil => .nil
  | _, _, .cons r t => .cons (Rep.mono s r) (RepF.mono s t)
end
theorem Reps.length : ∀ {vs : List V} {ds : List D}, Reps X g H vs ds → vs.length = ds.length
  | _, _, .nil => rfl
  | _, _, .cons _ t => by simp [Reps.length t]
theorem Reps.append : ∀ {vs ws : List V} {ds es : List D}, Reps X g H vs ds → Reps X g H ws es → Reps X g H (vs ++ ws) (ds ++ es)
  | _, _, _, _, .nil, s => s
  | _, _, _, _, .cons r t, s => .cons r (Reps.append t s)
theorem Reps.get : ∀ {vs : List V} {ds : List D} {i : Nat} {d : D}, Reps X g H vs ds → ds[i]? = some d → ∃ v, vs[i]? = some v ∧ Rep X g H v d
  | _, _, _, _, .nil, e => by simp at e
  | _, _, 0, _, .cons r _, e => by simp at e; subst e; exact ⟨_, rfl, r⟩
  | _, _, i + 1, d, .cons _ t, e => by
    obtain ⟨u, h1, h2⟩ := Reps.get (i := i) (d := d) t (by simpa using e)
    exact ⟨u, by simpa using h1, h2⟩
theorem Reps.getv : ∀ {vs : List V} {ds : List D} {i : Nat} {v : V}, Reps X g H vs ds → vs[i]? = some v → ∃ d, ds[i]? = some d ∧ Rep X g H v d
  | _, _, _, _, .nil, e => by simp at e
  | _, _, 0, _, .cons r _, e => by simp at e; subst e; exact ⟨_, rfl, r⟩
  | _, _, i + 1, d, .cons _ t, e => by
    obtain ⟨u, h1, h2⟩ := Reps.getv (i := i) (v := d) t (by simpa using e)
    exact ⟨u, by simpa using h1, h2⟩
theorem Reps.set {v : V} {d : D} (r : Rep X g H v d) : ∀ {vs : List V} {ds : List D} (i : Nat), Reps X g H vs ds → Reps X g H (vs.set i v) (ds.set i d)
  | _, _, _, .nil => .nil
  | _, _, 0, .cons _ t => .cons r t
  | _, _, i + 1, .cons q t => .cons q (Reps.set r i t)
theorem Reps.take : ∀ {vs : List V} {ds : List D} (n : Nat), Reps X g H vs ds → Reps X g H (vs.take n) (ds.take n)
  | _, _, 0, _ => by simpa using Reps.nil
  | _, _, _ + 1, .nil => .nil
  | _, _, n + 1, .cons r t => .cons r (Reps.take n t)
theorem Reps.drop : ∀ {vs : List V} {ds : List D} (n : Nat), Reps X g H vs ds → Reps X g H (vs.drop n) (ds.drop n)
  | _, _, 0, r => r
  | _, _, _ + 1, .nil => .nil
  | _, _, n + 1, .cons _ t => Reps.drop n t
theorem Reps.eraseIdx : ∀ {vs : List V} {ds : List D} (i : Nat), Reps X g H vs ds → Reps X g H (vs.eraseIdx i) (ds.eraseIdx i)
  | _, _, _, .nil => .nil
  | _, _, 0, .cons _ t => t
  | _, _, i + 1, .cons r t => .cons r (Reps.eraseIdx i t)
theorem Reps.reverse : ∀ {vs : List V} {ds : List D}, Reps X g H vs ds → Reps X g H vs.reverse ds.reverse
  | _, _, .nil => .nil
  | _, _, .cons r t => by
    rw [List.reverse_cons, List.reverse_cons]
    exact (Reps.reverse t).append (.cons r .nil)
end

/-- a cell's content at its address -/
def MRep (X : Gx) (g : Gh) (H : Hp) (n : Nat) (a : Addr) : MO → Prop
  | .lst ds => ∃ vs, H a = some (.lst vs) ∧ Reps X g H vs ds
  | .dct kd => ∃ kv, H a = some (.dK kv) ∧ RepK X g H kv kd
  | .obj c fd => ∃ dx fv, H a = some (.ins (X.cA c) dx fv) ∧ RepF X g H fv fd
  | .box => ∃ (b : Addr) (gs : List Int) (now seed turn : Int), H a = some (.dK [(.inr "great", .ref b), (.inr "now", .int now), (.inr "seed", .int seed), (.inr "turn", .int turn)]) ∧
      H b = some (.lst (gs.map V.int)) ∧ g.own b = some n ∧ b ≠ a
structure Rel (X : Gx) (g : Gh) (st : Sto) (H : Hp) : Prop where
  cell : ∀ n m, st n = some m → ∃ a, g.rho n = some a ∧ g.own a = some n ∧ MRep X g H n a m
  own : ∀ a n, g.own a = some n → (∃ o, H a = some o) ∧ ∃ b, g.rho n = some b
  fin : ∃ N, ∀ n, N ≤ n → g.rho n = none ∧ st n = none
/-- cells may be forgotten -/
theorem Rel.sub {X : Gx} {g : Gh} {st st' : Sto} {H : Hp} (r : Rel X g st' H) (s : Sub st st') : Rel X g st H :=
  ⟨fun n m h => r.cell n m (s n m h), r.own, let ⟨N, h⟩ := r.fin; ⟨N, fun n hn => ⟨(h n hn).1, s.none (h n hn).2⟩⟩⟩
theorem Step.sub {g g' : Gh} {st st' st'' : Sto} {H H' : Hp} (a : Step g st H g' st' H') (s : Sub st'' st') : Step g st H g' st'' H' :=
  ⟨a.rho, fun n x h e => s.none (a.hid n x h e), a.own, a.ex, a.dk⟩
theorem Rel.free {X : Gx} {g : Gh} {st : Sto} {H : Hp} (r : Rel X g st H) {a : Addr} (h : H a = none) : g.own a = none := by
  cases e : g.own a with
  | none => rfl
  | some n => obtain ⟨⟨o, ho⟩, _⟩ := r.own a n e; rw [h] at ho; cases ho
theorem Rel.hid {X : Gx} {g : Gh} {st : Sto} {H : Hp} (r : Rel X g st H) {n : Nat} (h : g.rho n = none) : st n = none := by
  cases e : st n with
  | none => rfl
  | some m => obtain ⟨a, e1, _⟩ := r.cell n m e; rw [h] at e1; cases e1

section
variable {X : Gx} {g : Gh} {st : Sto} {H : Hp}
/-- a step where all that stood stands -/
theorem Step.grow {g : Gh} {st : Sto} {H H' : Hp} (h : ∀ a o, H a = some o → H' a = some o) : Step g st H g st H' :=
  ⟨fun _ _ e => e, fun _ _ _ e => e, fun a o _ _ => rfl, fun a o _ e _ => h a o e, fun a kv _ r => r.elim (fun e => .inl (h _ _ e)) fun ⟨ob, e⟩ => .inr ⟨ob, h _ _ e⟩⟩
/-- what was not there ahead of a step may be written behind it -/
theorem Step.poke {g g' : Gh} {st st' : Sto} {H H' : Hp} (s : Step g st H g' st' H') {p : Addr} {o : HO} (hp : H p = none) : Step g st H g' st' (upd H' p o) :=
  ⟨s.rho, s.hid, s.own, fun a u w e q => by rw [upd_ne (ne_of_none e hp)]; exact s.ex a u w e q, fun a kv w r => by
    have hq := s.dk a kv w r
    have hne : a ≠ p := let ⟨o, e⟩ := rd_some r; ne_of_none e hp
    rcases hq with e | ⟨ob, e⟩
    · exact .inl (by rw [upd_ne hne]; exact e)
    · exact .inr ⟨ob, by rw [upd_ne hne]; exact e⟩⟩
theorem MRep.mono {g g' : Gh} {st st' : Sto} {H H' : Hp} (s : Step g st H g' st' H') {n : Nat} {a : Addr} {m : MO} (hH : ∀ b, g.own b = some n → H' b = H b) (ho : ∀ b, g.own b = some n → g'.own b = some n) (ha : g.own a = some n) (h : MRep X g H n a m) : MRep X g' H' n a m := by
  cases m with
  | lst ds => obtain ⟨vs, e, r⟩ := h; exact ⟨vs, (hH a ha).trans e, r.mono s⟩
  | dct kd => obtain ⟨vs, e, r⟩ := h; exact ⟨vs, (hH a ha).trans e, r.mono s⟩
  | obj c fd => obtain ⟨dx, vs, e, r⟩ := h; exact ⟨dx, vs, (hH a ha).trans e, r.mono s⟩
  | box =>
    obtain ⟨b, gs, now, seed, turn, e1, e2, o, ne⟩ := h
    exact ⟨b, gs, now, seed, turn, (hH a ha).trans e1, (hH b o).trans e2, ho b o, ne⟩
/-- something new is laid that is nobody's -/
theorem Rel.lay (r : Rel X g st H) {p : Addr} {o : HO} (hp : H p = none) : Step g st H g st (upd H p o) ∧ Rel X g st (upd H p o) := by
  have s : Step g st H g st (upd H p o) := Step.grow fun a u e => by rw [upd_ne (ne_of_none e hp)]; exact e
  have hown : ∀ b n, g.own b = some n → b ≠ p := fun b n e => by
    obtain ⟨⟨u, hu⟩, _⟩ := r.own b n e
    exact ne_of_none hu hp
  refine ⟨s, fun n m h => ?_, fun a n e => ?_, r.fin⟩
  · obtain ⟨a, e1, e2, e3⟩ := r.cell n m h
    exact ⟨a, e1, e2, e3.mono s (fun b hb => upd_ne (hown b n hb)) (fun _ h => h) e2⟩
  · obtain ⟨⟨u, hu⟩, q⟩ := r.own a n e
    exact ⟨⟨u, by rw [upd_ne (hown a n e)]; exact hu⟩, q⟩
/-- a new cell -/
def Gh.new (g : Gh) (n : Nat) (p : Addr) : Gh := ⟨fun k => if k = n then some p else g.rho k, fun a => if a = p then some n else g.own a⟩
theorem Rel.cellNew (r : Rel X g st H) {p : Addr} {o : HO} (hp : H p = none) {n : Nat} (hn : g.rho n = none) {m : MO}
    (hm : ∀ g' st', Step g st H g' st' (upd H p o) → MRep X g' (upd H p o) n p m) : Step g st H (g.new n p) (sup st n m) (upd H p o) ∧ Rel X (g.new n p) (sup st n m) (upd H p o) := by
  have hown : ∀ b k, g.own b = some k → b ≠ p := fun b n e => by
    obtain ⟨⟨u, hu⟩, _⟩ := r.own b n e
    exact ne_of_none hu hp
  have hrho : ∀ k a, g.rho k = some a → k ≠ n := fun k a e => by rintro rfl; rw [hn] at e; cases e
  have s : Step g st H (g.new n p) (sup st n m) (upd H p o) := by
    refine ⟨fun k a e => ?_, fun k a e q => ?_, fun a o w e => ?_, fun a o w e _ => ?_, fun a kv w r => ?_⟩
    · simp [Gh.new, hrho k a e, e]
    · rw [sup_ne (hrho k a e)]; exact q
    · simp [Gh.new, ne_of_none e hp]
    · rw [upd_ne (ne_of_none e hp)]; exact e
    · rcases r with e | ⟨ob, e⟩
      · exact .inl (by rw [upd_ne (ne_of_none e hp)]; exact e)
      · exact .inr ⟨ob, by rw [upd_ne (ne_of_none e hp)]; exact e⟩
  refine ⟨s, fun k m' h => ?_, fun a k e => ?_, ?_⟩
  · by_cases hk : k = n
    · subst hk
      rw [sup_same] at h; cases h
      exact ⟨p, by simp [Gh.new], by simp [Gh.new], hm _ _ s⟩
    · rw [sup_ne hk] at h
      obtain ⟨a, e1, e2, e3⟩ := r.cell k m' h
      have hap := hown a k e2
      exact ⟨a, by simp [Gh.new, hk, e1], by simp [Gh.new, hap, e2], e3.mono s (fun b hb => upd_ne (hown b k hb)) (fun b hb => by simp [Gh.new, hown b k hb, hb]) e2⟩
  · by_cases ha : a = p
    · subst ha
      have : k = n := by simpa [Gh.new, eq_comm] using e
      subst this
      exact ⟨⟨_, upd_same⟩, a, by simp [Gh.new]⟩
    · have : g.own a = some k := by simpa [Gh.new, ha] using e
      obtain ⟨⟨u, hu⟩, b, hb⟩ := r.own a k this
      exact ⟨⟨u, by rw [upd_ne ha]; exact hu⟩, b, by simp [Gh.new, hrho k b hb, hb]⟩
  · obtain ⟨N, hN⟩ := r.fin
    refine ⟨max N (n + 1), fun k hk => ?_⟩
    have h1 : N ≤ k := by omega
    have h2 : k ≠ n := by omega
    exact ⟨by simp [Gh.new, h2, (hN k h1).1], by rw [sup_ne h2]; exact (hN k h1).2⟩
/-- a cell is written -/
theorem Rel.write (r : Rel X g st H) {n : Nat} {a : Addr} {m m' : MO} {o : HO} (h : st n = some m) (ha : g.rho n = some a) (hm : ∀ st' H', Step g st H g st' H' → H' = upd H a o → MRep X g H' n a m') :
    Step g st H g (sup st n m') (upd H a o) ∧ Rel X g (sup st n m') (upd H a o) := by
  obtain ⟨a', e1, e2, e3⟩ := r.cell n m h
  rw [ha] at e1; cases e1
  have nb : ∀ b, Nob g st b → b ≠ a := fun b w => by
    rintro rfl
    rw [(w n e2).1] at h; cases h
  have s : Step g st H g (sup st n m') (upd H a o) := by
    refine ⟨fun _ _ e => e, fun k b e q => ?_, fun b o w _ => rfl, fun b o w e _ => by rw [upd_ne (nb b w)]; exact e, fun b kv w r => ?_⟩
    · have : k ≠ n := by rintro rfl; rw [q] at h; cases h
      rw [sup_ne this]; exact q
    · rcases r with e | ⟨ob, e⟩
      · exact .inl (by rw [upd_ne (nb b (.of w))]; exact e)
      · exact .inr ⟨ob, by rw [upd_ne (nb b (.of w))]; exact e⟩
  refine ⟨s, fun k mk hk => ?_, fun b k e => ?_, ?_⟩
  · by_cases hkn : k = n
    · subst hkn
      rw [sup_same] at hk; cases hk
      exact ⟨a, ha, e2, hm _ _ s rfl⟩
    · rw [sup_ne hkn] at hk
      obtain ⟨b, f1, f2, f3⟩ := r.cell k mk hk
      exact ⟨b, f1, f2, f3.mono s (fun c hc => upd_ne (by rintro rfl; rw [e2] at hc; exact hkn (Option.some.inj hc).symm)) (fun _ h => h) f2⟩
  · by_cases hb : b = a
    · subst hb; exact ⟨⟨_, upd_same⟩, (r.own b k e).2⟩
    · obtain ⟨⟨u, hu⟩, q⟩ := r.own b k e
      exact ⟨⟨u, by rw [upd_ne hb]; exact hu⟩, q⟩
  · obtain ⟨N, hN⟩ := r.fin
    refine ⟨N, fun k hk => ⟨(hN k hk).1, ?_⟩⟩
    have : k ≠ n := by rintro rfl; rw [(hN k hk).2] at h; cases h
    rw [sup_ne this]; exact (hN k hk).2
/-- a cell is frozen -/
def Gh.fr (g : Gh) (p : Addr) : Gh := ⟨g.rho, fun a => if a = p then none else g.own a⟩
theorem Rel.freeze (r : Rel X g st H) {n : Nat} {a : Addr} {m : MO} (h : st n = some m) (ha : g.rho n = some a) : Step g st H (g.fr a) (sdel st n) H ∧ Rel X (g.fr a) (sdel st n) H := by
  obtain ⟨a', e1, e2, e3⟩ := r.cell n m h
  rw [ha] at e1; cases e1
  have nb : ∀ b, Nob g st b → b ≠ a := fun b w => by
    rintro rfl
    rw [(w n e2).1] at h; cases h
  have s : Step g st H (g.fr a) (sdel st n) H := by
    refine ⟨fun _ _ e => e, fun k b e q => ?_, fun b o w _ => by simp [Gh.fr, nb b w], fun b o _ e _ => e, fun b kv _ r => r⟩
    by_cases hk : k = n
    · subst hk; exact sdel_same
    · rw [sdel_ne hk]; exact q
  refine ⟨s, fun k mk hk => ?_, fun b k e => ?_, ?_⟩
  · have hkn : k ≠ n := by rintro rfl; rw [sdel_same] at hk; cases hk
    rw [sdel_ne hkn] at hk
    obtain ⟨b, f1, f2, f3⟩ := r.cell k mk hk
    have nb : ∀ c, g.own c = some k → c ≠ a := fun c hc => by rintro rfl; rw [e2] at hc; exact hkn (Option.some.inj hc).symm
    exact ⟨b, f1, by simp [Gh.fr, nb b f2, f2], f3.mono s (fun _ _ => rfl) (fun c hc => by simp [Gh.fr, nb c hc, hc]) f2⟩
  · by_cases hb : b = a
    · subst hb; simp [Gh.fr] at e
    · exact r.own b k (by simpa [Gh.fr, hb] using e)
  · obtain ⟨N, hN⟩ := r.fin
    refine ⟨N, fun k hk => ⟨(hN k hk).1, ?_⟩⟩
    by_cases hkn : k = n
    · subst hkn; exact sdel_same
    · rw [sdel_ne hkn]; exact (hN k hk).2
end
end TL
namespace TL
open PySem L2

/-! ### readings over trees -/
abbrev DSt := List (Option D)
abbrev QD := D → Sto → Prop
abbrev TDE := DSt → Sto → QD → Prop
abbrev TDT := DSt → Sto → (Bool → Sto → Prop) → Prop
abbrev TDA := DSt → Sto → (List D → Sto → Prop) → Prop
structure DEnds where
  nx : DSt → Sto → Prop
  rt : QD
  bk : DSt → Sto → Prop := fun _ _ => False
  ct : DSt → Sto → Prop := fun _ _ => False
abbrev TDS := DEnds → DSt → Sto → Prop
structure EnvR (G : Gx) (g : Gh) (H : Hp) (σ : St) (env : DSt) : Prop where
  len : σ.length = env.length
  get : ∀ (i : Nat) d, env[i]? = some (some d) → ∃ v, σ[i]? = some (some v) ∧ Rep G g H v d
section
variable {G : Gx} {g g' : Gh} {st st' : Sto} {H H' : Hp} {σ : St} {env : DSt}
theorem EnvR.mono (s : Step g st H g' st' H') (e : EnvR G g H σ env) : EnvR G g' H' σ env := ⟨e.len, fun i d h => let ⟨v, a, b⟩ := e.get i d h; ⟨v, a, b.mono s⟩⟩
theorem EnvR.set (e : EnvR G g H σ env) {v : V} {d : D} (r : Rep G g H v d) (i : Nat) : EnvR G g H (σ.set i (some v)) (env.set i (some d)) := by
  refine ⟨by simp [e.len], fun j d' h => ?_⟩
  by_cases hj : j = i
  · subst hj
    by_cases hl : j < env.length
    · rw [List.getElem?_set_self hl] at h
      cases h
      exact ⟨v, List.getElem?_set_self (by rw [e.len]; exact hl), r⟩
    · rw [List.getElem?_eq_none (by simp; omega)] at h; cases h
  · rw [List.getElem?_set_ne (Ne.symm hj)] at h ⊢
    exact e.get j d' h
end
def Post (G : Gx) (g : Gh) (st : Sto) (H : Hp) (Qd : QD) (Q : VK) : Prop := ∀ d st' g' H' v, Step g st H g' st' H' → Rel G g' st' H' → Rep G g' H' v d → Qd d st' → Q v H'
def PostT (G : Gx) (g : Gh) (st : Sto) (H : Hp) (Qd : Bool → Sto → Prop) (Q : Bool → Hp → Prop) : Prop := ∀ b st' g' H', Step g st H g' st' H' → Rel G g' st' H' → Qd b st' → Q b H'
def PostA (G : Gx) (g : Gh) (st : Sto) (H : Hp) (Qd : List D → Sto → Prop) (Q : List V → Hp → Prop) : Prop := ∀ ds st' g' H' vs, Step g st H g' st' H' → Rel G g' st' H' → Reps G g' H' vs ds → Qd ds st' → Q vs H'
def PostN (G : Gx) (g : Gh) (st : Sto) (H : Hp) (Qd : DSt → Sto → Prop) (Q : St → Hp → Prop) : Prop := ∀ env st' g' H' σ, Step g st H g' st' H' → Rel G g' st' H' → EnvR G g' H' σ env → Qd env st' → Q σ H'
theorem Post.step {G : Gx} {g g1 : Gh} {st st1 : Sto} {H H1 : Hp} {Qd : QD} {Q : VK} (p : Post G g st H Qd Q) (s : Step g st H g1 st1 H1) : Post G g1 st1 H1 Qd Q := fun d st' g' H' v s1 => p d st' g' H' v (s.trans s1)
theorem PostT.step {G : Gx} {g g1 : Gh} {st st1 : Sto} {H H1 : Hp} {Qd : Bool → Sto → Prop} {Q : Bool → Hp → Prop} (p : PostT G g st H Qd Q) (s : Step g st H g1 st1 H1) : PostT G g1 st1 H1 Qd Q := fun d st' g' H' s1 => p d st' g' H' (s.trans s1)
theorem PostA.step {G : Gx} {g g1 : Gh} {st st1 : Sto} {H H1 : Hp} {Qd : List D → Sto → Prop} {Q : List V → Hp → Prop} (p : PostA G g st H Qd Q) (s : Step g st H g1 st1 H1) : PostA G g1 st1 H1 Qd Q := fun d st' g' H' v s1 => p d st' g' H' v (s.trans s1)
theorem PostN.step {G : Gx} {g g1 : Gh} {st st1 : Sto} {H H1 : Hp} {Qd : DSt → Sto → Prop} {Q : St → Hp → Prop} (p : PostN G g st H Qd Q) (s : Step g st H g1 st1 H1) : PostN G g1 st1 H1 Qd Q := fun d st' g' H' v s1 => p d st' g' H' v (s.trans s1)
theorem Post.now {G : Gx} {g : Gh} {st : Sto} {H : Hp} {Qd : QD} {Q : VK} (p : Post G g st H Qd Q) {d : D} {v : V} (r : Rel G g st H) (rv : Rep G g H v d) (q : Qd d st) : Q v H := p d st g H v (Step.refl g st H) r rv q
structure PostS (G : Gx) (g : Gh) (st : Sto) (H : Hp) (Dd : DEnds) (D : Ends) : Prop where
  nx : PostN G g st H Dd.nx D.nx
  rt : Post G g st H Dd.rt D.rt
  bk : PostN G g st H Dd.bk D.bk
  ct : PostN G g st H Dd.ct D.ct
theorem PostS.step {G : Gx} {g g1 : Gh} {st st1 : Sto} {H H1 : Hp} {Dd : DEnds} {D : Ends} (p : PostS G g st H Dd D) (s : Step g st H g1 st1 H1) : PostS G g1 st1 H1 Dd D := ⟨p.nx.step s, p.rt.step s, p.bk.step s, p.ct.step s⟩

def liftE (G : Gx) (t : TDE) : TE := fun σ H Q => ∃ g st env Qd, Rel G g st H ∧ EnvR G g H σ env ∧ t env st Qd ∧ Post G g st H Qd Q
def liftT (G : Gx) (t : TDT) : TT := fun σ H Q => ∃ g st env Qd, Rel G g st H ∧ EnvR G g H σ env ∧ t env st Qd ∧ PostT G g st H Qd Q
def liftA (G : Gx) (t : TDA) : TA := fun σ H Q => ∃ g st env Qd, Rel G g st H ∧ EnvR G g H σ env ∧ t env st Qd ∧ PostA G g st H Qd Q
def liftS (G : Gx) (t : TDS) : TS := fun D σ H => ∃ g st env Dd, Rel G g st H ∧ EnvR G g H σ env ∧ t Dd env st ∧ PostS G g st H Dd D

/-- the context's fixed part -/
abbrev gx (X : Cx) (cA : Nat → Addr) : Gx := ⟨X.K, cA⟩
def DE (cA : Nat → Addr) (X : Cx) (e : Expr) (t : TDE) : Prop := PE X e (liftE (gx X cA) t)
def DT (cA : Nat → Addr) (X : Cx) (e : Expr) (t : TDT) : Prop := PT X e (liftT (gx X cA) t)
def DW (cA : Nat → Addr) (X : Cx) (e : Expr) (t : TDT) : Prop := PW X e (liftT (gx X cA) t)
def DA (cA : Nat → Addr) (X : Cx) (es : List Expr) (t : TDA) : Prop := PA X es (liftA (gx X cA) t)
def DS (cA : Nat → Addr) (X : Cx) (st : Stmt) (t : TDS) : Prop := PS X st (liftS (gx X cA) t)
def DSs (cA : Nat → Addr) (X : Cx) (st : List Stmt) (t : TDS) : Prop := PSs X st (liftS (gx X cA) t)

/-! ### weakening -/
section
variable {X : Cx} {cA : Nat → Addr}
theorem pe_weak {e : Expr} {t t' : TE} (h : PE X e t) (i : ∀ σ H Q, t' σ H Q → t σ H Q) : PE X e t' := ⟨fun pins s σ H Q I q => h.run pins s σ H Q I (i σ H Q q)⟩
theorem pt_weak {e : Expr} {t t' : TT} (h : PT X e t) (i : ∀ σ H Q, t' σ H Q → t σ H Q) : PT X e t' := ⟨fun pins s σ H Q I q => h.run pins s σ H Q I (i σ H Q q)⟩
theorem pw_weak {e : Expr} {t t' : TT} (h : PW X e t) (i : ∀ σ H Q, t' σ H Q → t σ H Q) : PW X e t' := ⟨fun w pins s σ H Q I q => h.run w pins s σ H Q I (i σ H Q q)⟩
theorem pa_weak {e : List Expr} {t t' : TA} (h : PA X e t) (i : ∀ σ H Q, t' σ H Q → t σ H Q) : PA X e t' := ⟨fun pos pins s σ H Q I q => h.run pos pins s σ H Q I (i σ H Q q)⟩
theorem ps_weak {e : Stmt} {t t' : TS} (h : PS X e t) (i : ∀ σ H Q, t' Q σ H → t Q σ H) : PS X e t' := ⟨fun pins s σ H Q I q => h.run pins s σ H Q I (i σ H Q q)⟩
theorem pss_weak {e : List Stmt} {t t' : TS} (h : PSs X e t) (i : ∀ σ H Q, t' Q σ H → t Q σ H) : PSs X e t' := ⟨fun pins s σ H Q I q => h.run pins s σ H Q I (i σ H Q q)⟩

/-! ### names, constants -/
def dVar (i : Nat) : TDE := fun env st Q => match env[i]? with
  | some (some d) => Q d st
  | _ => False
theorem de_var {i : Nat} {x : Str} {pos : Pos} (hN : X.N[i]? = some x := by rfl) (hv : Vis X.env.scope x := by first | exact Or.inl rfl | exact Or.inr (Or.inl rfl) | exact Or.inr (Or.inr rfl)) (hd : (x == ("__debug__" : Str)) = false := by decide)
    (hcd : (x == ("__classdict__" : Str)) = false := by decide) : DE cA X (.Name x pos) (dVar i) :=
  pe_weak (pe_var hN hv hd hcd) fun σ H Q ⟨g, st, env, Qd, r, e, h, p⟩ => by
    unfold dVar at h
    split at h
    · rename_i d hd
      obtain ⟨v, hv, rv⟩ := e.get i d hd
      exact ⟨v, hv, p.now r rv h⟩
    · exact h.elim
theorem dv (i : Nat) {x : Str} {pos : Pos} (hN : X.N[i]? = some x := by rfl) (hv : Vis X.env.scope x := by first | exact Or.inl rfl | exact Or.inr (Or.inl rfl) | exact Or.inr (Or.inr rfl)) (hd : (x == ("__debug__" : Str)) = false := by decide)
    (hcd : (x == ("__classdict__" : Str)) = false := by decide) : DE cA X (.Name x pos) (dVar i) := de_var hN hv hd hcd
def dC (d : D) : TDE := fun _ st Q => Q d st
theorem de_const {e : Expr} {v : V} {d : D} (h : PE X e (tC v)) (r : ∀ g H, Rep (gx X cA) g H v d) : DE cA X e (dC d) :=
  pe_weak h fun σ H Q ⟨g, st, env, Qd, rl, e, h, p⟩ => p.now rl (r g H) h
theorem de_int {i j pos} : DE cA X (.Constant (.int i) j pos) (dC (.int i)) := de_const pe_int fun _ _ => .int i
theorem de_bl {i j pos} : DE cA X (.Constant (.bool i) j pos) (dC (.bl i)) := de_const pe_bl fun _ _ => .bl i
theorem de_non {j pos} : DE cA X (.Constant .none j pos) (dC .non) := de_const pe_non fun _ _ => .non
theorem de_str {i j pos} : DE cA X (.Constant (.str i) j pos) (dC (.str i)) := de_const pe_str fun _ _ => .str i

/-! ### operators by values -/
abbrev RD2 := D → D → Sto → QD → Prop
abbrev RD1 := D → Sto → QD → Prop
/-- the tree's reading implies the layer's -/
def Im2 (G : Gx) (r : R2) (rd : RD2) : Prop := ∀ g st H x y dx dy Qd Q, Rel G g st H → Rep G g H x dx → Rep G g H y dy → rd dx dy st Qd → Post G g st H Qd Q → r x y H Q
def Im1 (G : Gx) (r : V → Hp → VK → Prop) (rd : RD1) : Prop := ∀ g st H x dx Qd Q, Rel G g st H → Rep G g H x dx → rd dx st Qd → Post G g st H Qd Q → r x H Q
def ImA (G : Gx) (r : List V → Hp → VK → Prop) (rd : List D → Sto → QD → Prop) : Prop := ∀ g st H xs ds Qd Q, Rel G g st H → Reps G g H xs ds → rd ds st Qd → Post G g st H Qd Q → r xs H Q
def dOp (rd : RD2) (ta tb : TDE) : TDE := fun env st Q => ta env st fun x st1 => tb env st1 fun y st2 => rd x y st2 Q
def dUn (rd : RD1) (ta : TDE) : TDE := fun env st Q => ta env st fun x st1 => rd x st1 Q
theorem lift2 {r : R2} {rd : RD2} {ta tb : TDE} (im : Im2 (gx X cA) r rd) : ∀ σ H Q, liftE (gx X cA) (dOp rd ta tb) σ H Q → tOp r (liftE (gx X cA) ta) (liftE (gx X cA) tb) σ H Q := by
  rintro σ H Q ⟨g, st, env, Qd, rl, en, h, p⟩
  refine ⟨g, st, env, _, rl, en, h, fun d1 st1 g1 H1 v1 s1 rl1 r1 h1 => ?_⟩
  refine ⟨g1, st1, env, _, rl1, en.mono s1, h1, fun d2 st2 g2 H2 v2 s2 rl2 r2 h2 => ?_⟩
  exact im g2 st2 H2 v1 v2 d1 d2 Qd Q rl2 (r1.mono s2) r2 h2 (p.step (s1.trans s2))
theorem lift1 {r : V → Hp → VK → Prop} {rd : RD1} {ta : TDE} (im : Im1 (gx X cA) r rd) : ∀ σ H Q, liftE (gx X cA) (dUn rd ta) σ H Q → tUn r (liftE (gx X cA) ta) σ H Q := by
  rintro σ H Q ⟨g, st, env, Qd, rl, en, h, p⟩
  refine ⟨g, st, env, _, rl, en, h, fun d1 st1 g1 H1 v1 s1 rl1 r1 h1 => ?_⟩
  exact im g1 st1 H1 v1 d1 Qd Q rl1 r1 h1 (p.step s1)
theorem de_op {a b : Expr} {op : Operator} {pos : Pos} {r : R2} {rd : RD2} {ta tb : TDE} (ho : OpR X (binaryOp op) r) (im : Im2 (gx X cA) r rd) (ha : DE cA X a ta) (hb : DE cA X b tb) : DE cA X (.BinOp a op b pos) (dOp rd ta tb) :=
  pe_weak (pe_op ho ha hb) (lift2 im)
theorem de_cmp {a b : Expr} {op : CmpOp} {pos : Pos} {r : R2} {rd : RD2} {ta tb : TDE} (ho : OpR X (compareOp op) r) (im : Im2 (gx X cA) r rd) (ha : DE cA X a ta) (hb : DE cA X b tb) (hm : behindInMarks op b = false) : DE cA X (.Compare a [op] [b] pos) (dOp rd ta tb) :=
  pe_weak (pe_cmpR ho ha hb hm) (lift2 im)
/-- a test: the answer is a bool -/
def dTst (t : TDE) : TDT := fun env st Q => t env st fun d st1 => match d with
  | .bl b => Q b st1
  | _ => False
theorem liftTst {t : TDE} : ∀ σ H Q, liftT (gx X cA) (dTst t) σ H Q → tTest (liftE (gx X cA) t) σ H Q := by
  rintro σ H Q ⟨g, st, env, Qd, rl, en, h, p⟩
  refine ⟨g, st, env, _, rl, en, h, fun d1 st1 g1 H1 v1 s1 rl1 r1 h1 => ?_⟩
  cases r1 with
  | bl b => exact ⟨b, rfl, p b st1 g1 H1 s1 rl1 h1⟩
  | _ => exact h1.elim
theorem dt_val {e : Expr} {t : TDE} (h : DE cA X e t) (he : ∀ whole, isTrue e X.env whole = (do let v ← whole; standAt e.pos; holding [v] (truthy v)) := by intro _; rfl) : DT cA X e (dTst t) :=
  pt_weak (pt_val h he) liftTst
theorem dt_cmp {a b : Expr} {op : CmpOp} {pos : Pos} {r : R2} {rd : RD2} {ta tb : TDE} (ho : OpR X (compareOp op) r) (im : Im2 (gx X cA) r rd) (ha : DE cA X a ta) (hb : DE cA X b tb) (hm : behindInMarks op b = false) : DT cA X (.Compare a [op] [b] pos) (dTst (dOp rd ta tb)) :=
  pt_weak (pt_cmpR ho ha hb hm) fun σ H Q h => by
    obtain ⟨g, st, env, Qd, rl, en, h, p⟩ := h
    refine ⟨g, st, env, _, rl, en, h, fun d1 st1 g1 H1 v1 s1 rl1 r1 h1 => ?_⟩
    refine ⟨g1, st1, env, _, rl1, en.mono s1, h1, fun d2 st2 g2 H2 v2 s2 rl2 r2 h2 => ?_⟩
    refine im g2 st2 H2 v1 v2 d1 d2 _ _ rl2 (r1.mono s2) r2 h2 fun d3 st3 g3 H3 v3 s3 rl3 r3 h3 => ?_
    cases r3 with
    | bl b => exact ⟨b, rfl, p b st3 g3 H3 ((s1.trans s2).trans s3) rl3 h3⟩
    | _ => exact h3.elim

/-! ### and, or, not, if -/
def dAnd (t u : TDT) : TDT := fun env st Q => t env st fun c st1 => if c = true then u env st1 Q else Q false st1
def dOr (t u : TDT) : TDT := fun env st Q => t env st fun c st1 => if c = true then Q true st1 else u env st1 Q
def dNot (t : TDT) : TDT := fun env st Q => t env st fun c st1 => Q (!c) st1
theorem dt_w {e : Expr} {t : TDT} (h : DW cA X e t) : DT cA X e t := PW.pt h
theorem dw_and1 {a : Expr} {pos : Pos} {t : TDT} (h : DT cA X a t) : DW cA X (.BoolOp .And [a] pos) t := pw_and1 h
theorem dw_or1 {a : Expr} {pos : Pos} {t : TDT} (h : DT cA X a t) : DW cA X (.BoolOp .Or [a] pos) t := pw_or1 h
theorem dw_and {a b : Expr} {rest : List Expr} {pos : Pos} {t u : TDT} (ha : DT cA X a t) (hb : DW cA X (.BoolOp .And (b :: rest) pos) u) : DW cA X (.BoolOp .And (a :: b :: rest) pos) (dAnd t u) :=
  pw_weak (pw_and ha hb) fun σ H Q ⟨g, st, env, Qd, rl, en, h, p⟩ => ⟨g, st, env, _, rl, en, h, fun c st1 g1 H1 s1 rl1 h1 => by
    cases c with
    | true => exact ⟨g1, st1, env, Qd, rl1, en.mono s1, h1, p.step s1⟩
    | false => exact p _ _ _ _ s1 rl1 h1⟩
theorem dw_or {a b : Expr} {rest : List Expr} {pos : Pos} {t u : TDT} (ha : DT cA X a t) (hb : DW cA X (.BoolOp .Or (b :: rest) pos) u) : DW cA X (.BoolOp .Or (a :: b :: rest) pos) (dOr t u) :=
  pw_weak (pw_or ha hb) fun σ H Q ⟨g, st, env, Qd, rl, en, h, p⟩ => ⟨g, st, env, _, rl, en, h, fun c st1 g1 H1 s1 rl1 h1 => by
    cases c with
    | true => exact p _ _ _ _ s1 rl1 h1
    | false => exact ⟨g1, st1, env, Qd, rl1, en.mono s1, h1, p.step s1⟩⟩
theorem dt_not {a : Expr} {pos : Pos} {t : TDT} (ha : DT cA X a t) : DT cA X (.UnaryOp .Not a pos) (dNot t) :=
  pt_weak (pt_not ha) fun σ H Q ⟨g, st, env, Qd, rl, en, h, p⟩ => ⟨g, st, env, _, rl, en, h, fun c st1 g1 H1 s1 rl1 h1 => p _ _ _ _ s1 rl1 h1⟩
def dAndV (ta tb : TDE) : TDE := fun env st Q => ta env st fun x st1 => match x with
  | .bl c => if c = true then tb env st1 Q else Q (.bl false) st1
  | _ => False
def dOrV (ta tb : TDE) : TDE := fun env st Q => ta env st fun x st1 => match x with
  | .bl c => if c = true then Q (.bl true) st1 else tb env st1 Q
  | _ => False
def dNotV (ta : TDE) : TDE := fun env st Q => ta env st fun x st1 => match x with
  | .bl c => Q (.bl (!c)) st1
  | _ => False
theorem de_one {a : Expr} {op} {pos : Pos} {t : TDE} (h : DE cA X a t) : DE cA X (.BoolOp op [a] pos) t := pe_one h
theorem de_and {a b : Expr} {rest : List Expr} {pos : Pos} {t u : TDE} (ha : DE cA X a t) (hb : DE cA X (.BoolOp .And (b :: rest) pos) u) : DE cA X (.BoolOp .And (a :: b :: rest) pos) (dAndV t u) :=
  pe_weak (pe_and ha hb) fun σ H Q ⟨g, st, env, Qd, rl, en, h, p⟩ => ⟨g, st, env, _, rl, en, h, fun d st1 g1 H1 v s1 rl1 r1 h1 => by
    cases r1 with
    | bl c =>
      refine ⟨c, rfl, ?_⟩
      cases c with
      | true => exact ⟨g1, st1, env, Qd, rl1, en.mono s1, h1, p.step s1⟩
      | false => exact p _ _ _ _ _ s1 rl1 (.bl false) h1
    | _ => exact h1.elim⟩
theorem de_or {a b : Expr} {rest : List Expr} {pos : Pos} {t u : TDE} (ha : DE cA X a t) (hb : DE cA X (.BoolOp .Or (b :: rest) pos) u) : DE cA X (.BoolOp .Or (a :: b :: rest) pos) (dOrV t u) :=
  pe_weak (pe_or ha hb) fun σ H Q ⟨g, st, env, Qd, rl, en, h, p⟩ => ⟨g, st, env, _, rl, en, h, fun d st1 g1 H1 v s1 rl1 r1 h1 => by
    cases r1 with
    | bl c =>
      refine ⟨c, rfl, ?_⟩
      cases c with
      | false => exact ⟨g1, st1, env, Qd, rl1, en.mono s1, h1, p.step s1⟩
      | true => exact p _ _ _ _ _ s1 rl1 (.bl true) h1
    | _ => exact h1.elim⟩
theorem de_not {a : Expr} {pos : Pos} {t : TDE} (ha : DE cA X a t) : DE cA X (.UnaryOp .Not a pos) (dNotV t) :=
  pe_weak (pe_not ha) fun σ H Q ⟨g, st, env, Qd, rl, en, h, p⟩ => ⟨g, st, env, _, rl, en, h, fun d st1 g1 H1 v s1 rl1 r1 h1 => by
    cases r1 with
    | bl c => exact ⟨c, rfl, p _ _ _ _ _ s1 rl1 (.bl _) h1⟩
    | _ => exact h1.elim⟩
def dIf (t : TDT) (ta tb : TDE) : TDE := fun env st Q => t env st fun c st1 => if c = true then ta env st1 Q else tb env st1 Q
theorem de_ifExp {c a b : Expr} {pos : Pos} {t : TDT} {ta tb : TDE} (hc : DT cA X c t) (ha : DE cA X a ta) (hb : DE cA X b tb) : DE cA X (.IfExp c a b pos) (dIf t ta tb) :=
  pe_weak (pe_ifExp hc ha hb) fun σ H Q ⟨g, st, env, Qd, rl, en, h, p⟩ => ⟨g, st, env, _, rl, en, h, fun c st1 g1 H1 s1 rl1 h1 => by
    cases c with
    | true => exact ⟨g1, st1, env, Qd, rl1, en.mono s1, h1, p.step s1⟩
    | false => exact ⟨g1, st1, env, Qd, rl1, en.mono s1, h1, p.step s1⟩⟩

/-! ### argument lists -/
def dNil : TDA := fun _ st Q => Q [] st
def dCons (ta : TDE) (tr : TDA) : TDA := fun env st Q => ta env st fun x st1 => tr env st1 fun xs st2 => Q (x :: xs) st2
theorem da_nil : DA cA X [] dNil := pa_weak pa_nil fun σ H Q ⟨g, st, env, Qd, rl, en, h, p⟩ => p _ _ _ _ _ (Step.refl g st H) rl .nil h
theorem da_cons {e : Expr} {es : List Expr} {te : TDE} {t : TDA} (ha : DE cA X e te) (hr : DA cA X es t) (hs : starEach (e :: es) X.env = (false, eval e X.env) :: starEach es X.env := by rfl) : DA cA X (e :: es) (dCons te t) :=
  pa_weak (pa_cons ha hr hs) fun σ H Q ⟨g, st, env, Qd, rl, en, h, p⟩ => ⟨g, st, env, _, rl, en, h, fun d st1 g1 H1 v s1 rl1 r1 h1 =>
    ⟨g1, st1, env, _, rl1, en.mono s1, h1, fun ds st2 g2 H2 vs s2 rl2 r2 h2 => p _ _ _ _ _ (s1.trans s2) rl2 (.cons (r1.mono s2) r2) h2⟩⟩
/-- displays: a tuple; a list that is nobody's; a list in a new cell -/
def dTup (t : TDA) : TDE := fun env st Q => t env st fun ds st1 => ds.length ≤ sizeLine ∧ Q (.tup ds) st1
def dLst (t : TDA) : TDE := fun env st Q => t env st fun ds st1 => ds.length ≤ sizeLine ∧ Q (.lst ds) st1
def dLstM (t : TDA) : TDE := fun env st Q => t env st fun ds st1 => ds.length ≤ sizeLine ∧ ∀ n, st1 n = none → Q (.ref n) (sup st1 n (.lst ds))
theorem Rel.fresh {G : Gx} {g : Gh} {st : Sto} {H : Hp} (r : Rel G g st H) : ∃ n, g.rho n = none ∧ st n = none := let ⟨N, h⟩ := r.fin; ⟨N, h N (Nat.le_refl _)⟩
/-- what is new: nobody's -/
theorem lay_tup {G : Gx} {g : Gh} {st : Sto} {H : Hp} {vs : List V} {ds : List D} (rl : Rel G g st H) (r : Reps G g H vs ds) {Qd : QD} {Q : VK} (p : Post G g st H Qd Q) (q : Qd (.tup ds) st) : ∀ a, H a = none → Q (.ref a) (upd H a (.tup vs)) := fun a ha => by
  obtain ⟨s, rl'⟩ := rl.lay (o := .tup vs) ha
  exact p _ _ _ _ _ s rl' (.tup (.inl ⟨rl.free ha, .inl upd_same⟩) (r.mono s)) q
theorem lay_lst {G : Gx} {g : Gh} {st : Sto} {H : Hp} {vs : List V} {ds : List D} (rl : Rel G g st H) (r : Reps G g H vs ds) {Qd : QD} {Q : VK} (p : Post G g st H Qd Q) (q : Qd (.lst ds) st) : ∀ a, H a = none → Q (.ref a) (upd H a (.lst vs)) := fun a ha => by
  obtain ⟨s, rl'⟩ := rl.lay (o := .lst vs) ha
  exact p _ _ _ _ _ s rl' (.lst (rl.free ha) upd_same (r.mono s)) q
theorem lay_cell {G : Gx} {g : Gh} {st : Sto} {H : Hp} {vs : List V} {ds : List D} (rl : Rel G g st H) (r : Reps G g H vs ds) {Qd : QD} {Q : VK} (p : Post G g st H Qd Q) (q : ∀ n, st n = none → Qd (.ref n) (sup st n (.lst ds))) : ∀ a, H a = none → Q (.ref a) (upd H a (.lst vs)) := fun a ha => by
  obtain ⟨n, hn, hs⟩ := rl.fresh
  obtain ⟨s, rl'⟩ := rl.cellNew (o := .lst vs) (m := .lst ds) ha hn fun g' _ s' => ⟨vs, upd_same, r.mono s'⟩
  exact p _ _ _ _ _ s rl' (.ref (by simp [Gh.new])) (q n hs)
theorem de_tup {es : List Expr} {x1} {pos : Pos} {t : TDA} (h : DA cA X es t) : DE cA X (.Tuple es x1 pos) (dTup t) :=
  pe_weak (pe_tup h) fun σ H Q ⟨g, st, env, Qd, rl, en, h, p⟩ => ⟨g, st, env, _, rl, en, h, fun ds st1 g1 H1 vs s1 rl1 r1 h1 => ⟨by rw [r1.length]; exact h1.1, lay_tup rl1 r1 (p.step s1) h1.2⟩⟩
theorem de_lst {es : List Expr} {pos : Pos} {t : TDA} (h : DA cA X es t) : DE cA X (.List es pos) (dLst t) :=
  pe_weak (pe_lst h) fun σ H Q ⟨g, st, env, Qd, rl, en, h, p⟩ => ⟨g, st, env, _, rl, en, h, fun ds st1 g1 H1 vs s1 rl1 r1 h1 => ⟨by rw [r1.length]; exact h1.1, lay_lst rl1 r1 (p.step s1) h1.2⟩⟩
theorem de_lstM {es : List Expr} {pos : Pos} {t : TDA} (h : DA cA X es t) : DE cA X (.List es pos) (dLstM t) :=
  pe_weak (pe_lst h) fun σ H Q ⟨g, st, env, Qd, rl, en, h, p⟩ => ⟨g, st, env, _, rl, en, h, fun ds st1 g1 H1 vs s1 rl1 r1 h1 => ⟨by rw [r1.length]; exact h1.1, lay_cell rl1 r1 (p.step s1) h1.2⟩⟩
end
end TL
namespace TL
open PySem L2
section
variable {X : Cx} {cA : Nat → Addr}

/-! ### freezing a cell: a ghost's step behind an expression -/
def frz (d : D) (st : Sto) (Q : QD) : Prop := match d with
  | .ref n => match st n with
    | some (.lst ds) => Q (.lst ds) (sdel st n)
    | some (.dct kd) => Q (.dct kd) (sdel st n)
    | some (.obj c fd) => Q (.obj c fd) (sdel st n)
    | _ => False
  | d => Q d st
def dFrz (t : TDE) : TDE := fun env st Q => t env st fun d st1 => frz d st1 Q
theorem frz_post {G : Gx} {g : Gh} {st : Sto} {H : Hp} {v : V} {d : D} {Qd : QD} {Q : VK} (rl : Rel G g st H) (r : Rep G g H v d) (q : frz d st Qd) (p : Post G g st H Qd Q) : Q v H := by
  cases r with
  | @ref a n h =>
    unfold frz at q
    simp only at q
    split at q
    · rename_i ds e
      obtain ⟨s, rl'⟩ := rl.freeze e h
      obtain ⟨a', e1, e2, vs, e3, e4⟩ := rl.cell _ _ e
      rw [h] at e1; cases e1
      exact p _ _ _ _ _ s rl' (.lst (by simp [Gh.fr]) e3 (e4.mono s)) q
    · rename_i ds e
      obtain ⟨s, rl'⟩ := rl.freeze e h
      obtain ⟨a', e1, e2, vs, e3, e4⟩ := rl.cell _ _ e
      rw [h] at e1; cases e1
      exact p _ _ _ _ _ s rl' (.dct ⟨by simp [Gh.fr], .inl e3⟩ (e4.mono s)) q
    · rename_i c ds e
      obtain ⟨s, rl'⟩ := rl.freeze e h
      obtain ⟨a', e1, e2, dx, vs, e3, e4⟩ := rl.cell _ _ e
      rw [h] at e1; cases e1
      exact p _ _ _ _ _ s rl' (.obj (by simp [Gh.fr]) e3 (e4.mono s)) q
    · exact q.elim
  | non => exact p.now rl .non q
  | bl b => exact p.now rl (.bl b) q
  | int b => exact p.now rl (.int b) q
  | str b => exact p.now rl (.str b) q
  | tup h r => exact p.now rl (.tup h r) q
  | lst w h r => exact p.now rl (.lst w h r) q
  | dct h r => exact p.now rl (.dct h r) q
  | obj w h r => exact p.now rl (.obj w h r) q
  | scr h => exact p.now rl (.scr h) q
theorem de_frz {e : Expr} {t : TDE} (h : DE cA X e t) : DE cA X e (dFrz t) :=
  pe_weak h fun σ H Q ⟨g, st, env, Qd, rl, en, h, p⟩ => ⟨g, st, env, _, rl, en, h, fun d st1 g1 H1 v s1 rl1 r1 h1 => frz_post rl1 r1 h1 (p.step s1)⟩
/-- what an expression gives, weakened -/
theorem de_mono {e : Expr} {t t' : TDE} (h : DE cA X e t) (i : ∀ env st Q, t' env st Q → t env st Q) : DE cA X e t' :=
  pe_weak h fun σ H Q ⟨g, st, env, Qd, rl, en, h, p⟩ => ⟨g, st, env, Qd, rl, en, i _ _ _ h, p⟩

/-! ### statements -/
def dNext : TDS := fun D env st => D.nx env st
def dSeq (t u : TDS) : TDS := fun D env st => t { D with nx := u D } env st
theorem dss_nil : DSs cA X [] dNext := pss_weak pss_nil fun σ H Q ⟨g, st, env, Qd, rl, en, h, p⟩ => p.nx _ _ _ _ _ (Step.refl g st H) rl en h
theorem dss_cons {s : Stmt} {rest : List Stmt} {t u : TDS} (h1 : DS cA X s t) (h2 : DSs cA X rest u) : DSs cA X (s :: rest) (dSeq t u) :=
  pss_weak (pss_cons h1 h2) fun σ H Q ⟨g, st, env, Dd, rl, en, h, p⟩ => ⟨g, st, env, { Dd with nx := u Dd }, rl, en, h,
    ⟨fun env1 st1 g1 H1 σ1 s1 rl1 en1 h1 => ⟨g1, st1, env1, Dd, rl1, en1, h1, p.step s1⟩, p.rt, p.bk, p.ct⟩⟩
theorem dss_one {s : Stmt} {t : TDS} (h1 : DS cA X s t) : DSs cA X [s] t := pss_one h1
def dBreak : TDS := fun D env st => D.bk env st
def dCont : TDS := fun D env st => D.ct env st
theorem ds_pass {pos} : DS cA X (.Pass pos) dNext := ps_weak ps_pass fun σ H Q ⟨g, st, env, Qd, rl, en, h, p⟩ => p.nx _ _ _ _ _ (Step.refl g st H) rl en h
theorem ds_break {pos} : DS cA X (.Break pos) dBreak := ps_weak ps_break fun σ H Q ⟨g, st, env, Qd, rl, en, h, p⟩ => p.bk _ _ _ _ _ (Step.refl g st H) rl en h
theorem ds_continue {pos} : DS cA X (.Continue pos) dCont := ps_weak ps_continue fun σ H Q ⟨g, st, env, Qd, rl, en, h, p⟩ => p.ct _ _ _ _ _ (Step.refl g st H) rl en h
def dDrop (te : TDE) : TDS := fun D env st => te env st fun _ st1 => D.nx env st1
theorem ds_expr {e : Expr} {pos : Pos} {te : TDE} (he : DE cA X e te) (hs : swapsWith e none pos.line X.env = pure false := by rfl) : DS cA X (.Expr e pos) (dDrop te) :=
  ps_weak (ps_expr he hs) fun σ H Q ⟨g, st, env, Dd, rl, en, h, p⟩ => ⟨g, st, env, _, rl, en, h, fun d st1 g1 H1 v s1 rl1 r1 h1 => p.nx _ _ _ _ _ s1 rl1 (en.mono s1) h1⟩
def dRet (te : TDE) : TDS := fun D env st => te env st D.rt
theorem ds_ret {e : Expr} {pos : Pos} {te : TDE} (he : DE cA X e te) : DS cA X (.Return (some e) pos) (dRet te) :=
  ps_weak (ps_ret he) fun σ H Q ⟨g, st, env, Dd, rl, en, h, p⟩ => ⟨g, st, env, _, rl, en, h, p.rt⟩
def dRetN : TDS := fun D _ st => D.rt .non st
theorem ds_retN {pos : Pos} : DS cA X (.Return none pos) dRetN := ps_weak ps_retN fun σ H Q ⟨g, st, env, Dd, rl, en, h, p⟩ => p.rt.now rl .non h
def dIfS (c : TDT) (t u : TDS) : TDS := fun D env st => c env st fun b st1 => if b = true then t D env st1 else u D env st1
theorem ds_if {c : Expr} {a b : List Stmt} {pos : Pos} {tc : TDT} {t u : TDS} (hc : DT cA X c tc) (ha : DSs cA X a t) (hb : DSs cA X b u) : DS cA X (.If c a b pos) (dIfS tc t u) :=
  ps_weak (ps_if hc ha hb) fun σ H Q ⟨g, st, env, Dd, rl, en, h, p⟩ => ⟨g, st, env, _, rl, en, h, fun c st1 g1 H1 s1 rl1 h1 => by
    cases c with
    | true => exact ⟨g1, st1, env, Dd, rl1, en.mono s1, h1, p.step s1⟩
    | false => exact ⟨g1, st1, env, Dd, rl1, en.mono s1, h1, p.step s1⟩⟩
theorem ds_never {s : Stmt} : DS cA X s (fun _ _ _ => False) := ps_weak ps_never fun _ _ _ ⟨_, _, _, _, _, _, h, _⟩ => h
theorem dss_never {s : List Stmt} : DSs cA X s (fun _ _ _ => False) := pss_weak pss_never fun _ _ _ ⟨_, _, _, _, _, _, h, _⟩ => h
def dAsg (i : Nat) (te : TDE) : TDS := fun D env st => te env st fun d st1 => D.nx (env.set i (some d)) st1
theorem lift_asg {i : Nat} {te : TDE} : ∀ σ H Q, liftS (gx X cA) (dAsg i te) Q σ H → tAsg (liftE (gx X cA) te) (gName i) Q σ H := fun σ H Q ⟨g, st, env, Dd, rl, en, h, p⟩ =>
  ⟨g, st, env, _, rl, en, h, fun d st1 g1 H1 v s1 rl1 r1 h1 => p.nx _ _ _ _ _ s1 rl1 ((en.mono s1).set r1 i) h1⟩
theorem ds_set {i : Nat} {x : Str} {e : Expr} {te : TDE} {pos pos' : Pos} (hN : X.N.Nodup) (hi : X.N[i]? = some x) (hx : Loc X.env.scope x) (he : DE cA X e te) (hs : swapsWith e (some (.Name x pos')) pos.line X.env = pure false := by rfl) (hf : X.fn x = true ∨ X.env.scope.names.lookup x = some .local := by first | exact .inl rfl | exact .inr rfl | assumption) :
    DS cA X (.Assign [.Name x pos'] e pos) (dAsg i te) := ps_weak (ps_set hN hi hx he hs hf) lift_asg
/-- a, b = x, y -/
def dPar (i j : Nat) (ta : TDA) : TDS := fun D env st => ta env st fun ds st1 => match ds with
  | [v, w] => D.nx ((env.set i (some v)).set j (some w)) st1
  | _ => False
theorem ds_par {i j : Nat} {x y : Str} {a b : Expr} {ta : TDA} {px py pt pos : Pos} {kt k2 pt2} (hc : X.calm = true) (hN : X.N.Nodup) (hi : X.N[i]? = some x) (hj : X.N[j]? = some y) (hij : i ≠ j)
    (hx : X.env.scope.names.lookup x = some .local) (hy : X.env.scope.names.lookup y = some .local) (ha : DA cA X [a, b] ta)
    (hw : swappedStores [.Tuple [.Name x px, .Name y py] kt pt] (.Tuple [a, b] k2 pt2) X.env = pure (some [x, y]))
    (hs : swapsWithSole [.Tuple [.Name x px, .Name y py] kt pt] (.Tuple [a, b] k2 pt2) pos.line X.env = pure false := by rfl) :
    DS cA X (.Assign [.Tuple [.Name x px, .Name y py] kt pt] (.Tuple [a, b] k2 pt2) pos) (dPar i j ta) :=
  ps_weak (ps_par hc hN hi hj hij hx hy ha hw hs) fun σ H Q ⟨g, st, env, Dd, rl, en, h, p⟩ => ⟨g, st, env, _, rl, en, h, fun ds st1 g1 H1 vs s1 rl1 r1 h1 => by
    cases r1 with
    | nil => exact h1.elim
    | cons ra rt => cases rt with
      | nil => exact h1.elim
      | cons rb rt => cases rt with
        | nil => exact ⟨_, _, rfl, p.nx _ _ _ _ _ s1 rl1 (((en.mono s1).set ra i).set rb j) h1⟩
        | cons _ _ => exact h1.elim⟩

/-! ### while -/
def dWhile (c : TDT) (tb : TDS) : TDS := fun D env st => ∃ W : Nat → DSt → Sto → Prop, (∃ m, W m env st) ∧ ∀ m env st, W m env st →
  c env st fun b st1 => if b = true then ∃ N : DSt → Sto → Prop, (∀ env' st', N env' st' → ∃ m', m' < m ∧ W m' env' st') ∧ tb { D with nx := N, ct := N, bk := D.nx } env st1 else D.nx env st1
theorem ds_while {c : Expr} {body : List Stmt} {pos : Pos} {tc : TDT} {tb : TDS} (hp : PassesOwn (model X.prog X.w) X.A X.env X.xe) (hc : DT cA X c tc) (hb : DSs cA X body tb) : DS cA X (.While c body [] pos) (dWhile tc tb) :=
  ps_weak (ps_while hp hc hb) fun σ H Q ⟨g, st, env, Dd, rl, en, h, p⟩ => by
    obtain ⟨W, ⟨m0, w0⟩, turn⟩ := h
    refine ⟨fun m σ' H' => ∃ g' st' env', Step g st H g' st' H' ∧ Rel (gx X cA) g' st' H' ∧ EnvR (gx X cA) g' H' σ' env' ∧ W m env' st', ⟨m0, g, st, env, Step.refl g st H, rl, en, w0⟩, ?_⟩
    rintro m σ1 H1 ⟨g1, st1, env1, s1, rl1, en1, w1⟩
    refine ⟨g1, st1, env1, _, rl1, en1, turn m env1 st1 w1, fun b st2 g2 H2 s2 rl2 h2 => ?_⟩
    cases b with
    | false => exact p.nx _ _ _ _ _ (s1.trans s2) rl2 (en1.mono s2) h2
    | true =>
      obtain ⟨N, hN, h2⟩ := h2
      refine ⟨fun σ' H' => ∃ g' st' env', Step g st H g' st' H' ∧ Rel (gx X cA) g' st' H' ∧ EnvR (gx X cA) g' H' σ' env' ∧ N env' st', ?_, ?_⟩
      · rintro σ' H' ⟨g', st', env', s', rl', en', n'⟩
        obtain ⟨m', hm, w'⟩ := hN env' st' n'
        exact ⟨m', hm, g', st', env', s', rl', en', w'⟩
      · have again : PostN (gx X cA) g2 st2 H2 N (fun σ' H' => ∃ g' st' env', Step g st H g' st' H' ∧ Rel (gx X cA) g' st' H' ∧ EnvR (gx X cA) g' H' σ' env' ∧ N env' st') :=
          fun env3 st3 g3 H3 σ3 s3 rl3 en3 h3 => ⟨g3, st3, env3, (s1.trans s2).trans s3, rl3, en3, h3⟩
        exact ⟨g2, st2, env1, _, rl2, en1.mono s2, h2, ⟨again, p.rt.step (s1.trans s2), p.nx.step (s1.trans s2), again⟩⟩

/-! ### targets and walks -/
abbrev TDG := D → DSt → Sto → (DSt → Sto → Prop) → Prop
theorem set_none_comm (σ : St) (i j : Nat) (x : Option V) (h : i ≠ j) : (σ.set i x).set j none = (σ.set j none).set i x := List.set_comm _ _ h
theorem wipe_set {i : Nat} {x : Option V} : ∀ {is : List Nat} {σ : St}, i ∈ is → wipe (σ.set i x) is = wipe σ is
  | [], _, h => by simp at h
  | j :: r, σ, h => by
    unfold wipe
    by_cases hr : i ∈ r
    · rw [wipe_set hr]
    · have e : i = j := by
        rcases List.mem_cons.mp h with e | e
        · exact e
        · exact absurd e hr
      subst e
      have : ∀ (r : List Nat) (σ : St), i ∉ r → wipe (σ.set i x) r = (wipe σ r).set i x := by
        intro r
        induction r with
        | nil => intro σ _; rfl
        | cons k r ih =>
          intro σ hk
          have h1 : i ≠ k := fun z => hk (by simp [z])
          have h2 : i ∉ r := fun z => hk (by simp [z])
          show (wipe (σ.set i x) r).set k none = ((wipe σ r).set k none).set i x
          rw [ih σ h2, List.set_comm _ _ h1]
      rw [this r σ hr, List.set_set]
/-- behind a target: the slots outside of js are as they were -/
def PostG (G : Gx) (js : List Nat) (σ : St) (g : Gh) (st : Sto) (H : Hp) (Qd : DSt → Sto → Prop) (Q : St → Hp → Prop) : Prop := ∀ env st' g' H' σ', Step g st H g' st' H' → Rel G g' st' H' → EnvR G g' H' σ' env → wipe σ' js = wipe σ js → Qd env st' → Q σ' H'
def liftG (G : Gx) (js : List Nat) (t : TDG) : TG := fun v σ H Q => ∃ g st env d Qd, Rel G g st H ∧ EnvR G g H σ env ∧ Rep G g H v d ∧ t d env st Qd ∧ PostG G js σ g st H Qd Q
def DG (cA : Nat → Addr) (X : Cx) (js : List Nat) (e : Expr) (t : TDG) : Prop := PG X e (liftG (gx X cA) js t)
theorem pg_weak {e : Expr} {t t' : TG} (h : PG X e t) (i : ∀ v σ H Q, t' v σ H Q → t v σ H Q) : PG X e t' := ⟨fun pins s σ H v u Q I r q => h.run pins s σ H v u Q I r (i v σ H Q q)⟩
def gNm (i : Nat) : TDG := fun d env st Q => Q (env.set i (some d)) st
theorem dg_name {i : Nat} {js : List Nat} {x : Str} {pos : Pos} (hN : X.N.Nodup) (hi : X.N[i]? = some x) (hx : Loc X.env.scope x) (hj : i ∈ js := by decide) (hf : X.fn x = true ∨ X.env.scope.names.lookup x = some .local := by first | exact .inl rfl | exact .inr rfl | assumption) : DG cA X js (.Name x pos) (gNm i) :=
  pg_weak (pg_name hN hi hx hf) fun v σ H Q ⟨g, st, env, d, Qd, rl, en, r, h, p⟩ => p _ _ _ _ _ (Step.refl g st H) rl (en.set r i) (wipe_set hj) h
abbrev TDGs := List D → DSt → Sto → (DSt → Sto → Prop) → Prop
def liftGs (G : Gx) (js : List Nat) (t : TDGs) : TGs := fun vs σ H Q => ∃ g st env ds Qd, Rel G g st H ∧ EnvR G g H σ env ∧ Reps G g H vs ds ∧ t ds env st Qd ∧ PostG G js σ g st H Qd Q
def DGs (cA : Nat → Addr) (X : Cx) (js : List Nat) (es : List Expr) (t : TDGs) : Prop := PGs X es (liftGs (gx X cA) js t)
theorem pgs_weak {e : List Expr} {t t' : TGs} (h : PGs X e t) (i : ∀ v σ H Q, t' v σ H Q → t v σ H Q) : PGs X e t' := ⟨fun pins s σ H v u Q I r q => h.run pins s σ H v u Q I r (i v σ H Q q)⟩
def gsNil : TDGs := fun ds env st Q => match ds with
  | [] => Q env st
  | _ => False
def gsCons (t : TDG) (u : TDGs) : TDGs := fun ds env st Q => match ds with
  | d :: r => t d env st fun env1 st1 => u r env1 st1 Q
  | [] => False
theorem dgs_nil {js : List Nat} : DGs cA X js [] gsNil := pgs_weak pgs_nil fun v σ H Q ⟨g, st, env, d, Qd, rl, en, r, h, p⟩ => by
  cases r with
  | nil => exact ⟨rfl, p _ _ _ _ _ (Step.refl g st H) rl en rfl h⟩
  | cons _ _ => exact h.elim
theorem dgs_cons {js : List Nat} {e : Expr} {es : List Expr} {t : TDG} {u : TDGs} (h1 : DG cA X js e t) (h2 : DGs cA X js es u)
    (hs : (assignEach (e :: es) X.env).map (·.2) = assign e X.env :: (assignEach es X.env).map (·.2) := by rfl) : DGs cA X js (e :: es) (gsCons t u) :=
  pgs_weak (pgs_cons h1 h2 hs) fun v σ H Q ⟨g, st, env, d, Qd, rl, en, r, h, p⟩ => by
    cases r with
    | nil => exact h.elim
    | cons ra rt => exact ⟨_, _, rfl, g, st, env, _, _, rl, en, ra, h, fun env1 st1 g1 H1 σ1 s1 rl1 en1 w1 h1 => ⟨g1, st1, env1, _, Qd, rl1, en1, rt.mono s1, h1, fun env2 st2 g2 H2 σ2 s2 rl2 en2 w2 h2 => p _ _ _ _ _ (s1.trans s2) rl2 en2 (w2.trans w1) h2⟩⟩
def gTp (n : Nat) (t : TDGs) : TDG := fun d env st Q => match d with
  | .tup ds => ds.length = n ∧ t ds env st Q
  | _ => False
theorem dg_tup {js : List Nat} {es : List Expr} {k : Nat} {pos : Pos} {t : TDGs} {n : Nat} (hc : X.calm = true) (h : DGs cA X js es t)
    (hn : (assignEach es X.env).length = n := by rfl) (hst : (assignEach es X.env).findIdx? (·.1) = none := by rfl) : DG cA X js (.Tuple es k pos) (gTp n t) :=
  pg_weak (pg_tup hc h hn hst) fun v σ H Q ⟨g, st, env, d, Qd, rl, en, r, h, p⟩ => by
    cases r with
    | tup ft rs => exact ⟨_, _, rfl, ft.sq, by rw [rs.length]; exact h.1, g, st, env, _, Qd, rl, en, rs, h.2, p⟩
    | _ => exact h.elim
/-- target = e, any target -/
def dAsgG (te : TDE) (t : TDG) : TDS := fun D env st => te env st fun d st1 => t d env st1 D.nx
theorem ds_asg {js : List Nat} {tg e : Expr} {te : TDE} {pos : Pos} {t : TDG} (he : DE cA X e te) (hg : DG cA X js tg t) (hs : swapsWithSole [tg] e pos.line X.env = pure false := by rfl) (hw : swappedStores [tg] e X.env = pure none := by rfl)
    (h1 : (assignEach [tg] X.env).map (·.2) = [assign tg X.env] := by rfl) : DS cA X (.Assign [tg] e pos) (dAsgG te t) :=
  ps_weak (ps_asg he hg hs hw h1) fun σ H Q ⟨g, st, env, Dd, rl, en, h, p⟩ => ⟨g, st, env, _, rl, en, h, fun d st1 g1 H1 v s1 rl1 r1 h1 => ⟨g1, st1, env, d, _, rl1, en.mono s1, r1, h1, fun env2 st2 g2 H2 σ2 s2 rl2 en2 _ h2 => p.nx _ _ _ _ _ (s1.trans s2) rl2 en2 h2⟩⟩

/-- the walk J gives the trees ds, one by one, whatever happens in between -/
structure Wk (G : Gx) (g0 : Gh) (st0 : Sto) (H0 : Hp) (J : It) (ds : List D) : Prop where
  go : ∀ i d st g H, ds[i]? = some d → Step g0 st0 H0 g st H → Rel G g st H → J.go i H ∧ ∀ x H', J.yld i H x H' → Step g st H g st H' ∧ Rel G g st H' ∧ Rep G g H' x d
  stop : ∀ st g H, Step g0 st0 H0 g st H → Rel G g st H → J.stop ds.length H
theorem Wk.step {G : Gx} {g0 g1 : Gh} {st0 st1 : Sto} {H0 H1 : Hp} {J : It} {ds : List D} (w : Wk G g0 st0 H0 J ds) (s : Step g0 st0 H0 g1 st1 H1) : Wk G g1 st1 H1 J ds :=
  ⟨fun i d st g H e s1 r => w.go i d st g H e (s.trans s1) r, fun st g H s1 r => w.stop st g H (s.trans s1) r⟩
abbrev TDI := DSt → Sto → (List D → Sto → Prop) → Prop
def liftI (G : Gx) (t : TDI) : TI := fun σ H R => ∃ g st env Qd, Rel G g st H ∧ EnvR G g H σ env ∧ t env st Qd ∧ ∀ ds st' g' H' J, Step g st H g' st' H' → Rel G g' st' H' → Wk G g' st' H' J ds → Qd ds st' → R J H'
def DI (cA : Nat → Addr) (X : Cx) (tg e : Expr) (t : TDI) : Prop := PI X tg e (liftI (gx X cA) t)
theorem pi_weak {tg e : Expr} {t t' : TI} (h : PI X tg e t) (i : ∀ σ H Q, t' σ H Q → t σ H Q) : PI X tg e t' := ⟨fun pins s σ H Q I q => h.run pins s σ H Q I (i σ H Q q)⟩

/-! ### for -/
def dLoop (t : TDG) (tb : TDS) (D' : DEnds) : List D → DSt → Sto → Prop
  | [], env, st => D'.nx env st
  | d :: ds, env, st => t d env st fun env1 st1 => tb { D' with nx := dLoop t tb D' ds, ct := dLoop t tb D' ds, bk := D'.nx } env1 st1
def dFor (ti : TDI) (t : TDG) (tb : TDS) : TDS := fun D env st => ti env st fun ds st1 => dLoop t tb D ds env st1
theorem ds_for {js : List Nat} {tg iter : Expr} {body : List Stmt} {ti : TDI} {t : TDG} {tb : TDS} {pos : Pos} (hp : PassesOwn (model X.prog X.w) X.A X.env X.xe) (hc : X.calm = true) (hi : DI cA X tg iter ti) (hg : DG cA X js tg t) (hb : DSs cA X body tb)
    (hs : ∀ x, foldedSetIterable iter X.env x = pure x := by intro _; rfl) : DS cA X (.For tg iter body [] pos) (dFor ti t tb) :=
  ps_weak (ps_for hp hc hi hg hb hs) fun σ H Q ⟨g, st, env, Dd, rl, en, h, p⟩ => by
    refine ⟨g, st, env, _, rl, en, h, fun ds st1 g1 H1 J s1 rl1 wk h1 => ?_⟩
    refine ⟨fun i m σ' H' => i ≤ ds.length ∧ m = ds.length - i ∧ ∃ g' st' env', Step g1 st1 H1 g' st' H' ∧ Rel (gx X cA) g' st' H' ∧ EnvR (gx X cA) g' H' σ' env' ∧ dLoop t tb Dd (ds.drop i) env' st',
      ⟨_, Nat.zero_le _, rfl, g1, st1, env, Step.refl _ _ _, rl1, en.mono s1, h1⟩, ?_⟩
    rintro i m σ2 H2 ⟨hi, rfl, g2, st2, env2, s2, rl2, en2, h2⟩
    by_cases hlt : i < ds.length
    · rw [List.drop_eq_getElem_cons hlt] at h2
      obtain ⟨go, yld⟩ := wk.go i ds[i] st2 g2 H2 (by simp [hlt]) s2 rl2
      refine .inr ⟨go, fun σ' H' => ∃ g' st' env', Step g1 st1 H1 g' st' H' ∧ Rel (gx X cA) g' st' H' ∧ EnvR (gx X cA) g' H' σ' env' ∧ dLoop t tb Dd (ds.drop (i + 1)) env' st', fun σ' H' q => ⟨_, by omega, hlt, rfl, q⟩, fun x H' y => ?_⟩
      obtain ⟨s3, rl3, r3⟩ := yld x H' y
      refine ⟨g2, st2, env2, _, _, rl3, en2.mono s3, r3, h2, fun env4 st4 g4 H4 σ4 s4 rl4 en4 _ h4 => ?_⟩
      have s14 := (s2.trans s3).trans s4
      have again : PostN (gx X cA) g4 st4 H4 (dLoop t tb Dd (ds.drop (i + 1))) (fun σ' H' => ∃ g' st' env', Step g1 st1 H1 g' st' H' ∧ Rel (gx X cA) g' st' H' ∧ EnvR (gx X cA) g' H' σ' env' ∧ dLoop t tb Dd (ds.drop (i + 1)) env' st') :=
        fun env5 st5 g5 H5 σ5 s5 rl5 en5 h5 => ⟨g5, st5, env5, s14.trans s5, rl5, en5, h5⟩
      exact ⟨g4, st4, env4, _, rl4, en4, h4, ⟨again, p.rt.step (s1.trans s14), p.nx.step (s1.trans s14), again⟩⟩
    · have e : i = ds.length := by omega
      subst e
      rw [List.drop_length] at h2
      exact .inl ⟨wk.stop st2 g2 H2 s2 rl2, p.nx _ _ _ _ _ (s1.trans s2) rl2 en2 h2⟩

/-! ### list comprehensions -/
def wipeD (env : DSt) : List Nat → DSt
  | [] => env
  | i :: r => (wipeD env r).set i none
theorem wipeD_len (env : DSt) : ∀ vs, (wipeD env vs).length = env.length
  | [] => rfl
  | i :: r => by simp [wipeD, wipeD_len env r]
theorem wipeD_get {env : DSt} {i : Nat} {d : D} : ∀ {vs : List Nat}, (wipeD env vs)[i]? = some (some d) → env[i]? = some (some d) ∧ i ∉ vs
  | [], h => ⟨h, by simp⟩
  | j :: r, h => by
    by_cases e : i = j
    · subst e
      unfold wipeD at h
      by_cases hl : i < (wipeD env r).length
      · rw [List.getElem?_set_self hl] at h; cases h
      · rw [List.getElem?_eq_none (by simp; omega)] at h; cases h
    · unfold wipeD at h
      rw [List.getElem?_set_ne (Ne.symm e)] at h
      obtain ⟨a, b⟩ := wipeD_get (vs := r) h
      exact ⟨a, by simp [e, b]⟩
theorem EnvR.wipe {G : Gx} {g : Gh} {H : Hp} {σ : St} {env : DSt} (e : EnvR G g H σ env) (vs : List Nat) : EnvR G g H (wipe σ vs) (wipeD env vs) := by
  refine ⟨by rw [wipe_length, wipeD_len, e.len], fun i d h => ?_⟩
  obtain ⟨h1, h2⟩ := wipeD_get h
  obtain ⟨v, a, b⟩ := e.get i d h1
  exact ⟨v, by rw [wipe_out h2]; exact a, b⟩
def DTs (cA : Nat → Addr) (X : Cx) (ifs : List Expr) (t : TDT) : Prop := PTs X ifs (liftT (gx X cA) t)
def dYes : TDT := fun _ st Q => Q true st
theorem dts_nil : DTs cA X [] dYes := ⟨fun pins s σ H Q I ⟨g, st, env, Qd, rl, en, h, p⟩ => pts_nil.run pins s σ H Q I (p _ _ _ _ (Step.refl g st H) rl h)⟩
theorem dts_one {c : Expr} {t : TDT} (h : DT cA X c t) : DTs cA X [c] t := pts_one h
def dLcGo (t : TDG) (tt : TDT) (te : TDE) (env : DSt) : List D → List D → Sto → (List D → Sto → Prop) → Prop
  | [], acc, st, Q => Q acc st
  | d :: ds, acc, st, Q => t d env st fun env2 st2 => tt env2 st2 fun b st3 => if b = true then te env2 st3 fun y st4 => acc.length < sizeLine ∧ dLcGo t tt te env ds (acc ++ [y]) st4 Q else dLcGo t tt te env ds acc st3 Q
/-- the list that comes: nobody's -/
def dLc (ti : TDI) (t : TDG) (tt : TDT) (te : TDE) (vs : List Nat) : TDE := fun env st Q => ti env st fun ds st1 => dLcGo t tt te (wipeD env vs) ds [] st1 fun out st2 => Q (.lst out) st2
/-- .. a new cell -/
def dLcM (ti : TDI) (t : TDG) (tt : TDT) (te : TDE) (vs : List Nat) : TDE := fun env st Q => ti env st fun ds st1 => dLcGo t tt te (wipeD env vs) ds [] st1 fun out st2 => ∀ n, st2 n = none → Q (.ref n) (sup st2 n (.lst out))
theorem lift_lc {G : Gx} {ti : TDI} {t : TDG} {tt : TDT} {te : TDE} {vs : List Nat} {σ : St} {H : Hp} {Q : VK} {env : DSt} {g : Gh} {st : Sto} {R : List D → Sto → Prop} (rl : Rel G g st H) (en : EnvR G g H σ env)
    (h : ti env st fun ds st1 => dLcGo t tt te (wipeD env vs) ds [] st1 R)
    (p : ∀ out g1 st1 H1 st' g' H' a ws n, Step g st H g1 st1 H1 → H1 a = none → g1.rho n = none → Step g1 st1 H1 g' st' H' → Rel G g' st' H' → H' a = some (.lst ws) → g'.own a = some n → g'.rho n = some a → st' n = none → Reps G g' H' ws out → R out st' → Q (.ref a) H') :
    tLc (liftI G ti) (liftG G vs t) (liftT G tt) (liftE G te) vs σ H Q := by
  refine ⟨g, st, env, _, rl, en, h, fun ds st1 g1 H1 J s1 rl1 wk h1 A hA => ?_⟩
  obtain ⟨n, hn, hs⟩ := rl1.fresh
  obtain ⟨s2, rl2⟩ := rl1.cellNew (o := .lst []) (m := .lst []) hA hn fun g' _ s' => ⟨[], upd_same, .nil⟩
  have s2' : Step g1 st1 H1 (g1.new n A) st1 (upd H1 A (.lst [])) := s2.sub (Sub.new hs)
  have rl2' : Rel G (g1.new n A) st1 (upd H1 A (.lst [])) := rl2.sub (Sub.new hs)
  -- what holds between two turns
  refine ⟨fun i m H' => i ≤ ds.length ∧ m = ds.length - i ∧ ∃ g' st' acc ws, Step g1 st1 H1 g' st' H' ∧ Rel G g' st' H' ∧ H' A = some (.lst ws) ∧ g'.own A = some n ∧ g'.rho n = some A ∧ st' n = none ∧ Reps G g' H' ws acc ∧ dLcGo t tt te (wipeD env vs) (ds.drop i) acc st' R,
    ⟨_, Nat.zero_le _, rfl, g1.new n A, st1, [], [], s2', rl2', upd_same, by simp [Gh.new], by simp [Gh.new], hs, .nil, h1⟩, ?_⟩
  rintro i m H3 ⟨hi, rfl, g3, st3, acc, ws, s3, rl3, hA3, ow3, rh3, st3n, rs3, h3⟩
  by_cases hlt : i < ds.length
  · rw [List.drop_eq_getElem_cons hlt] at h3
    obtain ⟨go, yld⟩ := wk.go i ds[i] st3 g3 H3 (by simp [hlt]) s3 rl3
    refine .inr ⟨go, fun H' => ∃ g' st' acc ws, Step g1 st1 H1 g' st' H' ∧ Rel G g' st' H' ∧ H' A = some (.lst ws) ∧ g'.own A = some n ∧ g'.rho n = some A ∧ st' n = none ∧ Reps G g' H' ws acc ∧ dLcGo t tt te (wipeD env vs) (ds.drop (i + 1)) acc st' R, fun H' q => ⟨_, by omega, hlt, rfl, q⟩, fun x H4 y => ?_⟩
    obtain ⟨s4, rl4, r4⟩ := yld x H4 y
    -- a hidden cell stands through any step
    have hidden : ∀ {ga gb : Gh} {sa sb : Sto} {Ha Hb : Hp}, Step ga sa Ha gb sb Hb → Ha A = some (.lst ws) → ga.own A = some n → ga.rho n = some A → sa n = none → Hb A = some (.lst ws) ∧ gb.own A = some n ∧ gb.rho n = some A ∧ sb n = none := by
      intro ga gb sa sb Ha Hb s e1 e2 e3 e4
      have nb : Nob ga sa A := fun k hk => by rw [e2] at hk; cases hk; exact ⟨e4, A, e3⟩
      exact ⟨s.ex A _ nb e1 (.inl rfl), (s.own A _ nb e1).trans e2, s.rho n A e3, s.hid n A e3 e4⟩
    obtain ⟨hA4, ow4, rh4, st4n⟩ := hidden s4 hA3 ow3 rh3 st3n
    have en4 : EnvR G g3 H4 (wipe σ vs) (wipeD env vs) := ((en.mono ((s1.trans s3).trans s4)).wipe vs)
    refine ⟨g3, st3, wipeD env vs, _, _, rl4, en4, r4, h3, fun env5 st5 g5 H5 σ5 s5 rl5 en5 w5 h5 => ⟨?_, ?_⟩⟩
    · rw [w5]
      have idem : ∀ (js : List Nat) (τ : St), (∀ j ∈ js, j ∈ vs) → wipe (wipe τ js) vs = wipe τ vs := by
        intro js
        induction js with
        | nil => intro τ _; rfl
        | cons k r ih =>
          intro τ hk
          show wipe ((wipe τ r).set k none) vs = wipe τ vs
          rw [wipe_set (hk k (by simp))]
          exact ih τ fun j hj => hk j (by simp [hj])
      exact idem vs σ fun j hj => hj
    · obtain ⟨hA5, ow5, rh5, st5n⟩ := hidden s5 hA4 ow4 rh4 st4n
      refine ⟨g5, st5, env5, _, rl5, en5, h5, fun b st6 g6 H6 s6 rl6 h6 => ?_⟩
      obtain ⟨hA6, ow6, rh6, st6n⟩ := hidden s6 hA5 ow5 rh5 st5n
      have s36 := ((s3.trans s4).trans s5).trans s6
      have rs6 := ((rs3.mono s4).mono s5).mono s6
      cases b with
      | false => exact ⟨g6, st6, acc, ws, s36, rl6, hA6, ow6, rh6, st6n, rs6, h6⟩
      | true =>
        refine ⟨g6, st6, env5, _, rl6, en5.mono s6, h6, fun d st7 g7 H7 v s7 rl7 r7 h7 => ?_⟩
        obtain ⟨hA7, ow7, rh7, st7n⟩ := hidden s7 hA6 ow6 rh6 st6n
        obtain ⟨hl, h7⟩ := h7
        have rs7 := rs6.mono s7
        refine ⟨ws, hA7, by rw [rs7.length]; exact hl, g7, st7, acc ++ [d], ws ++ [v], (s36.trans s7).poke hA, ?_, upd_same, ow7, rh7, st7n, ?_, h7⟩
        · -- the cell is written while it is hidden
          have base : Rel G g7 (sup st7 n (.lst acc)) H7 := by
            refine ⟨fun k mk hk => ?_, rl7.own, ?_⟩
            · by_cases hkn : k = n
              · subst hkn
                rw [sup_same] at hk; cases hk
                exact ⟨A, rh7, ow7, ws, hA7, rs7⟩
              · rw [sup_ne hkn] at hk
                exact rl7.cell k mk hk
            · obtain ⟨N, hN⟩ := rl7.fin
              refine ⟨N, fun k hk => ⟨(hN k hk).1, ?_⟩⟩
              have : k ≠ n := by rintro rfl; rw [(hN k hk).1] at rh7; cases rh7
              rw [sup_ne this]; exact (hN k hk).2
          obtain ⟨sw, rw'⟩ := base.write (m' := .lst (acc ++ [d])) (o := .lst (ws ++ [v])) sup_same rh7 fun st' H' s' e => ⟨_, by rw [e]; exact upd_same, (rs7.append (.cons r7 .nil)).mono s'⟩
          refine rw'.sub fun k mk hk => ?_
          have : k ≠ n := by rintro rfl; rw [st7n] at hk; cases hk
          rw [sup_ne this, sup_ne this]; exact hk
        · -- the items are as they were: the list itself is no item
          have base : Rel G g7 (sup st7 n (.lst acc)) H7 := by
            refine ⟨fun k mk hk => ?_, rl7.own, ?_⟩
            · by_cases hkn : k = n
              · subst hkn
                rw [sup_same] at hk; cases hk
                exact ⟨A, rh7, ow7, ws, hA7, rs7⟩
              · rw [sup_ne hkn] at hk
                exact rl7.cell k mk hk
            · obtain ⟨N, hN⟩ := rl7.fin
              refine ⟨N, fun k hk => ⟨(hN k hk).1, ?_⟩⟩
              have : k ≠ n := by rintro rfl; rw [(hN k hk).1] at rh7; cases rh7
              rw [sup_ne this]; exact (hN k hk).2
          obtain ⟨sw, _⟩ := base.write (m' := .lst (acc ++ [d])) (o := .lst (ws ++ [v])) sup_same rh7 fun st' H' s' e => ⟨_, by rw [e]; exact upd_same, (rs7.append (.cons r7 .nil)).mono s'⟩
          exact (rs7.append (.cons r7 .nil)).mono sw
  · have e : i = ds.length := by omega
    subst e
    rw [List.drop_length] at h3
    exact .inl ⟨wk.stop st3 g3 H3 s3 rl3, p _ _ _ _ _ _ _ _ _ _ s1 hA hn s3 rl3 hA3 ow3 rh3 st3n rs3 h3⟩
end
end TL
namespace TL
open PySem PySem.Spec PyProof.Rows L2
section
variable {X : Cx} {cA : Nat → Addr}
/-- a hidden cell is told again, then frozen -/
theorem Rel.show {G : Gx} {g : Gh} {st : Sto} {H : Hp} (rl : Rel G g st H) {n : Nat} {A : Addr} {ws : List V} {acc : List D} (ow : g.own A = some n) (rh : g.rho n = some A) (hA : H A = some (.lst ws)) (rs : Reps G g H ws acc) : Rel G g (sup st n (.lst acc)) H := by
  refine ⟨fun k mk hk => ?_, rl.own, ?_⟩
  · by_cases hkn : k = n
    · subst hkn
      rw [sup_same] at hk; cases hk
      exact ⟨A, rh, ow, ws, hA, rs⟩
    · rw [sup_ne hkn] at hk
      exact rl.cell k mk hk
  · obtain ⟨N, hN⟩ := rl.fin
    refine ⟨N, fun k hk => ⟨(hN k hk).1, ?_⟩⟩
    have : k ≠ n := by rintro rfl; rw [(hN k hk).1] at rh; cases rh
    rw [sup_ne this]; exact (hN k hk).2
/-- freezing what no caller knows: the step from ahead of it -/
theorem lc_frozen {G : Gx} {g g' : Gh} {st st' : Sto} {H H' : Hp} {a : Addr} {ws : List V} {out : List D} {n : Nat} (s : Step g st H g' st' H') (rl : Rel G g' st' H') (h : H' a = some (.lst ws)) (ow : g'.own a = some n) (rh : g'.rho n = some a) (hs : st' n = none) (rs : Reps G g' H' ws out)
    (hn : H a = none) : Step g st H (g'.fr a) st' H' ∧ Rel G (g'.fr a) st' H' ∧ Rep G (g'.fr a) H' (.ref a) (.lst out) := by
  have r1 := rl.show ow rh h rs
  obtain ⟨s2, r2⟩ := r1.freeze sup_same rh
  have e : sdel (sup st' n (.lst out)) n = st' := sdel_sup hs
  rw [e] at r2 s2
  refine ⟨⟨s.rho, s.hid, fun b o w q => ?_, s.ex, s.dk⟩, r2, .lst (by simp [Gh.fr]) h (rs.mono s2)⟩
  have : b ≠ a := ne_of_none q hn
  simp [Gh.fr, this]
  exact s.own b o w q
theorem lc_cell {G : Gx} {g g' : Gh} {st st' : Sto} {H H' : Hp} {a : Addr} {ws : List V} {out : List D} {n : Nat} (s : Step g st H g' st' H') (rl : Rel G g' st' H') (h : H' a = some (.lst ws)) (ow : g'.own a = some n) (rh : g'.rho n = some a) (hs : st' n = none) (rs : Reps G g' H' ws out)
    (hn : g.rho n = none) : Step g st H g' (sup st' n (.lst out)) H' ∧ Rel G g' (sup st' n (.lst out)) H' := by
  refine ⟨⟨s.rho, fun k b e q => ?_, s.own, s.ex, s.dk⟩, rl.show ow rh h rs⟩
  have : k ≠ n := by rintro rfl; rw [hn] at e; cases e
  rw [sup_ne this]; exact s.hid k b e q
theorem de_lc {elt tg iter : Expr} {ifs : List Expr} {scope : Scope} {own : List (Str × Nat)} {pos : Pos} {ti : TDI} {t : TDG} {tt : TDT} {te : TDE} (hc : X.calm = true) (hN : X.N.Nodup) (hi : DI cA X tg iter ti) (ok : BlkOk X.N X.env.scope scope own)
    (hg : ∀ (s : Shared) (H : Hp) (C : Addr) (cl : List (Str × Addr)) (fp : List Addr), DG cA (X.blk s H scope (compEnvC scope cl C X.env) fp) (own.map (·.2)) tg t) (ht : ∀ (s : Shared) (H : Hp) (C : Addr) (cl : List (Str × Addr)) (fp : List Addr), DTs cA (X.blk s H scope (compEnvC scope cl C X.env) fp) ifs tt)
    (he : ∀ (s : Shared) (H : Hp) (C : Addr) (cl : List (Str × Addr)) (fp : List Addr), DE cA (X.blk s H scope (compEnvC scope cl C X.env) fp) elt te) (hs : ∀ x, foldedSetIterable iter X.env x = pure x := by intro _; rfl) :
    DE cA X (.ListComp elt [⟨tg, iter, ifs, 0⟩] scope pos) (dLc ti t tt te (own.map (·.2))) :=
  pe_weak (pe_lc (g := liftG (gx X cA) (own.map fun (q : Str × Nat) => q.2) t) (tt := liftT (gx X cA) tt) (te := liftE (gx X cA) te) hc hN hi ok hg ht he hs) fun σ H Q ⟨g, st, env, Qd, rl, en, h, p⟩ => lift_lc rl en h fun out g1 st1 H1 st' g' H' a ws n s1 ha hn s2 rl2 e1 e2 e3 e4 rs q => by
    obtain ⟨s3, rl3, r3⟩ := lc_frozen s2 rl2 e1 e2 e3 e4 rs ha
    exact p _ _ _ _ _ (s1.trans s3) rl3 r3 q
theorem de_lcM {elt tg iter : Expr} {ifs : List Expr} {scope : Scope} {own : List (Str × Nat)} {pos : Pos} {ti : TDI} {t : TDG} {tt : TDT} {te : TDE} (hc : X.calm = true) (hN : X.N.Nodup) (hi : DI cA X tg iter ti) (ok : BlkOk X.N X.env.scope scope own)
    (hg : ∀ (s : Shared) (H : Hp) (C : Addr) (cl : List (Str × Addr)) (fp : List Addr), DG cA (X.blk s H scope (compEnvC scope cl C X.env) fp) (own.map (·.2)) tg t) (ht : ∀ (s : Shared) (H : Hp) (C : Addr) (cl : List (Str × Addr)) (fp : List Addr), DTs cA (X.blk s H scope (compEnvC scope cl C X.env) fp) ifs tt)
    (he : ∀ (s : Shared) (H : Hp) (C : Addr) (cl : List (Str × Addr)) (fp : List Addr), DE cA (X.blk s H scope (compEnvC scope cl C X.env) fp) elt te) (hs : ∀ x, foldedSetIterable iter X.env x = pure x := by intro _; rfl) :
    DE cA X (.ListComp elt [⟨tg, iter, ifs, 0⟩] scope pos) (dLcM ti t tt te (own.map (·.2))) :=
  pe_weak (pe_lc (g := liftG (gx X cA) (own.map fun (q : Str × Nat) => q.2) t) (tt := liftT (gx X cA) tt) (te := liftE (gx X cA) te) hc hN hi ok hg ht he hs) fun σ H Q ⟨g, st, env, Qd, rl, en, h, p⟩ => lift_lc rl en h fun out g1 st1 H1 st' g' H' a ws n s1 ha hn s2 rl2 e1 e2 e3 e4 rs q => by
    obtain ⟨s3, rl3⟩ := lc_cell s2 rl2 e1 e2 e3 e4 rs hn
    exact p _ _ _ _ _ (s1.trans s3) rl3 (.ref e3) (q n e4)
/-- name = [..] on one line, the name a local -/
theorem ds_setLc {i : Nat} {y : Str} {py : Pos} {elt tg iter : Expr} {ifs : List Expr} {scope : Scope} {own : List (Str × Nat)} {pos spos : Pos} {ti : TDI} {t : TDG} {tt : TDT} {te : TDE} (hc : X.calm = true) (hN : X.N.Nodup) (hy : X.N[i]? = some y) (hyl : X.env.scope.names.lookup y = some .local)
    (hsw : swapsWith (.ListComp elt [⟨tg, iter, ifs, 0⟩] scope pos) (some (.Name y py)) spos.line X.env = pure true) (hi : DI cA X tg iter ti) (ok : BlkOk X.N X.env.scope scope own)
    (hg : ∀ (s : Shared) (H : Hp) (C : Addr) (cl : List (Str × Addr)) (fp : List Addr), DG cA (X.blk s H scope (compEnvC scope cl C X.env) fp) (own.map (·.2)) tg t) (ht : ∀ (s : Shared) (H : Hp) (C : Addr) (cl : List (Str × Addr)) (fp : List Addr), DTs cA (X.blk s H scope (compEnvC scope cl C X.env) fp) ifs tt)
    (he : ∀ (s : Shared) (H : Hp) (C : Addr) (cl : List (Str × Addr)) (fp : List Addr), DE cA (X.blk s H scope (compEnvC scope cl C X.env) fp) elt te) (hs : ∀ x, foldedSetIterable iter X.env x = pure x := by intro _; rfl) :
    DS cA X (.Assign [.Name y py] (.ListComp elt [⟨tg, iter, ifs, 0⟩] scope pos) spos) (dAsg i (dLc ti t tt te (own.map (·.2)))) :=
  ps_weak (L2.ps_setLc (g := liftG (gx X cA) (own.map fun (q : Str × Nat) => q.2) t) (tt := liftT (gx X cA) tt) (te := liftE (gx X cA) te) hc hN hy hyl hsw hi ok hg ht he hs) fun σ H Q ⟨g, st, env, Dd, rl, en, h, p⟩ => lift_lc (Q := fun v H' => gName i v σ H' Q.nx) rl en h fun out g1 st1 H1 st' g' H' a ws n s1 ha hn s2 rl2 e1 e2 e3 e4 rs q => by
    obtain ⟨s3, rl3, r3⟩ := lc_frozen s2 rl2 e1 e2 e3 e4 rs ha
    exact p.nx _ _ _ _ _ (s1.trans s3) rl3 ((en.mono (s1.trans s3)).set r3 i) q
theorem ds_setLcM {i : Nat} {y : Str} {py : Pos} {elt tg iter : Expr} {ifs : List Expr} {scope : Scope} {own : List (Str × Nat)} {pos spos : Pos} {ti : TDI} {t : TDG} {tt : TDT} {te : TDE} (hc : X.calm = true) (hN : X.N.Nodup) (hy : X.N[i]? = some y) (hyl : X.env.scope.names.lookup y = some .local)
    (hsw : swapsWith (.ListComp elt [⟨tg, iter, ifs, 0⟩] scope pos) (some (.Name y py)) spos.line X.env = pure true) (hi : DI cA X tg iter ti) (ok : BlkOk X.N X.env.scope scope own)
    (hg : ∀ (s : Shared) (H : Hp) (C : Addr) (cl : List (Str × Addr)) (fp : List Addr), DG cA (X.blk s H scope (compEnvC scope cl C X.env) fp) (own.map (·.2)) tg t) (ht : ∀ (s : Shared) (H : Hp) (C : Addr) (cl : List (Str × Addr)) (fp : List Addr), DTs cA (X.blk s H scope (compEnvC scope cl C X.env) fp) ifs tt)
    (he : ∀ (s : Shared) (H : Hp) (C : Addr) (cl : List (Str × Addr)) (fp : List Addr), DE cA (X.blk s H scope (compEnvC scope cl C X.env) fp) elt te) (hs : ∀ x, foldedSetIterable iter X.env x = pure x := by intro _; rfl) :
    DS cA X (.Assign [.Name y py] (.ListComp elt [⟨tg, iter, ifs, 0⟩] scope pos) spos) (dAsg i (dLcM ti t tt te (own.map (·.2)))) :=
  ps_weak (L2.ps_setLc (g := liftG (gx X cA) (own.map fun (q : Str × Nat) => q.2) t) (tt := liftT (gx X cA) tt) (te := liftE (gx X cA) te) hc hN hy hyl hsw hi ok hg ht he hs) fun σ H Q ⟨g, st, env, Dd, rl, en, h, p⟩ => lift_lc (Q := fun v H' => gName i v σ H' Q.nx) rl en h fun out g1 st1 H1 st' g' H' a ws n s1 ha hn s2 rl2 e1 e2 e3 e4 rs q => by
    obtain ⟨s3, rl3⟩ := lc_cell s2 rl2 e1 e2 e3 e4 rs hn
    exact p.nx _ _ _ _ _ (s1.trans s3) rl3 ((en.mono (s1.trans s3)).set (.ref e3) i) (q n e4)

/-! ### what a def promises, over trees -/
/-- an exception: its class, its attributes -/
abbrev XD := Nat → List (Str × D) → Sto → Prop
abbrev DSp := List D → Sto → QD → XD → Prop
def liftSp (G : Gx) (sp : DSp) : Sp := fun vs H Q _ => ∃ g st ds Qd, Rel G g st H ∧ Reps G g H vs ds ∧ sp ds st Qd (fun _ _ _ => False) ∧ Post G g st H Qd Q
def startD (N : List Str) (ds : List D) : DSt := ds.map some ++ List.replicate (N.length - ds.length) none
theorem env_start {G : Gx} {g : Gh} {H : Hp} {N : List Str} {vs : List V} {ds : List D} (r : Reps G g H vs ds) : EnvR G g H (L2.start N vs) (startD N ds) := by
  refine ⟨by simp [L2.start, startD, r.length], fun i d h => ?_⟩
  unfold startD at h
  by_cases hi : i < ds.length
  · rw [List.getElem?_append_left (by simpa using hi), List.getElem?_map] at h
    cases e : ds[i]? with
    | none => rw [e] at h; cases h
    | some d' =>
      rw [e] at h
      cases h
      obtain ⟨v, h1, h2⟩ := r.get e
      refine ⟨v, ?_, h2⟩
      unfold L2.start
      have : i < vs.length := by rw [r.length]; exact hi
      rw [List.getElem?_append_left (by simpa using this), List.getElem?_map, h1]
      rfl
  · rw [List.getElem?_append_right (by simpa using hi)] at h
    by_cases hj : i - (ds.map some).length < N.length - ds.length
    · rw [List.getElem?_replicate_of_lt hj] at h; cases h
    · rw [List.getElem?_eq_none (by simp at hj ⊢; omega)] at h; cases h
/-- how a body ends: the cells that the caller does not know are forgotten -/
def ends (Q : QD) : DEnds := { nx := fun _ st => ∃ st', Sub st' st ∧ Q .non st', rt := fun d st => ∃ st', Sub st' st ∧ Q d st' }
/-- THE RULE for a def that raises nothing -/
theorem dfn {P : Program} {w : World} {K : PySem.W.Frag} {mg : Str → Option Value} {base : Heap} {x qual : Str} {st : Stmt} {f : Addr} {fd : FuncData} {N ps : List Str} {k : Nat} {sp : DSp} {tb : TDS} (F : Fun K x qual st f fd) (S : FnScope N ps (defScope st))
    (len : ∀ ds st Q E, sp ds st Q E → ds.length = ps.length)
    (hd : ∀ (cdv : Value) (A : Around) (outer : List Env) (s : Shared) (H : Hp) (E : XK), Room k (A.deeper (envOfC qual (defScope st) s.heap.objs.size f cdv)) → DSs cA (cxOf CX0 P w K mg base N qual (defScope st) f cdv A outer s H E).nox (defBody st) tb)
    (hb : ∀ ds s0 Q, sp ds s0 Q (fun _ _ _ => False) → tb (ends Q) (startD N ds) s0) : FnOk P w K mg base CX0 (k + 1) f fd ps (liftSp ⟨K, cA⟩ sp) := by
  refine F.ok S (fun vs H Q E ⟨g, s0, ds, Qd, rl, rs, h, p⟩ => by rw [rs.length]; exact len _ _ _ _ h) fun cdv A outer s H vs Q E hr ⟨g, s0, ds, Qd, rl, rs, h, p⟩ => ⟨_, hd cdv A outer s H E hr, ?_⟩
  refine ⟨g, s0, startD N ds, ends Qd, rl, env_start rs, hb ds s0 Qd h, ⟨fun env1 st1 g1 H1 σ1 s1 rl1 en1 ⟨st', sb, q⟩ => ?_, fun d st1 g1 H1 v s1 rl1 r1 ⟨st', sb, q⟩ => ?_, fun env1 st1 g1 H1 σ1 s1 rl1 en1 q => q.elim, fun env1 st1 g1 H1 σ1 s1 rl1 en1 q => q.elim⟩⟩
  · exact p .non st' g1 H1 .non (s1.sub sb) (rl1.sub sb) .non q
  · exact p d st' g1 H1 v (s1.sub sb) (rl1.sub sb) r1 q
/-- a call of such a def -/
def dCall (sp : DSp) (t : TDA) : TDE := fun env st Q => t env st fun ds st1 => sp ds st1 Q fun _ _ _ => False
theorem lift_call {sp : DSp} {t : TDA} : ∀ σ H Q, liftE (gx X cA) (dCall sp t) σ H Q → tCall (liftSp (gx X cA) sp) [] E0 (liftA (gx X cA) t) σ H Q := fun σ H Q ⟨g, st, env, Qd, rl, en, h, p⟩ =>
  ⟨g, st, env, _, rl, en, h, fun ds st1 g1 H1 vs s1 rl1 r1 h1 => by
    show liftSp (gx X cA) sp (vs ++ []) H1 Q E0
    rw [List.append_nil]
    exact ⟨g1, st1, ds, Qd, rl1, r1, h1, p.step s1⟩⟩
section
variable {k : Nat} {f : Addr} {fd : FuncData} {ps : List Str} {sp : DSp} {x : Str} {p pos : Pos} {e : Expr} {es : List Expr} {t : TDA}
theorem de_call (F : FnOk X.prog X.w X.K X.mg X.base CX0 k f fd ps (liftSp (gx X cA) sp)) (hr : Room k X.A) (hg : Gl X x) (hm : X.mg x = some (.ref f)) (hk : PySem.W.keepIn X.K (.ref f) = true) (hb : Binds X.K fd ps [])
    (ha : DA cA X (e :: es) t) (hdb : (x == ("__debug__" : Str)) = false := by decide) (he : starEach (e :: es) X.env = (false, eval e X.env) :: starEach es X.env := by rfl) (hpl : (backTo pos (starEach es X.env)).any (·.1) = false := by rfl) :
    DE cA X (.Call (.Name x p) (e :: es) [] pos) (dCall sp t) := pe_weak (pe_call F hr hg hm hk hb .nil pass0 ha hdb he hpl) lift_call
theorem de_call0 (F : FnOk X.prog X.w X.K X.mg X.base CX0 k f fd ps (liftSp (gx X cA) sp)) (hr : Room k X.A) (hg : Gl X x) (hm : X.mg x = some (.ref f)) (hk : PySem.W.keepIn X.K (.ref f) = true) (hb : Binds X.K fd ps [])
    (hdb : (x == ("__debug__" : Str)) = false := by decide) : DE cA X (.Call (.Name x p) [] [] pos) (dCall sp dNil) := pe_weak (pe_call0 F hr hg hm hk hb .nil pass0 hdb) fun σ H Q ⟨g, st, env, Qd, rl, en, h, p⟩ => ⟨g, st, [], Qd, rl, .nil, h, p⟩
end
end
end TL
namespace TL
open PySem PySem.Spec PyProof.Rows L2

/-! ### sources of a walk -/
inductive Src where
  | lis (a : Addr) | tpl (a : Addr) | txt (x : Str) (k : Tok)
def signs (x : Str) : List V := x.cps.toList.map fun c => V.str ⟨#[c]⟩
def signsD (x : Str) : List D := x.cps.toList.map fun c => D.str ⟨#[c]⟩
def Src.at (K : PySem.W.Frag) (H : Hp) (xs : List V) : Src → Prop
  | .lis a => SqL K H a xs
  | .tpl a => SqT K H a xs
  | .txt x _ => xs = signs x
def Src.val : Src → Value
  | .lis a => .ref a
  | .tpl a => .ref a
  | .txt x k => .str x k
def Src.iter (it : Addr) (i : Nat) (h : Heap) : Src → Prop
  | .lis a => h.IsListIter it a i
  | .tpl a => h.IsTupleIter it a i
  | .txt x k => h.IsStrIter it (strIterType x) x k i
theorem src_obj {it : Addr} {i : Nat} {h : Heap} : ∀ {r : Src}, r.iter it i h → ∃ o, h.get? it = some o ∧ ∀ v, o.data ≠ .cell v
  | .lis a, st => let ⟨o, e, c, d⟩ := st; ⟨o, e, fun v z => by rw [d] at z; cases z⟩
  | .tpl a, st => let ⟨o, e, c, d⟩ := st; ⟨o, e, fun v z => by rw [d] at z; cases z⟩
  | .txt x k, st => let ⟨o, e, c, d⟩ := st; ⟨o, e, fun v z => by rw [d] at z; cases z⟩
theorem src_keep {it : Addr} {i : Nat} {h h' : Heap} : ∀ {r : Src}, r.iter it i h → (∀ o, h.get? it = some o → h'.get? it = some o) → r.iter it i h'
  | .lis a, st, k => st.at k
  | .tpl a, st, k => st.at k
  | .txt x t, st, k => let ⟨o, ho, r⟩ := st; ⟨o, k o ho, r⟩
section
variable {X : Cx} {cA : Nat → Addr}
theorem signs_get {x : Str} {i : Nat} {c : Nat} (h : x.cps[i]? = some c) : (signs x)[i]? = some (V.str ⟨#[c]⟩) := by
  unfold signs
  rw [List.getElem?_map, Array.getElem?_toList, h]; rfl
theorem signs_len (x : Str) : (signs x).length = x.cps.size := by simp [signs]
/-- what a source draws where its content is known -/
theorem src_draws {pins : List (Addr × Obj)} {s : Shared} {σ : L2.St} {H : Hp} (I : Inv X pins σ H s) {A : Around} (hh : A.handled = none) {it : Addr} (hit : H it = none) (hnk : ∀ a o, X.K.lookup a = some o → a ≠ it) {xs : List V} : ∀ {r : Src}, r.at X.K H xs → ∀ {e : Addr}, H e = none → e ≠ it → (∀ a o, X.K.lookup a = some o → a ≠ e) →
    ∃ (fp : List Addr) (P : Nat → Value → Prop) (S : Nat → Heap → Prop), Draws X.prog X.w A it fp xs.length P S ∧ e ∉ fp ∧ (∀ i, r.iter it i s.heap → S i s.heap) ∧ (∀ i h, S i h → r.iter it i h) ∧ ∀ i u, P i u → ∃ x, xs[i]? = some x ∧ RelV x u
  | .lis a, hq, e, he, hne, hke => by
    obtain ⟨its, rv, p, hz⟩ := I.list hq
    have tracked : ∀ b, H b = none → (∀ a o, X.K.lookup a = some o → a ≠ b) → a ≠ b := fun b hb hk z => by
      subst z
      rcases hq with (q | ⟨ob, q⟩) | ⟨o, _, _, q, _⟩
      · rw [hb] at q; cases q
      · rw [hb] at q; cases q
      · exact hk a o q rfl
    have D := Draws.list (prog := X.prog) (w := X.w) (A := A) hh it a (tracked it hit hnk) its.toArray
    have hl : its.toArray.size = xs.length := by simp [rv.length]
    rw [hl] at D
    refine ⟨_, _, _, D, by simp [hne, (tracked e he hke).symm], fun i st => ⟨st, p.isList⟩, fun i h st => st.1, fun i u hu => ?_⟩
    have hu' : its[i]? = some u := by simpa using hu
    have hi : i < xs.length := by rw [rv.length]; exact (List.getElem?_eq_some_iff.mp hu').1
    obtain ⟨u2, h1, h2⟩ := rv.get (i := i) (x := xs[i]) (by simp [hi])
    rw [hu'] at h1; cases h1
    exact ⟨xs[i], by simp [hi], h2⟩
  | .tpl a, hq, e, he, hne, hke => by
    obtain ⟨its, rv, p, hz⟩ := I.tuple hq
    have tracked : ∀ b, H b = none → (∀ a o, X.K.lookup a = some o → a ≠ b) → a ≠ b := fun b hb hk z => by
      subst z
      rcases hq with (q | ⟨ob, q⟩) | ⟨o, _, _, q, _⟩
      · rw [hb] at q; cases q
      · rw [hb] at q; cases q
      · exact hk a o q rfl
    have D := Draws.tuple (prog := X.prog) (w := X.w) (A := A) hh it a (tracked it hit hnk) its.toArray
    have hl : its.toArray.size = xs.length := by simp [rv.length]
    rw [hl] at D
    refine ⟨_, _, _, D, by simp [hne, (tracked e he hke).symm], fun i st => ⟨st, p⟩, fun i h st => st.1, fun i u hu => ?_⟩
    have hu' : its[i]? = some u := by simpa using hu
    have hi : i < xs.length := by rw [rv.length]; exact (List.getElem?_eq_some_iff.mp hu').1
    obtain ⟨u2, h1, h2⟩ := rv.get (i := i) (x := xs[i]) (by simp [hi])
    rw [hu'] at h1; cases h1
    exact ⟨xs[i], by simp [hi], h2⟩
  | .txt x t, hq, e, he, hne, hke => by
    cases hq
    have D := Draws.text (prog := X.prog) (w := X.w) (A := A) hh it x t
    rw [← signs_len x] at D
    refine ⟨_, _, _, D, by simp [hne], fun i st => st, fun i h st => st, fun i u ⟨c, k, hc, e⟩ => ⟨_, signs_get hc, ?_⟩⟩
    subst e
    exact ⟨_, rfl⟩
/-! ### enumerate(source, k) -/
def Iten (K : PySem.W.Frag) (k : Int) (r : Src) : It :=
  ⟨fun i H => ∃ (xs : List V) (x : V), r.at K H xs ∧ xs[i]? = some x, fun i H v H' => ∃ T x, v = .ref T ∧ H T = none ∧ H' = upd H T (.tup [.int (k + (i : Nat)), x]) ∧ ∀ xs, r.at K H xs → xs[i]? = some x, fun i H => ∃ xs : List V, r.at K H xs ∧ xs.length = i⟩
theorem src_inj {pins : List (Addr × Obj)} {s : Shared} {σ : L2.St} {H : Hp} (I : Inv X pins σ H s) {xs ys : List V} : ∀ {r : Src}, r.at X.K H xs → r.at X.K H ys → xs = ys
  | .lis a, h, h' => I.list_inj h h'
  | .tpl a, h, h' => I.tuple_inj h h'
  | .txt x k, h, h' => by rw [h, h']
/-- an address of the written part is older than what runs -/
theorem Kold {pins : List (Addr × Obj)} {s : Shared} {σ : L2.St} {H : Hp} (I : Inv X pins σ H s) {b : Addr} (hf : FpOk X pins H b) : ∀ a o, X.K.lookup a = some o → a ≠ b := fun a o q z => by
  subst z
  obtain ⟨_, _, _, h, _⟩ := hf
  have hb : X.base.get? a = some o := I.ok.mod.kin a o q
  rcases h with h | h
  · exact I.ok.noex a o hb h
  · have h1 := (I.ok.bs a o hb).1
    exact absurd (Nat.lt_of_lt_of_le (Heap.lt_size h1) h) (Nat.lt_irrefl _)
theorem turn_en {P : Program} {w : World} {K : PySem.W.Frag} {elts : List Expr} {kk : Nat} {tpos : Pos} (k : Int) (r : Src) (e it : Addr) :
    Turn P w K (.Tuple elts kk tpos) (Iten K k r) [e, it] e (fun i h => (∃ old, IsEnum h e it (k + ((i : Nat) : Int)) old) ∧ r.iter it i h ∧ e ≠ it) where
  mem := by simp
  obj := fun i h st b hb => by
    obtain ⟨⟨old, he⟩, hi, _⟩ := st
    have e' : b = e ∨ b = it := by simpa using hb
    rcases e' with z | z
    · rw [z]; exact ⟨_, he, fun v q => nomatch q⟩
    · rw [z]; exact src_obj hi
  keep := fun i h h' st k => let ⟨⟨old, he⟩, hi, hne⟩ := st; ⟨⟨old, k e (by simp) _ he⟩, src_keep hi fun o q => k it (by simp) o q, hne⟩
  item := by
    intro X hP hw hK hc i pins s σ H E I hf st hg
    subst hP hw hK
    obtain ⟨⟨old, he⟩, hit, hne⟩ := st
    obtain ⟨xs, x, hq, hx⟩ := hg
    have hel : e < s.heap.objs.size := Heap.lt_size he
    have hil : it < s.heap.objs.size := by obtain ⟨_, q, _⟩ := src_obj hit; exact Heap.lt_size q
    have fe := hf e (by simp)
    have fi := hf it (by simp)
    obtain ⟨fp, P, S, D, hef, hS, hS', hP⟩ := src_draws I (A := X.A.in1) (I.ok.hd hc) fi.1 (Kold I fi) hq fe.1 hne (Kold I fe)
    have hlt : i < xs.length := (List.getElem?_eq_some_iff.mp hx).1
    refine wpAny_pyNext_enum_itemC D he (hS i hit) hlt hne hef fun u h' tk hu ho hst' hT hsz hk => ?_
    obtain ⟨x', hx', ru⟩ := hP i u hu
    rw [hx] at hx'; cases hx'
    refine ⟨_, rfl, wpAny_letOwnedTupleGo_enum (s := { s with heap := h', toks := tk + 1 }) ho fun h'' he' sb => ?_⟩
    have hT2 : h''.get? s.heap.objs.size = some { cls := .type "tuple", data := .seq #[.int (k + (i : Nat)) tk, u] } := (sb.2 _ (Nat.ne_of_gt hel)).trans hT
    have new : ObjOk X.prog X.w (upd H s.heap.objs.size (.tup [.int (k + (i : Nat)), x])) h'' s.heap.objs.size (.tup [.int (k + (i : Nat)), x]) :=
      ⟨by show 2 ≤ sizeLine; decide, [.int (k + (i : Nat)) tk, u], .cons ⟨_, rfl⟩ (.cons ru .nil), ⟨_, hT2, rfl, _, rfl⟩⟩
    have I1 : Inv X pins σ (upd H s.heap.objs.size (.tup [.int (k + (i : Nat)), x])) { s with heap := h'', toks := tk + 1 } :=
      I.turnedNew (ch := [e, it]) (fun b ob hb q => (sb.2 b (fun z => hb (by simp [z]))).trans (hk b ob (fun z => hb (by simp [z])) (fun z => hb (by simp [z])) q)) hf (Nat.le_refl _) new
    refine ⟨.ref s.heap.objs.size, _, I1, rfl, ⟨_, x, rfl, I.hok.fresh (Nat.le_refl _), rfl, fun ys hy => by rw [src_inj I hy hq]; exact hx⟩, ⟨⟨u, ?_⟩, src_keep (hS' _ _ hst') fun o q => (sb.2 it (Ne.symm hne)).trans q, hne⟩, fun b hb => ?_⟩
    · have e1 : k + ((i + 1 : Nat) : Int) = k + (i : Int) + 1 := by omega
      rw [e1]; exact he'
    · have hb' : b < s.heap.objs.size := by
        have e' : b = e ∨ b = it := by simpa using hb
        rcases e' with z | z
        · rw [z]; exact hel
        · rw [z]; exact hil
      rw [upd_ne (Nat.ne_of_lt hb')]
      exact (hf b hb).1
  done := by
    intro X hP hw hK hc i pins s σ H E I hf st hg
    subst hP hw hK
    obtain ⟨⟨old, he⟩, hit, hne⟩ := st
    obtain ⟨xs, hq, hx⟩ := hg
    have fe := hf e (by simp)
    have fi := hf it (by simp)
    obtain ⟨f0, f1, f2, f3, f4, f5⟩ := id fi
    obtain ⟨fp, P, S, D, hef, hS, hS', hP⟩ := src_draws I (A := X.A.in1) (I.ok.hd hc) fi.1 (Kold I fi) hq fe.1 hne (Kold I fe)
    subst hx
    exact wpAny_pyNext_enum_endD D he (hS _ hit) fun h' eb => ⟨rfl, I.turned (t' := s.toks) (fun b o hb q => eb b o hb q) f0 f1 f3 f4 f5⟩
  self := fun A i s Q E st h => let ⟨⟨_, he⟩, _⟩ := st; wpAny_pyIter_enum he h

set_option maxHeartbeats 1000000 in
theorem meets_enumerate_one {v : Value} {o : Obj} {H : Heap → Prop} (B : Begins v o H) :
    Meets (Builtin.«enumerate.__new__» ⟨[.type "enumerate", v], []⟩) (fun _ R s => H s.heap ∧
      R (.ok (.ret (.ref (s.heap.push o).objs.size))) { s with heap := (s.heap.push o).push { cls := .type "enumerate", data := .fields #[.none, .bool false, .ref s.heap.objs.size, rawInt 0, .none, .none] } }) :=
  .of_wp fun prog w A R s h => by
    obtain ⟨hp, g, d, tk, os⟩ := s; obtain ⟨h1, h⟩ := h
    have hsub := sub_enumerate
    have q1 : ∀ {A' : Around} {E : Value → Shared → Prop} {Q : Value → Shared → Prop}, Q (.ref hp.objs.size) ⟨hp.push o, g, d, tk, os⟩ → wpAny (model prog w) A' (pyIter v) Q E ⟨hp, g, d, tk, os⟩ :=
      fun q => B.iter prog w _ _ ⟨hp, g, d, tk, os⟩ _ h1 q
    wp_walk using q1
    refine wpAny_stack_any fun st => wpAny_pure ?_
    split
    · rename_i c _ _ _ _ _
      cases (c == Value.type "enumerate")
      · wp_walk using q1
        exact ⟨_, rfl, h⟩
      · wp_walk using q1
        exact ⟨_, rfl, h⟩
    · wp_walk using q1
      exact ⟨_, rfl, h⟩
theorem enum_begins_one {prog : Program} {w : World} {A : Around} {E : Value → Shared → Prop} {s : Shared} {v : Value} {o : Obj} {H : Heap → Prop} {Q : Value → Shared → Prop} (B : Begins v o H) (h1 : H s.heap)
    (h : ∀ h', IsEnum h' (s.heap.objs.size + 1) s.heap.objs.size 0 .none → h'.get? s.heap.objs.size = some o → h'.objs.size = s.heap.objs.size + 2 →
      (∀ b o, s.heap.get? b = some o → h'.get? b = some o) → Q (.ref (s.heap.objs.size + 1)) { s with heap := h' }) :
    wpAny (model prog w) A (call (.type "enumerate") [v]) Q E s := by
  refine callType_new F.called_enumerate (by decide) (F.typeCall_enumerate_1 _) (F.newCall_enumerate_1 _) (fun obj => F.args_object_init_2 obj _) F.entry_enumerate_new
    (meets_enumerate_one B) ⟨h1, ?_⟩
  have hz : (s.heap.push o).objs.size = s.heap.objs.size + 1 := Heap.size_push ..
  show _ ∧ _
  rw [hz]
  have he : IsEnum ((s.heap.push o).push { cls := .type "enumerate", data := .fields #[.none, .bool false, .ref s.heap.objs.size, rawInt 0, .none, .none] }) (s.heap.objs.size + 1) s.heap.objs.size 0 .none := by
    have := Heap.get?_push_size (s.heap.push o) (o := { cls := .type "enumerate", data := .fields #[.none, .bool false, .ref s.heap.objs.size, rawInt 0, .none, .none] }) rfl
    rw [hz] at this; exact this
  refine ⟨⟨_, he, rfl⟩, h _ he (Heap.get?_push_of_some _ (Heap.get?_push_size _ B.free)) (by rw [Heap.size_push, hz]) fun b o x => Heap.get?_push_of_some _ (Heap.get?_push_of_some _ x)⟩
def srcObj : Src → Obj
  | .lis a => { cls := .type "list_iterator", data := .fields #[.ref a, .int 0 0] }
  | .tpl a => { cls := .type "tuple_iterator", data := .fields #[.ref a, .int 0 0] }
  | .txt x k => { cls := .type (strIterType x), data := .fields #[.str x k, .int 0 0] }
theorem src_begins {pins : List (Addr × Obj)} {s : Shared} {σ : L2.St} {H : Hp} (I : Inv X pins σ H s) {xs : List V} : ∀ {r : Src}, r.at X.K H xs → ∃ Hh : Heap → Prop, Begins r.val (srcObj r) Hh ∧ Hh s.heap
  | .lis a, h => let ⟨its, rv, p, hz⟩ := I.list h; ⟨_, begins_list a its.toArray, p.isList⟩
  | .tpl a, h => let ⟨its, rv, p, hz⟩ := I.tuple h; ⟨_, begins_tuple a its.toArray, p⟩
  | .txt x k, h => ⟨_, begins_text x k, trivial⟩
theorem src_first {it : Addr} {h : Heap} : ∀ {r : Src}, h.get? it = some (srcObj r) → r.iter it 0 h
  | .lis a, e => ⟨_, e, rfl, rfl⟩
  | .tpl a, e => ⟨_, e, rfl, rfl⟩
  | .txt x k, e => ⟨_, e, rfl, rfl⟩
/-- an enumerate that has begun -/
theorem en_it {pins : List (Addr × Obj)} {s : Shared} {σ : L2.St} {H : Hp} {elts : List Expr} {kk : Nat} {tpos : Pos} {R : It → Hp → Prop} {E : Value → Shared → Prop} (I : Inv X pins σ H s) {k : Int} {r : Src} {xs : List V} (hr : r.at X.K H xs) (q : R (Iten X.K k r) H) {h' : Heap}
    (he : IsEnum h' (s.heap.objs.size + 1) s.heap.objs.size k .none) (ho : h'.get? s.heap.objs.size = some (srcObj r)) (hk : ∀ b o, s.heap.get? b = some o → h'.get? b = some o) :
    wpAny (model X.prog X.w) X.A (pyIter (.ref (s.heap.objs.size + 1))) (PIE X pins σ (.Tuple elts kk tpos) R) E { s with heap := h' } := by
  refine wpAny_pyIter_enum he ?_
  have I2 : Inv X pins σ H { s with heap := h' } := I.kept (t' := s.toks) hk
  refine ⟨s.heap.objs.size + 1, [s.heap.objs.size + 1, s.heap.objs.size], _, _, H, rfl, I2, turn_en k r (s.heap.objs.size + 1) s.heap.objs.size, ⟨⟨.none, by simpa using he⟩, src_first ho, Nat.succ_ne_self _⟩, fun b hb => ?_, q⟩
  have e' : b = s.heap.objs.size + 1 ∨ b = s.heap.objs.size := by simpa using hb
  have hle : s.heap.objs.size ≤ b := by
    rcases e' with z | z
    · rw [z]; exact Nat.le_add_right _ _
    · rw [z]; exact Nat.le_refl _
  exact I.fpOk hle (I.hok.fresh hle)
/-- v is the source f t, t its token -/
def SrcF (K : PySem.W.Frag) (H : Hp) (v : V) (xs : List V) (f : Tok → Src) : Prop := (∀ u, RelV v u → ∃ t, (f t).val = u) ∧ ∀ t, (f t).at K H xs
def iEn (K : PySem.W.Frag) (ta : TA) : TI := fun σ H R => ta σ H fun vs H1 => ∃ v xs f, vs = [v] ∧ SrcF K H1 v xs f ∧ ∀ t, R (Iten K 0 (f t)) H1
theorem pi_en {e : Expr} {ta : TA} {p pos tpos : Pos} {elts : List Expr} {kk : Nat} (hg : Gl X "enumerate") (hm : X.mg "enumerate" = none) (ha : PA X [e] ta) (hs : starEach [e] X.env = [(false, eval e X.env)] := by rfl) :
    PI X (.Tuple elts kk tpos) (.Call (.Name "enumerate" p) [e] [] pos) (iEn X.K ta) := by
  refine ⟨fun pins s σ H R I h => ?_⟩
  refine Call_ (ld_blt I hg hm boot_enumerate (PyProof.Rows.callWith_type1 (thn (ha.run pos pins s σ H _ I h) fun us s1 ⟨vs, H1, I1, r1, q1⟩ => ?_) hs rfl))
  obtain ⟨v, xs, f, ex, hq, q⟩ := q1
  subst ex
  obtain ⟨u, rfl, ru⟩ := vals1 r1
  obtain ⟨t, rfl⟩ := hq.1 u ru
  obtain ⟨Hh, B, hB⟩ := src_begins I1 (hq.2 t)
  exact enum_begins_one B hB fun h' he ho hsz hk => en_it I1 (hq.2 t) (q t) he ho hk
theorem callWith_tyKw {M : Model} {A : Around} {E : Value → Shared → Prop} {s : Shared} {env : Env} {pos : Pos} {T : String} {e : Expr} {rest : List Expr} {kws : List Keyword} {Q : Value → Shared → Prop}
    (h : wpAny M A (spliced (backTo pos (starEach (e :: rest) env))) (fun vs s₁ => wpAny M A (evalAll ((backToKw pos (keywordEach kws env)).map (·.2)))
      (fun kvs s₂ => wpAny M A (call (.type T) vs (((backToKw pos (keywordEach kws env)).filterMap (·.1)).zip kvs)) Q E s₂) E s₁) E s)
    (he : backTo pos (starEach (e :: rest) env) = (false, eval e env) :: backTo pos (starEach rest env) := by rfl)
    (hplain : (backTo pos (starEach (e :: rest) env)).any (·.1) = false := by rfl)
    (hall : (backToKw pos (keywordEach kws env)).all (·.1.isSome) = true := by rfl)
    (hkw : (backToKw pos (keywordEach kws env)).any (·.1.isNone) = false := by rfl) :
    wpAny M A (callWith pos (.type T) [] (backTo pos (starEach (e :: rest) env)) (backToKw pos (keywordEach kws env))) Q E s := by
  unfold callWith
  rw [he] at h ⊢
  rw [he] at hplain
  refine wpAny_bind (wpAny_holding (wpAny_mono (evalArgs_kwB (Q := fun a s₁ => wpAny M A (call (.type T) a.pos a.kw) Q E s₁) hall h) (fun a s₁ h₁ => wpAny_bind (wpAny_standAt ?_)) fun _ _ x => x))
  simp only [hplain, hkw, Bool.or_false]
  refine wpAny_bind (wpAny_pure ?_)
  exact wpAny_bind (wpAny_mono h₁ (fun r s₂ hr => wpAny_bind (wpAny_holding (wpAny_point (wpAny_pure hr)))) fun _ _ x => x)
def iEnK (K : PySem.W.Frag) (ta tk : TA) : TI := fun σ H R => ta σ H fun vs H1 => tk σ H1 fun ks H2 => ∃ v xs f k, vs = [v] ∧ ks = [.int k] ∧ -(2 ^ 63) ≤ k ∧ k < 2 ^ 63 ∧ SrcF K H2 v xs f ∧ ∀ t, R (Iten K k (f t)) H2
theorem pi_enK {e ek : Expr} {ta tk : TA} {p pos kpos tpos : Pos} {elts : List Expr} {kk : Nat} (hg : Gl X "enumerate") (hm : X.mg "enumerate" = none) (ha : PA X [e] ta) (hk : PK X [⟨some "start", ek, kpos⟩] tk)
    (hev : eval (.Call (.Name "enumerate" p) [e] [⟨some "start", ek, kpos⟩] pos) X.env = (do callWith pos (← eval (.Name "enumerate" p) X.env) [] (backTo pos (starEach [e] X.env)) (backToKw pos (keywordEach [⟨some "start", ek, kpos⟩] X.env))) := by rfl)
    (he : backTo pos (starEach [e] X.env) = (false, eval e X.env) :: backTo pos (starEach [] X.env) := by rfl) (hplain : (backTo pos (starEach [e] X.env)).any (·.1) = false := by rfl) :
    PI X (.Tuple elts kk tpos) (.Call (.Name "enumerate" p) [e] [⟨some "start", ek, kpos⟩] pos) (iEnK X.K ta tk) := by
  refine ⟨fun pins s σ H R I h => ?_⟩
  rw [hev]
  refine wpAny_bind (ld_blt I hg hm boot_enumerate (callWith_tyKw (thn (ha.run pos pins s σ H _ I h) fun us s1 ⟨vs, H1, I1, r1, q1⟩ => thn (hk.run pos pins s1 σ H1 _ I1 q1) fun ws s2 ⟨zs, H2, I2, r2, q2⟩ => ?_) he hplain rfl rfl))
  obtain ⟨v, xs, f, k, ex, ek, k0, k1, hq, q⟩ := q2
  subst ex; subst ek
  obtain ⟨u, rfl, ru⟩ := vals1 r1
  obtain ⟨uk, rfl, rk⟩ := vals1 r2
  obtain ⟨t, rfl⟩ := rk
  obtain ⟨tt, rfl⟩ := hq.1 u ru
  obtain ⟨Hh, B, hB⟩ := src_begins I2 (hq.2 tt)
  exact enum_begins_start B hB k0 k1 fun h' he ho hsz hk => en_it I2 (hq.2 tt) (q tt) he ho hk

/-! ### walks over trees -/
def itemsOf : D → Option (List D)
  | .lst ds => some ds
  | .tup ds => some ds
  | .str x => some (signsD x)
  | .scr ns => some (ns.map D.int)
  | _ => none
theorem reps_ints {G : Gx} {g : Gh} {H : Hp} : ∀ ns : List Int, Reps G g H (ns.map V.int) (ns.map D.int)
  | [] => .nil
  | n :: r => .cons (.int n) (reps_ints r)
theorem reps_signs {G : Gx} {g : Gh} {H : Hp} (x : Str) : Reps G g H (signs x) (signsD x) := by
  unfold signs signsD
  generalize x.cps.toList = l
  induction l with
  | nil => exact .nil
  | cons c r ih => exact .cons (.str _) ih
/-- a tree that can be walked is a source, for good -/
theorem src_rep {G : Gx} {g0 : Gh} {st0 : Sto} {H0 : Hp} {v : V} {d : D} {ds : List D} (r : Rep G g0 H0 v d) (hi : itemsOf d = some ds) : ∃ f xs, SrcF G.K H0 v xs f ∧ ∀ g st H, Step g0 st0 H0 g st H → (∀ t, (f t).at G.K H xs) ∧ Reps G g H xs ds := by
  cases r with
  | lst w h rs => cases hi; exact ⟨fun _ => .lis _, _, ⟨fun u e => ⟨0, e.symm⟩, fun _ => .of h⟩, fun g st H s => ⟨fun _ => .of (s.ex _ _ (.of w) h (.inl rfl)), rs.mono s⟩⟩
  | tup h rs => cases hi; exact ⟨fun _ => .tpl _, _, ⟨fun u e => ⟨0, e.symm⟩, fun _ => h.sq⟩, fun g st H s => ⟨fun _ => (h.mono s).sq, rs.mono s⟩⟩
  | str x => cases hi; exact ⟨fun t => .txt x t, _, ⟨fun u ⟨t, e⟩ => ⟨t, e.symm⟩, fun _ => rfl⟩, fun g st H s => ⟨fun _ => rfl, reps_signs x⟩⟩
  | scr h => cases hi; exact ⟨fun _ => .lis _, _, ⟨fun u e => ⟨0, e.symm⟩, fun _ => h.sq⟩, fun g st H s => ⟨fun _ => (h.mono s).sq, reps_ints _⟩⟩
  | _ => cases hi
def enumD : Int → List D → List D
  | _, [] => []
  | k, d :: ds => .tup [.int k, d] :: enumD (k + 1) ds
theorem enumD_get : ∀ {ds : List D} {k : Int} {i : Nat} {x : D}, (enumD k ds)[i]? = some x → ∃ d, ds[i]? = some d ∧ x = .tup [.int (k + i), d]
  | [], _, _, _, h => by simp [enumD] at h
  | d :: ds, k, 0, x, h => ⟨d, rfl, by simp [enumD] at h; rw [← h]; simp⟩
  | d :: ds, k, i + 1, x, h => by
    obtain ⟨d', h1, h2⟩ := enumD_get (ds := ds) (k := k + 1) (i := i) (x := x) (by simpa [enumD] using h)
    refine ⟨d', by simpa using h1, ?_⟩
    rw [h2]
    have : k + 1 + (i : Int) = k + ((i + 1 : Nat) : Int) := by omega
    rw [this]
theorem enumD_len : ∀ {ds : List D} {k : Int}, (enumD k ds).length = ds.length
  | [], _ => rfl
  | d :: ds, k => by simp [enumD, enumD_len]
theorem wk_en {G : Gx} {g0 : Gh} {st0 : Sto} {H0 : Hp} {f : Tok → Src} {xs : List V} {ds : List D} (k : Int) (t : Tok) (hs : ∀ g st H, Step g0 st0 H0 g st H → (∀ t, (f t).at G.K H xs) ∧ Reps G g H xs ds) : Wk G g0 st0 H0 (Iten G.K k (f t)) (enumD k ds) := by
  refine ⟨fun i d st g H hd s rl => ?_, fun st g H s rl => ?_⟩
  · obtain ⟨hat, rs⟩ := hs g st H s
    obtain ⟨d', hd', rfl⟩ := enumD_get hd
    obtain ⟨v, hv, rv⟩ := rs.get hd'
    refine ⟨⟨xs, v, hat t, hv⟩, fun x H' ⟨T, y, ex, hT, eH, hy⟩ => ?_⟩
    have := hy xs (hat t)
    rw [hv] at this; cases this
    subst ex eH
    obtain ⟨s', rl'⟩ := rl.lay (o := .tup [.int (k + (i : Nat)), v]) hT
    exact ⟨s', rl', .tup (.inl ⟨rl.free hT, .inl upd_same⟩) (.cons (.int _) (.cons (rv.mono s') .nil))⟩
  · obtain ⟨hat, rs⟩ := hs g st H s
    exact ⟨xs, hat t, by rw [enumD_len, rs.length]⟩
def dIt (te : TDE) : TDI := fun env st Q => te env st fun d st1 => match itemsOf d with
  | some ds => Q ds st1
  | none => False
def dEn (te : TDE) : TDI := fun env st Q => te env st fun d st1 => match itemsOf d with
  | some ds => Q (enumD 0 ds) st1
  | none => False
theorem di_en {e : Expr} {te : TDE} {p pos tpos : Pos} {elts : List Expr} {kk : Nat} (hg : Gl X "enumerate") (hm : X.mg "enumerate" = none) (ha : DE cA X e te) (hs : starEach [e] X.env = [(false, eval e X.env)] := by rfl) (hs2 : starEach [e] X.env = (false, eval e X.env) :: starEach [] X.env := by rfl) :
    DI cA X (.Tuple elts kk tpos) (.Call (.Name "enumerate" p) [e] [] pos) (dEn te) :=
  pi_weak (pi_en hg hm (pa_cons ha pa_nil hs2) hs) fun σ H R ⟨g, st, env, Qd, rl, en, h, p⟩ => ⟨g, st, env, _, rl, en, h, fun d st1 g1 H1 v s1 rl1 r1 h1 => by
    cases hi : itemsOf d with
    | none => rw [hi] at h1; exact h1.elim
    | some ds =>
      rw [hi] at h1
      obtain ⟨f, xs, hf, hs⟩ := src_rep (st0 := st1) r1 hi
      exact ⟨v, xs, f, rfl, hf, fun t => p _ _ _ _ _ s1 rl1 (wk_en 0 t hs) h1⟩⟩
def dEnK (k : Int) (te : TDE) : TDI := fun env st Q => te env st fun d st1 => match itemsOf d with
  | some ds => Q (enumD k ds) st1
  | none => False
theorem di_enK {e : Expr} {te : TDE} {k : Int} {p pos kpos kp2 tpos : Pos} {j kk : Nat} {elts : List Expr} (hg : Gl X "enumerate") (hm : X.mg "enumerate" = none) (ha : DE cA X e te) (k0 : -(2 ^ 63) ≤ k := by decide) (k1 : k < 2 ^ 63 := by decide)
    (hev : eval (.Call (.Name "enumerate" p) [e] [⟨some "start", .Constant (.int k) j kp2, kpos⟩] pos) X.env = (do callWith pos (← eval (.Name "enumerate" p) X.env) [] (backTo pos (starEach [e] X.env)) (backToKw pos (keywordEach [⟨some "start", .Constant (.int k) j kp2, kpos⟩] X.env))) := by rfl)
    (hs2 : starEach [e] X.env = (false, eval e X.env) :: starEach [] X.env := by rfl) (he : backTo pos (starEach [e] X.env) = (false, eval e X.env) :: backTo pos (starEach [] X.env) := by rfl) (hplain : (backTo pos (starEach [e] X.env)).any (·.1) = false := by rfl) :
    DI cA X (.Tuple elts kk tpos) (.Call (.Name "enumerate" p) [e] [⟨some "start", .Constant (.int k) j kp2, kpos⟩] pos) (dEnK k te) :=
  pi_weak (pi_enK hg hm (pa_cons ha pa_nil hs2) (pk_cons pe_int pk_nil) hev he hplain) fun σ H R ⟨g, st, env, Qd, rl, en, h, p⟩ => ⟨g, st, env, _, rl, en, h, fun d st1 g1 H1 v s1 rl1 r1 h1 => by
    cases hi : itemsOf d with
    | none => rw [hi] at h1; exact h1.elim
    | some ds =>
      rw [hi] at h1
      obtain ⟨f, xs, hf, hs⟩ := src_rep (st0 := st1) r1 hi
      exact ⟨v, xs, f, k, rfl, rfl, k0, k1, hf, fun t => p _ _ _ _ _ s1 rl1 (wk_en k t hs) h1⟩⟩
/-- range -/
def rangeD (lo : Int) (n : Nat) : List D := (List.range n).map fun i => D.int (lo + (i : Nat))
theorem wk_range {G : Gx} {g0 : Gh} {st0 : Sto} {H0 : Hp} (lo : Int) (n : Nat) : Wk G g0 st0 H0 (Itr lo n) (rangeD lo n) := by
  refine ⟨fun i d st g H hd s rl => ?_, fun st g H s rl => by simp [rangeD, Itr]⟩
  have hi : i < n := by
    have := (List.getElem?_eq_some_iff.mp hd).1
    simpa [rangeD] using this
  have e : d = .int (lo + (i : Nat)) := by simpa [rangeD, hi, eq_comm] using hd
  subst e
  refine ⟨hi, fun x H' ⟨e1, e2⟩ => ?_⟩
  subst e1 e2
  exact ⟨Step.refl _ _ _, rl, .int _⟩
def dRg1 (te : TDE) : TDI := fun env st Q => te env st fun d st1 => match d with
  | .int j => (-(2 ^ 62) ≤ j ∧ j < 2 ^ 62) ∧ Q (rangeD 0 j.toNat) st1
  | _ => False
theorem di_range1 {tg a : Expr} {ta : TDE} {p pos : Pos} (hg : Gl X "range") (hm : X.mg "range" = none) (ha : DE cA X a ta) (hs : starEach [a] X.env = [(false, eval a X.env)] := by rfl) (hs2 : starEach [a] X.env = (false, eval a X.env) :: starEach [] X.env := by rfl) : DI cA X tg (.Call (.Name "range" p) [a] [] pos) (dRg1 ta) :=
  pi_weak (pi_range1 hg hm (pa_cons ha pa_nil hs2) hs) fun σ H R ⟨g, st, env, Qd, rl, en, h, p⟩ => ⟨g, st, env, _, rl, en, h, fun d st1 g1 H1 v s1 rl1 r1 h1 => by
    cases r1 with
    | int j => exact ⟨j, rfl, h1.1.1, h1.1.2, p _ _ _ _ _ s1 rl1 (wk_range 0 j.toNat) h1.2⟩
    | _ => exact h1.elim⟩
def dRg2 (ta tb : TDE) : TDI := fun env st Q => ta env st fun x st1 => tb env st1 fun y st2 => match x, y with
  | .int i, .int j => (-(2 ^ 62) ≤ i ∧ i < 2 ^ 62 ∧ -(2 ^ 62) ≤ j ∧ j < 2 ^ 62) ∧ Q (rangeD i (j - i).toNat) st2
  | _, _ => False
theorem di_range2 {tg a b : Expr} {ta tb : TDE} {p pos : Pos} (hg : Gl X "range") (hm : X.mg "range" = none) (ha : DE cA X a ta) (hb : DE cA X b tb) (hs : starEach [a, b] X.env = [(false, eval a X.env), (false, eval b X.env)] := by rfl) (hs2 : starEach [b] X.env = [(false, eval b X.env)] := by rfl)
    (hs3 : starEach [a, b] X.env = (false, eval a X.env) :: starEach [b] X.env := by rfl) (hs4 : starEach [b] X.env = (false, eval b X.env) :: starEach [] X.env := by rfl) : DI cA X tg (.Call (.Name "range" p) [a, b] [] pos) (dRg2 ta tb) :=
  pi_weak (pi_range2 hg hm (pa_cons ha (pa_cons hb pa_nil hs4) hs3) hs hs2) fun σ H R ⟨g, st, env, Qd, rl, en, h, p⟩ => ⟨g, st, env, _, rl, en, h, fun d st1 g1 H1 v s1 rl1 r1 h1 => ⟨g1, st1, env, _, rl1, en.mono s1, h1, fun d2 st2 g2 H2 v2 s2 rl2 r2 h2 => by
    have r1' := r1.mono s2
    cases r1' with
    | int i =>
      cases r2 with
      | int j => exact ⟨i, j, rfl, h2.1, p _ _ _ _ _ (s1.trans s2) rl2 (wk_range i (j - i).toNat) h2.2⟩
      | _ => exact h2.elim
    | _ => cases r2 <;> exact h2.elim⟩⟩
/-- anything that can be walked -/
def iAny (K : PySem.W.Frag) (te : TE) : TI := fun σ H R => te σ H fun v H1 => (∃ a, v = .ref a ∧ (∃ xs, SqL K H1 a xs) ∧ R (Itl K a) H1) ∨ (∃ a, v = .ref a ∧ (∃ xs, SqT K H1 a xs) ∧ R (Itt K a) H1) ∨ ∃ x, v = .str x ∧ R (Its x) H1
theorem pi_any {tg e : Expr} {te : TE} (he : PE X e te) : PI X tg e (iAny X.K te) := by
  refine ⟨fun pins s σ H R I h => ?_⟩
  refine thn (he.run pins s σ H _ I h) fun v s1 ⟨y, H1, I1, r1, q1⟩ => ?_
  rcases q1 with ⟨a, e, ⟨xs, hq⟩, q⟩ | ⟨a, e, ⟨xs, hq⟩, q⟩ | ⟨x, e, q⟩
  · subst e
    cases r1
    obtain ⟨its, rv, p, hz⟩ := I1.list hq
    refine wpAny_pyIter_list p.isList ?_
    refine ⟨s1.heap.objs.size, [s1.heap.objs.size], _, _, H1, rfl, I1.kept (t' := s1.toks) fun b o e => Heap.get?_push_of_some _ e, turn_list a _, ⟨_, Heap.get?_push_size _ rfl, rfl, rfl⟩, fun b hb => ?_, q⟩
    have e : b = s1.heap.objs.size := by simpa using hb
    subst e
    exact I1.fpOk (Nat.le_refl _) (I1.hok.fresh (Nat.le_refl _))
  · subst e
    cases r1
    obtain ⟨its, rv, p, hz⟩ := I1.tuple hq
    refine wpAny_pyIter_tuple (show s1.heap.IsTuple a its.toArray from p) ?_
    refine ⟨s1.heap.objs.size, [s1.heap.objs.size], _, _, H1, rfl, I1.kept (t' := s1.toks) fun b o e => Heap.get?_push_of_some _ e, turn_tuple a _, ⟨_, Heap.get?_push_size _ rfl, rfl, rfl⟩, fun b hb => ?_, q⟩
    have e : b = s1.heap.objs.size := by simpa using hb
    subst e
    exact I1.fpOk (Nat.le_refl _) (I1.hok.fresh (Nat.le_refl _))
  · subst e
    obtain ⟨t, rfl⟩ := r1
    cases ha : x.cps.all (· < 128)
    · exact wpAny_pyIter_wide ha (pi_one (tk := s1.toks) I1 _ (turn_str _ x t "str_iterator" (.inr rfl)) ⟨_, Heap.get?_push_size _ rfl, rfl, rfl⟩ q)
    · exact wpAny_pyIter_ascii ha (pi_one (tk := s1.toks) I1 _ (turn_str _ x t "str_ascii_iterator" (.inl rfl)) ⟨_, Heap.get?_push_size _ rfl, rfl, rfl⟩ q)
theorem wk_seq {G : Gx} {g0 : Gh} {st0 : Sto} {H0 : Hp} {J : It} {xs : List V} {ds : List D} {at' : Hp → Prop} (hs : ∀ g st H, Step g0 st0 H0 g st H → at' H ∧ Reps G g H xs ds) (hgo : ∀ i x H, at' H → xs[i]? = some x → J.go i H) (hy : ∀ i H x H', at' H → J.yld i H x H' → H' = H ∧ xs[i]? = some x) (hst : ∀ H, at' H → J.stop xs.length H) : Wk G g0 st0 H0 J ds := by
  refine ⟨fun i d st g H hd s rl => ?_, fun st g H s rl => ?_⟩
  · obtain ⟨hat, rs⟩ := hs g st H s
    obtain ⟨v, hv, rv⟩ := rs.get hd
    refine ⟨hgo i v H hat hv, fun x H' y => ?_⟩
    obtain ⟨e, hx⟩ := hy i H x H' hat y
    subst e
    rw [hv] at hx; cases hx
    exact ⟨Step.refl _ _ _, rl, rv⟩
  · obtain ⟨hat, rs⟩ := hs g st H s
    rw [← rs.length]
    exact hst H hat
theorem di_any {tg e : Expr} {te : TDE} (he : DE cA X e te) : DI cA X tg e (dIt te) :=
  pi_weak (pi_any he) fun σ H R ⟨g, st, env, Qd, rl, en, h, p⟩ => ⟨g, st, env, _, rl, en, h, fun d st1 g1 H1 v s1 rl1 r1 h1 => by
    cases hi : itemsOf d with
    | none => rw [hi] at h1; exact h1.elim
    | some ds =>
      rw [hi] at h1
      obtain ⟨f, xs, hf, hs⟩ := src_rep (st0 := st1) r1 hi
      cases r1 with
      | lst w hh rs =>
        cases hi
        refine .inl ⟨_, rfl, ⟨_, .of hh⟩, p _ _ _ _ _ s1 rl1 ?_ h1⟩
        exact wk_seq (xs := _) (at' := fun H => SqL X.K H _ _) (fun g st H s => ⟨.of (s.ex _ _ (.of w) hh (.inl rfl)), rs.mono s⟩) (fun i x H a e => ⟨_, x, a, e⟩) (fun i H x H' a y => ⟨y.1, y.2 _ a⟩) (fun H a => ⟨_, a, Nat.le_refl _⟩)
      | tup hh rs =>
        cases hi
        refine .inr (.inl ⟨_, rfl, ⟨_, hh.sq⟩, p _ _ _ _ _ s1 rl1 ?_ h1⟩)
        exact wk_seq (xs := _) (at' := fun H => SqT X.K H _ _) (fun g st H s => ⟨(hh.mono s).sq, rs.mono s⟩) (fun i x H a e => ⟨_, x, a, e⟩) (fun i H x H' a y => ⟨y.1, y.2 _ a⟩) (fun H a => ⟨_, a, Nat.le_refl _⟩)
      | str x =>
        cases hi
        refine .inr (.inr ⟨x, rfl, p _ _ _ _ _ s1 rl1 ?_ h1⟩)
        exact wk_seq (xs := signs x) (at' := fun _ => True) (fun g st H s => ⟨trivial, reps_signs x⟩) (fun i v H a e => by have := (List.getElem?_eq_some_iff.mp e).1; rw [signs_len] at this; exact this) (fun i H v H' a ⟨y, c, hc, e⟩ => ⟨y, by rw [e]; exact signs_get hc⟩) (fun H a => by rw [signs_len]; exact Nat.le_refl _)
      | scr hh =>
        cases hi
        refine .inl ⟨_, rfl, ⟨_, hh.sq⟩, p _ _ _ _ _ s1 rl1 ?_ h1⟩
        exact wk_seq (xs := _) (at' := fun H => SqL X.K H _ _) (fun g st H s => ⟨(hh.mono s).sq, reps_ints _⟩) (fun i x H a e => ⟨_, x, a, e⟩) (fun i H x H' a y => ⟨y.1, y.2 _ a⟩) (fun H a => ⟨_, a, Nat.le_refl _⟩)
      | _ => cases hi⟩
end
end TL
namespace TL
open PySem PySem.Spec PyProof.Rows L2
/-! ### a def's promise where nothing is being shown (no repr runs around): FnT -/
structure FnT (cA : Nat → Addr) (P : Program) (w : World) (K : PySem.W.Frag) (mg : Str → Option Value) (base : Heap) (k : Nat) (f : Addr) (fd : FuncData) (ps : List Str) (sp : DSp) : Prop where
  len : ∀ ds st Q E, sp ds st Q E → ds.length = ps.length
  run : ∀ (A : Around) (outer : List Env) (s : Shared) (H : Hp) (args : Args) (us : List Value) (vs : List V) (Q : VK), Room k A → A.guards = some [] → Env0 P w K mg base A outer s H → BindsTo s fd args (ps.zip us) → Vals vs us → liftSp ⟨K, cA⟩ sp vs H Q E0 →
    codeAny (model P w) A (.call (.ref f) args) (CR CX0 outer P w H s Q E0) s
section
variable {cA : Nat → Addr} {P : Program} {w : World} {K : PySem.W.Frag} {mg : Str → Option Value} {base : Heap}
theorem FnT.mono {j k : Nat} {f : Addr} {fd : FuncData} {ps : List Str} {sp : DSp} (F : FnT cA P w K mg base j f fd ps sp) (h : j ≤ k) : FnT cA P w K mg base k f fd ps sp :=
  ⟨F.len, fun A outer s H args us vs Q hr => F.run A outer s H args us vs Q (hr.mono h)⟩
theorem FnT.imp {k : Nat} {f : Addr} {fd : FuncData} {ps : List Str} {sp sp' : DSp} (F : FnT cA P w K mg base k f fd ps sp) (h : ∀ ds st Q E, sp' ds st Q E → sp ds st Q E) : FnT cA P w K mg base k f fd ps sp' :=
  ⟨fun ds st Q E q => F.len ds st Q E (h _ _ _ _ q), fun A outer s H args us vs Q hr hg e0 hb hv ⟨g, st, ds, Qd, rl, rs, hs, p⟩ => F.run A outer s H args us vs Q hr hg e0 hb hv ⟨g, st, ds, Qd, rl, rs, h _ _ _ _ hs, p⟩⟩
/-- a promise of the layer, over trees -/
theorem FnT.of {k : Nat} {f : Addr} {fd : FuncData} {ps : List Str} {sp : DSp} (len : ∀ ds st Q E, sp ds st Q E → ds.length = ps.length) (F : FnOk P w K mg base CX0 k f fd ps (liftSp ⟨K, cA⟩ sp)) : FnT cA P w K mg base k f fd ps sp :=
  ⟨len, fun A outer s H args us vs Q hr _ e0 hb hv hs => F.run A outer s H args us vs Q E0 hr e0 hb hv hs⟩
/-- THE RULE for a def that raises nothing, its body over trees -/
theorem fn {x qual : Str} {st : Stmt} {f : Addr} {fd : FuncData} {N ps : List Str} {k : Nat} {sp : DSp} {tb : TDS} (F : Fun K x qual st f fd) (S : FnScope N ps (defScope st))
    (len : ∀ ds st Q E, sp ds st Q E → ds.length = ps.length)
    (hd : ∀ (cdv : Value) (A : Around) (outer : List Env) (s : Shared) (H : Hp), Room k (A.deeper (envOfC qual (defScope st) s.heap.objs.size f cdv)) → (A.deeper (envOfC qual (defScope st) s.heap.objs.size f cdv)).guards = some [] →
      DSs cA (cxOf CX0 P w K mg base N qual (defScope st) f cdv A outer s H E0).nox (defBody st) tb)
    (hb : ∀ ds s0 Q, sp ds s0 Q (fun _ _ _ => False) → tb (ends Q) (startD N ds) s0) : FnT cA P w K mg base (k + 1) f fd ps sp := by
  obtain ⟨oc, od, kV, doc, pm, an, cdv, ct, osl, rfl, lk, hcd⟩ := F.ex
  refine ⟨len, fun A outer s H args us vs Q hr hg e0 hbd r hsp => ?_⟩
  obtain ⟨g, s0, ds, Qd, rl, rs, h, p⟩ := hsp
  have hl : vs.length = ps.length := rs.length.trans (len _ _ _ _ h)
  have KX : K.In s.heap := e0.mod.kin.keeps fun b o e => (e0.bs b o e).1
  have lim : s.heap.NoLimit := e0.mod.nolimit.keeps fun b o e => (e0.bs b o e).1
  refine codeAny_call_function hr.depth (KX _ _ lk) rfl S.co S.gen rfl (PySem.W.codeRec_of KX hcd) (hbd _ _ _ _ ?_)
  refine wpAny_newFunctionEnv_cells S.kind (fun y hy => ?_) fun env he s1 x => ?_
  · cases S.par y.1 (List.of_mem_zip (a := y.1) (b := y.2) hy).1 with
    | inl q => exact .inl q
    | inr q => exact .inr ⟨q, PySem.W.cellsFrom_some _ _ _ (.inl q)⟩
  subst he
  refine ⟨lim.keeps x.toInCall.keep, codeAny_func ?_⟩
  have I := inv_start (CX := CX0) (E := E0) S hr.hd e0 hl r x
  have D := PSs.nox (hd cdv A outer s H (hr.deeper _) hg)
  refine wpAny_mono (D.run [] s1 (L2.start N vs) H { nx := fun _ H' => Q .non H', rt := Q } I
    ⟨g, s0, startD N ds, ends Qd, rl, env_start rs, hb ds s0 Qd h, ⟨fun env1 st1 g1 H1 σ1 q1 rl1 en1 ⟨st', sb, q⟩ => p .non st' g1 H1 .non (q1.sub sb) (rl1.sub sb) .non q, fun d st1 g1 H1 v q1 rl1 r1 ⟨st', sb, q⟩ => p d st' g1 H1 v (q1.sub sb) (rl1.sub sb) r1 q, fun _ _ _ _ _ _ _ _ q => q.elim, fun _ _ _ _ _ _ _ _ q => q.elim⟩⟩) (fun fl s' hs => ?_) fun e s' hs => hs
  cases fl with
  | ret u => obtain ⟨v, σ', H', J, rv, q⟩ := hs; exact ⟨v, H', J.os, J.bare, J.base, J.hok, rv, q⟩
  | next => obtain ⟨σ', H', J, q⟩ := hs; exact ⟨.non, H', J.os, J.bare, J.base, J.hok, rfl, q⟩
  | brk => obtain ⟨_, _, _, q⟩ := hs; exact q.elim
  | cont => obtain ⟨_, _, _, q⟩ := hs; exact q.elim
end
section
variable {X : Cx} {cA : Nat → Addr} {k : Nat} {f : Addr} {fd : FuncData} {ps : List Str} {sp : DSp} {x : Str} {p pos : Pos} {e : Expr} {es : List Expr} {t : TDA}
/-- what comes behind a call that raises nothing -/
theorem back {pins : List (Addr × Obj)} {σ : L2.St} {H : Hp} {s : Shared} {Q : VK} {c : Code} {us : List Value} (I : Inv X pins σ H s) (h : codeAny (model X.prog X.w) X.A (.call (.ref f) ⟨us, []⟩) (CR CX0 X.stack X.prog X.w H s Q E0) s) :
    wpAny (model X.prog X.w) X.A (call (.ref f) us) (EP X pins σ Q) X.xe s := by
  refine wpAny_call (codeAny_mono h fun r s' hq => ?_)
  cases r with
  | error e => exact hq.elim
  | ok fl => cases fl with
    | ret u => exact I.after hq
    | _ => exact hq.elim
theorem run_t {pins : List (Addr × Obj)} {σ : L2.St} {H : Hp} {s : Shared} {Q : VK} {us : List Value} {vs : List V} (F : FnT cA X.prog X.w X.K X.mg X.base k f fd ps sp) (hr : Room k X.A) (hgd : X.A.guards = some []) (hb : Binds X.K fd ps [])
    (I : Inv X pins σ H s) (r : Vals vs us) (h : liftSp (gx X cA) sp vs H Q E0) : wpAny (model X.prog X.w) X.A (call (.ref f) us) (EP X pins σ Q) X.xe s := by
  have hl : (us ++ []).length = ps.length := by
    obtain ⟨g, st, ds, Qd, rl, rs, hs, _⟩ := h
    rw [List.append_nil, ← r.length, rs.length]
    exact F.len _ _ _ _ hs
  have hbd := hb s us I.kIn hl
  rw [List.append_nil] at hbd
  exact back (c := .call (.ref f) ⟨us, []⟩) I (F.run X.A X.stack s H ⟨us, []⟩ us vs Q hr hgd I.env0 hbd r h)
theorem dt_call (F : FnT cA X.prog X.w X.K X.mg X.base k f fd ps sp) (hr : Room k X.A) (hgd : X.A.guards = some []) (hg : Gl X x) (hm : X.mg x = some (.ref f)) (hk : PySem.W.keepIn X.K (.ref f) = true) (hb : Binds X.K fd ps [])
    (ha : DA cA X (e :: es) t) (hdb : (x == ("__debug__" : Str)) = false := by decide) (he : starEach (e :: es) X.env = (false, eval e X.env) :: starEach es X.env := by rfl) (hpl : (backTo pos (starEach es X.env)).any (·.1) = false := by rfl) :
    DE cA X (.Call (.Name x p) (e :: es) [] pos) (dCall sp t) := by
  refine ⟨fun pins s σ H Q I h => ?_⟩
  obtain ⟨g, st, env, Qd, rl, en, h, pq⟩ := h
  refine wpAny_Call_Name_kw (ld_glob I hg hm ?_ hdb)
  refine PySem.W.callWith_K (h₀ := X.base) I.ok.mod.kin hk (thn (ha.run pos pins s σ H (fun vs H' => liftSp (gx X cA) sp vs H' Q E0) I ⟨g, st, env, _, rl, en, h, fun ds st1 g1 H1 vs s1 rl1 r1 h1 => ⟨g1, st1, ds, Qd, rl1, r1, h1, pq.step s1⟩⟩) fun us s1 ⟨vs, H1, I1, r, q⟩ => ⟨I1.kIn, ?_⟩) he hpl
  exact run_t F hr hgd hb I1 r q
theorem dt_call0 (F : FnT cA X.prog X.w X.K X.mg X.base k f fd ps sp) (hr : Room k X.A) (hgd : X.A.guards = some []) (hg : Gl X x) (hm : X.mg x = some (.ref f)) (hk : PySem.W.keepIn X.K (.ref f) = true) (hb : Binds X.K fd ps [])
    (hdb : (x == ("__debug__" : Str)) = false := by decide) : DE cA X (.Call (.Name x p) [] [] pos) (dCall sp dNil) := by
  refine ⟨fun pins s σ H Q I ⟨g, st, env, Qd, rl, en, h, pq⟩ => ?_⟩
  refine wpAny_Call_Name_kw (ld_glob I hg hm ?_ hdb)
  exact PySem.W.callWith_K0 I.kIn hk (run_t (us := []) (vs := []) F hr hgd hb I .nil ⟨g, st, [], Qd, rl, .nil, h, pq⟩)
end

/-! ### the end of a law row -/
theorem rel_none {G : Gx} {H : Hp} : Rel G ⟨fun _ => none, fun _ => none⟩ (fun _ => none) H := ⟨fun _ _ h => (by cases h), fun _ _ h => (by cases h), 0, fun _ _ => ⟨rfl, rfl⟩⟩
/-- the law's call, from its promise: True for every list of ints -/
theorem law_end {P : Program} {w : World} {K : PySem.W.Frag} {cA : Nat → Addr} {mg mb : Str → Option Value} {k : Nat} {fa a : Addr} {fd : FuncData} {x : Str} {sp : DSp} {s₁ : Shared} {vs : List Value} {ns : List Int}
    (KX : K.In s₁.heap) (hns : s₁.heap.Ns mainGlobals mg) (hb : s₁.heap.Ns builtinsNs mb) (hbb : ∀ x : Str, x ≠ "__name__" → mb x = bootBuiltins x) (hlim : s₁.heap.NoLimit) (hg : s₁.gens = #[])
    (ha : s₁.heap.get? a = some { cls := .type "list", data := .seq vs.toArray }) (hi : IntsAre vs ns) (hl : ns.length ≤ sizeLine) (hr : Room k callerA)
    (F : ∀ base : Heap, K.In base → base.Ns mainGlobals mg → FnT cA P w K mg base k fa fd [x] sp) (hbind : ∀ (s : Shared) (u : Value), BindsTo s fd ⟨[u], []⟩ [(x, u)])
    (hsp : sp [.scr ns] (fun _ => none) (fun d _ => d = .bl true) fun _ _ _ => False) :
    codeAny (model P w) callerA (.call (.ref fa) ⟨[.ref a], []⟩) (fun r s' => r = .ok (.ret (.bool true)) ∧ OldK s₁.heap s'.heap ∧ s'.os = s₁.os ∧ AllBare s'.gens) s₁ := by
  -- H: an abstract heap that knows of the script at most
  have go : ∀ H : Hp, (∀ b u, H b = some u → b = a ∧ u = .frz { cls := .type "list", data := .seq vs.toArray } (.lst (ns.map V.int)) ∧ K.lookup a = none) → SqL K H a (ns.map V.int) →
      codeAny (model P w) callerA (.call (.ref fa) ⟨[.ref a], []⟩) (fun r s' => r = .ok (.ret (.bool true)) ∧ OldK s₁.heap s'.heap ∧ s'.os = s₁.os ∧ AllBare s'.gens) s₁ := by
    intro H only hS
    have hok : HOk P w H s₁.heap := fun b u e => by
      obtain ⟨rfl, rfl, _⟩ := only b u e
      exact ⟨ha, by simpa using hl, vs, _, vals_of_ints hi, ha⟩
    have seen : ∀ {b : Addr} {o : Obj}, s₁.heap.get? b = some o → (b = a → ∀ n, o.data ≠ .seq vs.toArray n) → (hidT s₁.heap H).get? b = some o := fun {b o} e hne => by
      refine hidT_get e ?_
      cases q : H b with
      | none => rfl
      | some u =>
        obtain ⟨rfl, _, _⟩ := only b u q
        rw [ha] at e
        have e := Option.some.inj e
        subst e
        exact absurd rfl (hne rfl 0)
    have nsB : ∀ {b : Addr} {m : Str → Option Value}, s₁.heap.Ns b m → (hidT s₁.heap H).Ns b m := fun {b m} ⟨o, es, ep, e, d, q⟩ => ⟨o, es, ep, seen e (fun _ n z => by rw [d] at z; cases z), d, q⟩
    have KB : K.In (hidT s₁.heap H) := fun b o e => by
      refine hidT_get (KX b o e) ?_
      cases q : H b with
      | none => rfl
      | some u =>
        obtain ⟨rfl, _, z⟩ := only b u q
        rw [z] at e; cases e
    have e0 : Env0 P w K mg (hidT s₁.heap H) callerA [] s₁ H :=
      ⟨rfl, ⟨KB, nsB hns, ⟨mb, nsB hb, hbb⟩, hlim.elim fun mc h => ⟨mc, nsB h.1, h.2⟩⟩, fun b o e => of_hidT e, Nat.le_of_eq (hidT_size _ _), trivial, fun b hb => (by cases hb), hok, .of_eq hg⟩
    have key := (F _ KB (nsB hns)).run callerA [] s₁ H ⟨[.ref a], []⟩ [.ref a] [.ref a] (fun v _ => v = .bl true) hr rfl e0 (hbind s₁ (.ref a)) (.cons rfl .nil)
      ⟨⟨fun _ => none, fun _ => none⟩, fun _ => none, [.scr ns], _, rel_none, .cons (.scr (hS.elim (fun h => .inl ⟨rfl, h⟩) .inr)) .nil, hsp, fun d st' g' H' v _ _ r q => by
        have q : d = .bl true := q
        subst q
        cases r with
        | bl b => rfl⟩
    refine codeAny_mono key fun r s' h => ?_
    match r, h with
    | .ok (.ret u), h =>
      obtain ⟨v, H', os, bare, un, hok', rv, q⟩ := h
      have q : v = .bl true := q
      subst q
      have eu : u = Value.bool true := rv
      refine ⟨by rw [eu], OldK.of_keep fun b o e => ?_, os, bare⟩
      cases q : H b with
      | none => exact un.keep b o e q (fun z => by cases z) (by simp)
      | some u =>
        obtain ⟨rfl, rfl, _⟩ := only b u q
        have z := hok' b _ (un.frzs b _ _ q)
        rw [ha] at e
        have e := Option.some.inj e
        rw [← e]
        exact z.1
  cases hk : K.lookup a with
  | none =>
    refine go (fun b => if b = a then some (.frz { cls := .type "list", data := .seq vs.toArray } (.lst (ns.map V.int))) else none) (fun b u e => ?_) (.inl (.inr ⟨_, if_pos rfl⟩))
    by_cases hb : b = a
    · exact ⟨hb, by simpa [hb, eq_comm] using e, hk⟩
    · simp [hb] at e
  | some o =>
    have e := KX a o hk
    rw [ha] at e
    have e := Option.some.inj e
    subst e
    exact go (fun _ => none) (fun b u e => by cases e) (.inr ⟨_, vs.toArray, _, hk, rfl, rfl, rfl, by simpa [hi.length] using hl, by simpa using vals_of_ints hi⟩)
/-- the goal that k_head leaves, from the law's promise over trees -/
theorem walk_t {l : PySem.W.OpenLaw} {n k : Nat} {q : Program} {loose : List Str} {XP : (Str → Option Value) → Heap → Prop} {YP : World → Heap → Prop} {d : DefRec} {K : Params → PySem.W.Frag} {sp : DSp} {x : Str}
    (hn : l.most = some n) (hn2 : n ≤ sizeLine) (hdf : d.params.defaults = []) (hr : Room k callerA) (hY : ∀ (w : World) (h : Heap), YP w h → (K w.params).In h)
    (F : ∀ (w : World) (mg : Str → Option Value) (fa : Addr) (h : Heap), (K w.params).In h → h.Ns mainGlobals mg → mg d.name = some (.ref fa) →
      ∃ (fd : FuncData) (cA : Nat → Addr), (∀ (s : Shared) (u : Value), BindsTo s fd ⟨[u], []⟩ [(x, u)]) ∧ ∀ base : Heap, (K w.params).In base → base.Ns mainGlobals mg → FnT cA l.prog w (K w.params) mg base k fa fd [x] sp)
    (hsp : ∀ ns : List Int, ns.length ≤ n → sp [.scr ns] (fun _ => none) (fun d _ => d = .bl true) fun _ _ _ => False) :
    PySem.W.WalkO q loose XP YP l.row.toRowW d [] (fun f vs => PySem.call f vs) := by
  refine Att.attach_call hn hdf fun w s₀ s₁ mg mb fa o pm cd doc a vs ns G Y ho hd hcd hmg hobj hints hlen hg => ?_
  obtain ⟨fd, cA, hb, hF⟩ := F w mg fa _ (hY w _ Y) G.T.g hmg
  exact law_end (cA := cA) (hY w _ Y) G.T.g G.T.b G.T.builtins G.T.nolimit hg hobj hints (Nat.le_trans hlen hn2) hr hF hb (hsp ns hlen)
end TL
namespace TL
open PySem PySem.Spec PyProof.Rows L2
/-- what is seen through a cell -/
def look (st : Sto) : D → D
  | .ref n => match st n with
    | some (.lst ds) => .lst ds
    | some (.dct kd) => .dct kd
    | some (.obj c fd) => .obj c fd
    | _ => .ref n
  | d => d
section
variable {G : Gx} {g : Gh} {st : Sto} {H : Hp} {v : V} {d : D}
theorem see_lst {ds : List D} (rl : Rel G g st H) (r : Rep G g H v d) (h : look st d = .lst ds) : ∃ a vs, v = .ref a ∧ H a = some (.lst vs) ∧ Reps G g H vs ds := by
  cases r with
  | lst w e rs => cases h; exact ⟨_, _, rfl, e, rs⟩
  | @ref a n e =>
    unfold look at h
    cases q : st n with
    | none => simp [q] at h
    | some m =>
      simp only [q] at h
      cases m with
      | lst ds' =>
        cases h
        obtain ⟨a', e1, e2, vs, e3, e4⟩ := rl.cell n _ q
        rw [e] at e1; cases e1
        exact ⟨a, vs, rfl, e3, e4⟩
      | dct _ => cases h
      | obj _ _ => cases h
      | box => cases h
  | _ => cases h
theorem see_tup {ds : List D} (r : Rep G g H v d) (h : look st d = .tup ds) : ∃ a vs, v = .ref a ∧ FT G g H a vs ∧ Reps G g H vs ds := by
  cases r with
  | tup e rs => cases h; exact ⟨_, _, rfl, e, rs⟩
  | @ref a n e =>
    unfold look at h
    cases q : st n with
    | none => simp [q] at h
    | some m => simp only [q] at h; cases m <;> cases h
  | _ => cases h
theorem see_int {i : Int} (r : Rep G g H v d) (h : look st d = .int i) : v = .int i := by
  cases r with
  | int j => cases h; rfl
  | @ref a n e =>
    unfold look at h
    cases q : st n with
    | none => simp [q] at h
    | some m => simp only [q] at h; cases m <;> cases h
  | _ => cases h
theorem see_str {i : Str} (r : Rep G g H v d) (h : look st d = .str i) : v = .str i := by
  cases r with
  | str j => cases h; rfl
  | @ref a n e =>
    unfold look at h
    cases q : st n with
    | none => simp [q] at h
    | some m => simp only [q] at h; cases m <;> cases h
  | _ => cases h
theorem see_bl {i : Bool} (r : Rep G g H v d) (h : look st d = .bl i) : v = .bl i := by
  cases r with
  | bl j => cases h; rfl
  | @ref a n e =>
    unfold look at h
    cases q : st n with
    | none => simp [q] at h
    | some m => simp only [q] at h; cases m <;> cases h
  | _ => cases h
theorem see_dct {kd : List (Key × D)} (rl : Rel G g st H) (r : Rep G g H v d) (h : look st d = .dct kd) : ∃ a kv, v = .ref a ∧ Rd H a (.dK kv) ∧ RepK G g H kv kd := by
  cases r with
  | dct e rs => cases h; exact ⟨_, _, rfl, e.2, rs⟩
  | @ref a n e =>
    unfold look at h
    cases q : st n with
    | none => simp [q] at h
    | some m =>
      simp only [q] at h
      cases m with
      | dct ds' =>
        cases h
        obtain ⟨a', e1, e2, vs, e3, e4⟩ := rl.cell n _ q
        rw [e] at e1; cases e1
        exact ⟨a, vs, rfl, .inl e3, e4⟩
      | lst _ => cases h
      | obj _ _ => cases h
      | box => cases h
  | _ => cases h
theorem see_scr {ns : List Int} (r : Rep G g H v d) (h : look st d = .scr ns) : ∃ a, v = .ref a ∧ FL G g H a (ns.map V.int) := by
  cases r with
  | scr e => cases h; exact ⟨_, rfl, e⟩
  | @ref a n e =>
    unfold look at h
    cases q : st n with
    | none => simp [q] at h
    | some m => simp only [q] at h; cases m <;> cases h
  | _ => cases h
end
section
variable {X : Cx} {cA : Nat → Addr}
/-! ### + - * // % -/
def rdAdd : RD2 := fun x y st Q => match look st x, look st y with
  | .int i, .int j => Q (.int (i + j)) st
  | .str a, .str b => a.length + b.length ≤ sizeLine ∧ Q (.str (a ++ b)) st
  | .lst a, .lst b => a.length + b.length ≤ sizeLine ∧ Q (.lst (a ++ b)) st
  | .tup a, .tup b => a.length + b.length ≤ sizeLine ∧ Q (.tup (a ++ b)) st
  | _, _ => False
theorem im_add : Im2 (gx X cA) (fun x y H Q => rI0 (fun i j => .int (i + j)) x y H Q ∨ (∃ i j, x = .str i ∧ y = .str j ∧ i.length + j.length ≤ sizeLine ∧ Q (.str (i ++ j)) H) ∨ rCat x y H Q ∨ rCatA X.K x y H Q) rdAdd := by
  intro g st H x y dx dy Qd Q rl rx ry h p
  unfold rdAdd at h
  split at h
  · rename_i i j ex ey; exact .inl ⟨i, j, see_int rx ex, see_int ry ey, p.now rl (.int _) h⟩
  · rename_i a b ex ey; exact .inr (.inl ⟨a, b, see_str rx ex, see_str ry ey, h.1, p.now rl (.str _) h.2⟩)
  · rename_i a b ex ey
    obtain ⟨l, vs, rfl, e1, r1⟩ := see_lst rl rx ex
    obtain ⟨m, ws, rfl, e2, r2⟩ := see_lst rl ry ey
    exact .inr (.inr (.inl ⟨l, m, vs, ws, rfl, rfl, e1, e2, by rw [r1.length, r2.length]; exact h.1, lay_lst rl (r1.append r2) p h.2⟩))
  · rename_i a b ex ey
    obtain ⟨l, vs, rfl, e1, r1⟩ := see_tup rx ex
    obtain ⟨m, ws, rfl, e2, r2⟩ := see_tup ry ey
    refine .inr (.inr (.inr ⟨l, m, vs, ws, rfl, rfl, e1.sq, e2.sq, by rw [r1.length, r2.length]; exact h.1, fun e => ?_, fun _ e => ?_, fun _ _ => lay_tup rl (r1.append r2) p h.2⟩))
    · subst e; cases r1
      exact p.now rl (.tup e2 r2) h.2
    · subst e; cases r2
      rw [List.append_nil] at h
      exact p.now rl (.tup e1 r1) h.2
  · exact h.elim
theorem de_add {a b : Expr} {pos : Pos} {ta tb : TDE} (ha : DE cA X a ta) (hb : DE cA X b tb) : DE cA X (.BinOp a .Add b pos) (dOp rdAdd ta tb) := de_op (op_add.or (op_add_str.or (op_cat.or op_catA))) im_add ha hb
def rdI (C : Int → Int → Prop) (f : Int → Int → D) : RD2 := fun x y st Q => match x, y with
  | .int i, .int j => C i j ∧ Q (f i j) st
  | _, _ => False
theorem im_I {C : Int → Int → Prop} {f : Int → Int → Int} : Im2 (gx X cA) (rI C fun i j => .int (f i j)) (rdI C fun i j => .int (f i j)) := by
  intro g st H x y dx dy Qd Q rl rx ry h p
  cases rx with
  | int i => cases ry with
    | int j => exact ⟨i, j, rfl, rfl, h.1, p.now rl (.int _) h.2⟩
    | _ => exact h.elim
  | _ => cases ry <;> exact h.elim
theorem im_I0 {f : Int → Int → Int} : Im2 (gx X cA) (rI0 fun i j => .int (f i j)) (rdI (fun _ _ => True) fun i j => .int (f i j)) := by
  intro g st H x y dx dy Qd Q rl rx ry h p
  cases rx with
  | int i => cases ry with
    | int j => exact ⟨i, j, rfl, rfl, p.now rl (.int _) h.2⟩
    | _ => exact h.elim
  | _ => cases ry <;> exact h.elim
theorem im_B0 {f : Int → Int → Bool} : Im2 (gx X cA) (rI0 fun i j => .bl (f i j)) (rdI (fun _ _ => True) fun i j => .bl (f i j)) := by
  intro g st H x y dx dy Qd Q rl rx ry h p
  cases rx with
  | int i => cases ry with
    | int j => exact ⟨i, j, rfl, rfl, p.now rl (.bl _) h.2⟩
    | _ => exact h.elim
  | _ => cases ry <;> exact h.elim
theorem de_sub {a b : Expr} {pos : Pos} {ta tb : TDE} (ha : DE cA X a ta) (hb : DE cA X b tb) : DE cA X (.BinOp a .Sub b pos) (dOp (rdI (fun _ _ => True) fun i j => .int (i - j)) ta tb) := de_op op_sub im_I0 ha hb
theorem de_fdiv {a b : Expr} {pos : Pos} {ta tb : TDE} (ha : DE cA X a ta) (hb : DE cA X b tb) : DE cA X (.BinOp a .FloorDiv b pos) (dOp (rdI CDiv fun i j => .int (i / j)) ta tb) := de_op op_fdiv im_I ha hb
theorem de_mod {a b : Expr} {pos : Pos} {ta tb : TDE} (ha : DE cA X a ta) (hb : DE cA X b tb) : DE cA X (.BinOp a .Mod b pos) (dOp (rdI (fun _ j => 0 < j) fun i j => .int (i % j)) ta tb) := de_op op_mod im_I ha hb
def rdMul : RD2 := fun x y st Q => match look st x, look st y with
  | .int i, .int j => CMul i j ∧ Q (.int (i * j)) st
  | .lst a, .int k => (-(2 ^ 63) ≤ k ∧ k < 2 ^ 63 ∧ a.length * k.toNat ≤ sizeLine) ∧ Q (.lst (List.replicate k.toNat a).flatten) st
  | _, _ => False
theorem Reps.rep {G : Gx} {g : Gh} {H : Hp} {vs : List V} {ds : List D} (r : Reps G g H vs ds) : ∀ k : Nat, Reps G g H (List.replicate k vs).flatten (List.replicate k ds).flatten
  | 0 => .nil
  | k + 1 => by simp only [List.replicate_succ, List.flatten_cons]; exact r.append (Reps.rep r k)
theorem im_mul : Im2 (gx X cA) (fun x y H Q => rI CMul (fun i j => .int (i * j)) x y H Q ∨ rRep x y H Q) rdMul := by
  intro g st H x y dx dy Qd Q rl rx ry h p
  unfold rdMul at h
  split at h
  · rename_i i j ex ey; exact .inl ⟨i, j, see_int rx ex, see_int ry ey, h.1, p.now rl (.int _) h.2⟩
  · rename_i a k ex ey
    obtain ⟨l, vs, rfl, e1, r1⟩ := see_lst rl rx ex
    exact .inr ⟨l, k, vs, rfl, see_int ry ey, e1, h.1.1, h.1.2.1, by rw [r1.length]; exact h.1.2.2, lay_lst rl (r1.rep _) p h.2⟩
  · exact h.elim
theorem de_mul {a b : Expr} {pos : Pos} {ta tb : TDE} (ha : DE cA X a ta) (hb : DE cA X b tb) : DE cA X (.BinOp a .Mult b pos) (dOp rdMul ta tb) := de_op (op_mul.or op_rep) im_mul ha hb
def rdNeg : RD1 := fun x st Q => match x with
  | .int i => Q (.int (-i)) st
  | _ => False
theorem de_neg {a : Expr} {pos : Pos} {ta : TDE} (ha : DE cA X a ta) : DE cA X (.UnaryOp .USub a pos) (dUn rdNeg ta) :=
  pe_weak (pe_un un_neg ha) (lift1 fun g st H x dx Qd Q rl rx h p => by
    cases rx with
    | int i => exact ⟨i, rfl, p.now rl (.int _) h⟩
    | _ => exact h.elim)

/-! ### comparisons -/
theorem de_lt {a b : Expr} {pos : Pos} {ta tb : TDE} (ha : DE cA X a ta) (hb : DE cA X b tb) : DE cA X (.Compare a [.Lt] [b] pos) (dOp (rdI (fun _ _ => True) fun i j => .bl (decide (i < j))) ta tb) := de_cmp op_lt im_B0 ha hb (nomark _)
theorem de_le {a b : Expr} {pos : Pos} {ta tb : TDE} (ha : DE cA X a ta) (hb : DE cA X b tb) : DE cA X (.Compare a [.LtE] [b] pos) (dOp (rdI (fun _ _ => True) fun i j => .bl (decide (i ≤ j))) ta tb) := de_cmp op_le im_B0 ha hb (nomark _)
theorem de_gt {a b : Expr} {pos : Pos} {ta tb : TDE} (ha : DE cA X a ta) (hb : DE cA X b tb) : DE cA X (.Compare a [.Gt] [b] pos) (dOp (rdI (fun _ _ => True) fun i j => .bl (decide (j < i))) ta tb) := de_cmp op_gt im_B0 ha hb (nomark _)
theorem de_ge {a b : Expr} {pos : Pos} {ta tb : TDE} (ha : DE cA X a ta) (hb : DE cA X b tb) : DE cA X (.Compare a [.GtE] [b] pos) (dOp (rdI (fun _ _ => True) fun i j => .bl (decide (j ≤ i))) ta tb) := de_cmp op_ge im_B0 ha hb (nomark _)
theorem dt_lt {a b : Expr} {pos : Pos} {ta tb : TDE} (ha : DE cA X a ta) (hb : DE cA X b tb) : DT cA X (.Compare a [.Lt] [b] pos) (dTst (dOp (rdI (fun _ _ => True) fun i j => .bl (decide (i < j))) ta tb)) := dt_cmp op_lt im_B0 ha hb (nomark _)
theorem dt_le {a b : Expr} {pos : Pos} {ta tb : TDE} (ha : DE cA X a ta) (hb : DE cA X b tb) : DT cA X (.Compare a [.LtE] [b] pos) (dTst (dOp (rdI (fun _ _ => True) fun i j => .bl (decide (i ≤ j))) ta tb)) := dt_cmp op_le im_B0 ha hb (nomark _)
theorem dt_gt {a b : Expr} {pos : Pos} {ta tb : TDE} (ha : DE cA X a ta) (hb : DE cA X b tb) : DT cA X (.Compare a [.Gt] [b] pos) (dTst (dOp (rdI (fun _ _ => True) fun i j => .bl (decide (j < i))) ta tb)) := dt_cmp op_gt im_B0 ha hb (nomark _)
theorem dt_ge {a b : Expr} {pos : Pos} {ta tb : TDE} (ha : DE cA X a ta) (hb : DE cA X b tb) : DT cA X (.Compare a [.GtE] [b] pos) (dTst (dOp (rdI (fun _ _ => True) fun i j => .bl (decide (j ≤ i))) ta tb)) := dt_cmp op_ge im_B0 ha hb (nomark _)
/-- is None -/
def rdIsN (neg : Bool) : RD2 := fun x y st Q => match x, y with
  | .non, .non => Q (.bl (!neg)) st
  | _, .non => Q (.bl neg) st
  | _, _ => False
theorem rep_non {G : Gx} {g : Gh} {H : Hp} {v : V} {d : D} (r : Rep G g H v d) : decide (v = .non) = (match d with | .non => true | _ => false) := by
  cases r <;> simp
theorem im_isN : Im2 (gx X cA) (fun x y H Q => y = .non ∧ Q (.bl (decide (x = .non))) H) (rdIsN false) := by
  intro g st H x y dx dy Qd Q rl rx ry h p
  cases ry with
  | non =>
    refine ⟨rfl, ?_⟩
    rw [rep_non rx]
    cases rx <;> exact p.now rl (.bl _) h
  | _ => cases rx <;> exact h.elim
theorem im_notN : Im2 (gx X cA) (fun x y H Q => y = .non ∧ Q (.bl (!decide (x = .non))) H) (rdIsN true) := by
  intro g st H x y dx dy Qd Q rl rx ry h p
  cases ry with
  | non =>
    refine ⟨rfl, ?_⟩
    rw [rep_non rx]
    cases rx <;> exact p.now rl (.bl _) h
  | _ => cases rx <;> exact h.elim
theorem de_isN {a b : Expr} {pos : Pos} {ta tb : TDE} (ha : DE cA X a ta) (hb : DE cA X b tb) : DE cA X (.Compare a [.Is] [b] pos) (dOp (rdIsN false) ta tb) := de_cmp op_isN im_isN ha hb (nomark _)
theorem dt_isN {a b : Expr} {pos : Pos} {ta tb : TDE} (ha : DE cA X a ta) (hb : DE cA X b tb) : DT cA X (.Compare a [.Is] [b] pos) (dTst (dOp (rdIsN false) ta tb)) := dt_cmp op_isN im_isN ha hb (nomark _)
theorem de_notN {a b : Expr} {pos : Pos} {ta tb : TDE} (ha : DE cA X a ta) (hb : DE cA X b tb) : DE cA X (.Compare a [.IsNot] [b] pos) (dOp (rdIsN true) ta tb) := de_cmp op_notN im_notN ha hb (nomark _)
theorem dt_notN {a b : Expr} {pos : Pos} {ta tb : TDE} (ha : DE cA X a ta) (hb : DE cA X b tb) : DT cA X (.Compare a [.IsNot] [b] pos) (dTst (dOp (rdIsN true) ta tb)) := dt_cmp op_notN im_notN ha hb (nomark _)

/-! ### data: trees without objects and cells -/
mutual
def D.py : D → Option PyData
  | .non => some .none
  | .bl b => some (.bool b)
  | .int i => some (.int i)
  | .str x => some (.str x)
  | .tup ds => (D.pys ds).map .tuple
  | .lst ds => (D.pys ds).map .list
  | .dct _ => none
  | .obj _ _ => none
  | .ref _ => none
  | .scr _ => none
def D.pys : List D → Option (List PyData)
  | [] => some []
  | d :: ds => match D.py d, D.pys ds with
    | some p, some ps => some (p :: ps)
    | _, _ => none
end
section
variable {G : Gx} {g : Gh} {H : Hp}
mutual
theorem rep_dp : ∀ {v : V} {d : D}, Rep G g H v d → ∀ {p : PyData}, d.py = some p → Dp G.K H v p
  | _, _, .non, p, h => by simp only [D.py] at h; cases h; exact .non
  | _, _, .bl b, p, h => by simp only [D.py] at h; cases h; exact .bl b
  | _, _, .int i, p, h => by simp only [D.py] at h; cases h; exact .int i
  | _, _, .str x, p, h => by simp only [D.py] at h; cases h; exact .str x
  | _, _, .tup e r, p, h => by
    simp only [D.py] at h
    obtain ⟨ps, h1, h2⟩ := Option.map_eq_some_iff.mp h
    cases h2
    exact .tup e.sq (reps_dp r h1)
  | _, _, .lst w e r, p, h => by
    simp only [D.py] at h
    obtain ⟨ps, h1, h2⟩ := Option.map_eq_some_iff.mp h
    cases h2
    exact .lst (.of e) (reps_dp r h1)
  | _, _, .dct _ _, p, h => by simp [D.py] at h
  | _, _, .obj _ _ _, p, h => by simp [D.py] at h
  | _, _, .ref _, p, h => by simp [D.py] at h
  | _, _, .scr _, p, h => by simp [D.py] at h
theorem reps_dp : ∀ {vs : List V} {ds : List D}, Reps G g H vs ds → ∀ {ps : List PyData}, D.pys ds = some ps → DpAll G.K H vs ps
  | _, _, .nil, ps, h => by simp only [D.pys] at h; cases h; exact .nil
  | _, _, .cons (d := d) (ds := ds) r t, ps, h => by
    simp only [D.pys] at h
    cases h1 : d.py with
    | none => simp [h1] at h
    | some q => cases h2 : D.pys ds with
      | none => simp [h1, h2] at h
      | some qs =>
        simp only [h1, h2] at h
        cases h
        exact .cons (rep_dp r h1) (reps_dp t h2)
end
/-- through a cell -/
def pyv (st : Sto) (d : D) : Option PyData := (look st d).py
theorem see_py {st : Sto} {v : V} {d : D} {p : PyData} (rl : Rel G g st H) (r : Rep G g H v d) (h : pyv st d = some p) : Dp G.K H v p := by
  unfold pyv at h
  cases e : look st d with
  | lst ds =>
    obtain ⟨a, vs, rfl, e1, rs⟩ := see_lst rl r e
    rw [e] at h
    simp only [D.py] at h
    obtain ⟨ps, h1, h2⟩ := Option.map_eq_some_iff.mp h
    cases h2
    exact .lst (.of e1) (reps_dp rs h1)
  | tup ds =>
    obtain ⟨a, vs, rfl, e1, rs⟩ := see_tup r e
    rw [e] at h
    simp only [D.py] at h
    obtain ⟨ps, h1, h2⟩ := Option.map_eq_some_iff.mp h
    cases h2
    exact .tup e1.sq (reps_dp rs h1)
  | int i => rw [e] at h; simp only [D.py] at h; cases h; rw [see_int r e]; exact .int i
  | str i => rw [e] at h; simp only [D.py] at h; cases h; rw [see_str r e]; exact .str i
  | bl i => rw [e] at h; simp only [D.py] at h; cases h; rw [see_bl r e]; exact .bl i
  | non =>
    rw [e] at h; simp only [D.py] at h; cases h
    cases r with
    | non => exact .non
    | @ref a n q =>
      unfold look at e
      cases q : st n with
      | none => simp [q] at e
      | some m => simp only [q] at e; cases m <;> cases e
    | _ => cases e
  | dct _ => rw [e] at h; simp [D.py] at h
  | obj _ _ => rw [e] at h; simp [D.py] at h
  | ref _ => rw [e] at h; simp [D.py] at h
  | scr _ => rw [e] at h; simp [D.py] at h
end
/-- == over data -/
def rdEq (neg : Bool) : RD2 := fun x y st Q => match x, y with
  | .int i, .int j => Q (.bl (decide (i = j) != neg)) st
  | .str a, .str b => Q (.bl (decide (a = b) != neg)) st
  | x, y => ∃ p q, pyv st x = some p ∧ pyv st y = some q ∧ SeqAt.shaped p = true ∧ SeqAt.shaped q = true ∧ Q (.bl (PyData.eqv p q != neg)) st
theorem im_eq : Im2 (gx X cA) (fun x y H Q => rEq x y H Q ∨ rEqD X.K x y H Q) (rdEq false) := by
  intro g st H x y dx dy Qd Q rl rx ry h p
  unfold rdEq at h
  split at h
  · cases rx; cases ry
    refine .inl ⟨rfl, ?_⟩
    have := p.now rl (.bl _) h
    simpa using this
  · cases rx; cases ry
    refine .inl ⟨rfl, ?_⟩
    have := p.now rl (.bl _) h
    simpa using this
  · obtain ⟨a, b, h1, h2, h3, h4, h5⟩ := h
    refine .inr ⟨a, b, see_py rl rx h1, see_py rl ry h2, h3, h4, ?_⟩
    have := p.now rl (.bl _) h5
    simpa using this
theorem im_ne : Im2 (gx X cA) (fun x y H Q => rNe x y H Q ∨ rNeD X.K x y H Q) (rdEq true) := by
  intro g st H x y dx dy Qd Q rl rx ry h p
  unfold rdEq at h
  split at h
  · cases rx; cases ry
    refine .inl ⟨rfl, ?_⟩
    have := p.now rl (.bl _) h
    simpa using this
  · cases rx; cases ry
    refine .inl ⟨rfl, ?_⟩
    have := p.now rl (.bl _) h
    simpa using this
  · obtain ⟨a, b, h1, h2, h3, h4, h5⟩ := h
    refine .inr ⟨a, b, see_py rl rx h1, see_py rl ry h2, h3, h4, ?_⟩
    have := p.now rl (.bl _) h5
    simpa using this
theorem de_eq {a b : Expr} {pos : Pos} {ta tb : TDE} (hu : X.A.units + 64 < cLine) (ha : DE cA X a ta) (hb : DE cA X b tb) : DE cA X (.Compare a [.Eq] [b] pos) (dOp (rdEq false) ta tb) := de_cmp (op_eq.or (op_eqD hu)) im_eq ha hb (nomark _)
theorem dt_eq {a b : Expr} {pos : Pos} {ta tb : TDE} (hu : X.A.units + 64 < cLine) (ha : DE cA X a ta) (hb : DE cA X b tb) : DT cA X (.Compare a [.Eq] [b] pos) (dTst (dOp (rdEq false) ta tb)) := dt_cmp (op_eq.or (op_eqD hu)) im_eq ha hb (nomark _)
theorem de_ne {a b : Expr} {pos : Pos} {ta tb : TDE} (hu : X.A.units + 64 < cLine) (ha : DE cA X a ta) (hb : DE cA X b tb) : DE cA X (.Compare a [.NotEq] [b] pos) (dOp (rdEq true) ta tb) := de_cmp (op_ne.or (op_neD hu)) im_ne ha hb (nomark _)
theorem dt_ne {a b : Expr} {pos : Pos} {ta tb : TDE} (hu : X.A.units + 64 < cLine) (ha : DE cA X a ta) (hb : DE cA X b tb) : DT cA X (.Compare a [.NotEq] [b] pos) (dTst (dOp (rdEq true) ta tb)) := dt_cmp (op_ne.or (op_neD hu)) im_ne ha hb (nomark _)
/-- in, not in: one sign in a text; data in a list, in a tuple -/
def rInT (K : PySem.W.Frag) (neg : Bool) : R2 := fun x y H Q => ∃ d ds, Dp K H x d ∧ Dp K H y (.tuple ds) ∧ SeqAt.shaped d = true ∧ SeqAt.shaped (.tuple ds) = true ∧ Q (.bl ((ds.any fun z => PyData.eqv z d) != neg)) H
theorem op_inT (hu : X.A.units + 65 < cLine) : OpR X (compareOp .In) (rInT X.K false) := by
  intro pins s σ H x y v u Q I rx ry h
  obtain ⟨d, ds, hd, he, sd, se, q⟩ := h
  obtain ⟨as, r1⟩ := Dp.reads I d x v hd rx
  obtain ⟨bs, r2⟩ := Dp.reads I (.tuple ds) y u he ry
  exact SeqAt.in_tuple_reads r2 r1 (SeqAt.canLay_of_shaped se) (SeqAt.canLay_of_shaped sd) (room_in_shaped sd hu) ⟨.bl _, H, I, rfl, by simpa using q⟩
theorem op_notInT (hu : X.A.units + 65 < cLine) : OpR X (compareOp .NotIn) (rInT X.K true) := by
  intro pins s σ H x y v u Q I rx ry h
  obtain ⟨d, ds, hd, he, sd, se, q⟩ := h
  obtain ⟨as, r1⟩ := Dp.reads I d x v hd rx
  obtain ⟨bs, r2⟩ := Dp.reads I (.tuple ds) y u he ry
  exact SeqAt.notIn_tuple_reads r2 r1 (SeqAt.canLay_of_shaped se) (SeqAt.canLay_of_shaped sd) (room_in_shaped sd hu) ⟨.bl _, H, I, rfl, by simpa using q⟩
def rdIn (neg : Bool) : RD2 := fun x y st Q => match x, y with
  | .str a, .str z => ∃ c, a = ⟨#[c]⟩ ∧ Q (.bl (decide (c ∈ z.cps.toList) != neg)) st
  | x, y => ∃ p q, pyv st x = some p ∧ pyv st y = some q ∧ SeqAt.shaped p = true ∧ SeqAt.shaped q = true ∧ ((∃ ds, q = .list ds ∧ Q (.bl ((ds.any fun z => PyData.eqv z p) != neg)) st) ∨ ∃ ds, q = .tuple ds ∧ Q (.bl ((ds.any fun z => PyData.eqv z p) != neg)) st)
theorem im_in : Im2 (gx X cA) (fun x y H Q => (∃ (c : Nat) (z : Str), x = .str ⟨#[c]⟩ ∧ y = .str z ∧ Q (.bl (decide (c ∈ z.cps.toList))) H) ∨ rInD X.K x y H Q ∨ rInT X.K false x y H Q) (rdIn false) := by
  intro g st H x y dx dy Qd Q rl rx ry h p
  unfold rdIn at h
  split at h
  · cases rx; cases ry
    obtain ⟨c, rfl, h⟩ := h
    refine .inl ⟨c, _, rfl, rfl, ?_⟩
    have := p.now rl (.bl _) h
    simpa using this
  · obtain ⟨a, b, h1, h2, h3, h4, h5⟩ := h
    rcases h5 with ⟨ds, rfl, h5⟩ | ⟨ds, rfl, h5⟩
    · refine .inr (.inl ⟨a, ds, see_py rl rx h1, see_py rl ry h2, h3, h4, ?_⟩)
      have := p.now rl (.bl _) h5
      simpa using this
    · exact .inr (.inr ⟨a, ds, see_py rl rx h1, see_py rl ry h2, h3, h4, p.now rl (.bl _) h5⟩)
theorem im_notIn : Im2 (gx X cA) (fun x y H Q => (∃ (c : Nat) (z : Str), x = .str ⟨#[c]⟩ ∧ y = .str z ∧ Q (.bl (!decide (c ∈ z.cps.toList))) H) ∨ rNotInD X.K x y H Q ∨ rInT X.K true x y H Q) (rdIn true) := by
  intro g st H x y dx dy Qd Q rl rx ry h p
  unfold rdIn at h
  split at h
  · cases rx; cases ry
    obtain ⟨c, rfl, h⟩ := h
    refine .inl ⟨c, _, rfl, rfl, ?_⟩
    have := p.now rl (.bl _) h
    simpa using this
  · obtain ⟨a, b, h1, h2, h3, h4, h5⟩ := h
    rcases h5 with ⟨ds, rfl, h5⟩ | ⟨ds, rfl, h5⟩
    · refine .inr (.inl ⟨a, ds, see_py rl rx h1, see_py rl ry h2, h3, h4, ?_⟩)
      have := p.now rl (.bl _) h5
      simpa using this
    · exact .inr (.inr ⟨a, ds, see_py rl rx h1, see_py rl ry h2, h3, h4, p.now rl (.bl _) h5⟩)
theorem de_in {a b : Expr} {pos : Pos} {ta tb : TDE} (hu : X.A.units + 65 < cLine) (ha : DE cA X a ta) (hb : DE cA X b tb) (hm : behindInMarks .In b = false := by rfl) : DE cA X (.Compare a [.In] [b] pos) (dOp (rdIn false) ta tb) := de_cmp (op_in_sign.or ((op_inD hu).or (op_inT hu))) im_in ha hb hm
theorem dt_in {a b : Expr} {pos : Pos} {ta tb : TDE} (hu : X.A.units + 65 < cLine) (ha : DE cA X a ta) (hb : DE cA X b tb) (hm : behindInMarks .In b = false := by rfl) : DT cA X (.Compare a [.In] [b] pos) (dTst (dOp (rdIn false) ta tb)) := dt_cmp (op_in_sign.or ((op_inD hu).or (op_inT hu))) im_in ha hb hm
theorem de_notIn {a b : Expr} {pos : Pos} {ta tb : TDE} (hu : X.A.units + 65 < cLine) (ha : DE cA X a ta) (hb : DE cA X b tb) (hm : behindInMarks .NotIn b = false := by rfl) : DE cA X (.Compare a [.NotIn] [b] pos) (dOp (rdIn true) ta tb) := de_cmp (op_notIn_sign.or ((op_notInD hu).or (op_notInT hu))) im_notIn ha hb hm
theorem dt_notIn {a b : Expr} {pos : Pos} {ta tb : TDE} (hu : X.A.units + 65 < cLine) (ha : DE cA X a ta) (hb : DE cA X b tb) (hm : behindInMarks .NotIn b = false := by rfl) : DT cA X (.Compare a [.NotIn] [b] pos) (dTst (dOp (rdIn true) ta tb)) := dt_cmp (op_notIn_sign.or ((op_notInD hu).or (op_notInT hu))) im_notIn ha hb hm
end
end TL
namespace TL
open PySem PySem.Spec PyProof.Rows L2
/-! ### dicts over trees -/
def getK (kd : List (Key × D)) (k : Key) : Option D := (kd.find? fun p => decide (p.1 = k)).map (·.2)
def setK (kd : List (Key × D)) (k : Key) (d : D) : List (Key × D) :=
  if (kd.any fun p => decide (p.1 = k)) = true then kd.map (fun p => if p.1 = k then (p.1, d) else p) else kd ++ [(k, d)]
def keyOf : D → Option Key
  | .int i => some (.inl i)
  | .str x => some (.inr x)
  | _ => none
section
variable {G : Gx} {g : Gh} {H : Hp}
theorem repK_get : ∀ {kv : List (Key × V)} {kd : List (Key × D)}, RepK G g H kv kd → ∀ (k : Key), (∀ d, getK kd k = some d → ∃ v, valV kv k = some v ∧ Rep G g H v d) ∧ (getK kd k = none → valV kv k = none)
  | _, _, .nil, k => ⟨fun d h => by simp [getK] at h, fun _ => rfl⟩
  | _, _, .cons (k := k') (d := d') r t, k => by
    by_cases e : k' = k
    · refine ⟨fun d h => ?_, fun h => ?_⟩
      · simp [getK, List.find?_cons, e] at h
        subst h
        exact ⟨_, valV_pos e, r⟩
      · simp [getK, List.find?_cons, e] at h
    · obtain ⟨h1, h2⟩ := repK_get t k
      refine ⟨fun d h => ?_, fun h => ?_⟩
      · rw [valV_neg (by exact e)]
        exact h1 d (by simpa [getK, List.find?_cons, e] using h)
      · rw [valV_neg (by exact e)]
        exact h2 (by simpa [getK, List.find?_cons, e] using h)
theorem repK_any : ∀ {kv : List (Key × V)} {kd : List (Key × D)}, RepK G g H kv kd → ∀ (k : Key), (kv.any fun p => decide (p.1 = k)) = kd.any fun p => decide (p.1 = k)
  | _, _, .nil, _ => rfl
  | _, _, .cons r t, k => by simp [repK_any t k]
theorem repK_map {v : V} {d : D} {k : Key} (rv : Rep G g H v d) : ∀ {kv : List (Key × V)} {kd : List (Key × D)}, RepK G g H kv kd → RepK G g H (kv.map fun p => if p.1 = k then (p.1, v) else p) (kd.map fun p => if p.1 = k then (p.1, d) else p)
  | _, _, .nil => .nil
  | _, _, .cons (k := k') r t => by
    by_cases e : k' = k
    · simp only [List.map_cons, e, if_true]; exact .cons rv (repK_map rv t)
    · simp only [List.map_cons, e, if_false]; exact .cons r (repK_map rv t)
theorem repK_app : ∀ {kv kv' : List (Key × V)} {kd kd' : List (Key × D)}, RepK G g H kv kd → RepK G g H kv' kd' → RepK G g H (kv ++ kv') (kd ++ kd')
  | _, _, _, _, .nil, s => s
  | _, _, _, _, .cons r t, s => .cons r (repK_app t s)
theorem repK_put {kv : List (Key × V)} {kd : List (Key × D)} (t : RepK G g H kv kd) (k : Key) {v : V} {d : D} (r : Rep G g H v d) : RepK G g H (putK kv k v) (setK kd k d) := by
  unfold putK setK
  rw [repK_any t k]
  by_cases e : (kd.any fun p => decide (p.1 = k)) = true
  · rw [if_pos e, if_pos e]; exact repK_map r t
  · rw [if_neg e, if_neg e]; exact repK_app t (.cons r .nil)
theorem RepK.length : ∀ {kv : List (Key × V)} {kd : List (Key × D)}, RepK G g H kv kd → kv.length = kd.length
  | _, _, .nil => rfl
  | _, _, .cons _ t => by simp [RepK.length t]
theorem key_rep {v : V} {d : D} {k : Key} (r : Rep G g H v d) (h : keyOf d = some k) : v = kV k := by
  cases r with
  | int i => cases h; rfl
  | str i => cases h; rfl
  | _ => cases h
end
section
variable {X : Cx} {cA : Nat → Addr}
/-! ### a[i] -/
def rIxD : R2 := fun x y H Q => ∃ a v, x = .ref a ∧ DGet H a y (some v) ∧ Q v H
theorem ix_dict (hu : X.A.units + 1 < cLine) : IxR X rIxD := by
  intro value slice pins s σ H x y v u Q I rx ry h hs
  obtain ⟨a, w, rfl, hd, q⟩ := h
  cases rx
  exact tail_any (dict_typeIs I hd) PySem.F.slot_dict_getitem.lookup (d_getItem hu I hd ry fun w' s3 I3 rw' => ⟨w, H, I3, rw', q⟩) hs
def rdIx : RD2 := fun x y st Q => match look st x, y with
  | .lst ds, .int i => ∃ d, atI ds i = some d ∧ Q d st
  | .tup ds, .int i => ∃ d, atI ds i = some d ∧ Q d st
  | .str z, .int i => z.length ≤ sizeLine ∧ ∃ c, atI z.cps.toList i = some c ∧ Q (.str ⟨#[c]⟩) st
  | .dct kd, k => ∃ key d, keyOf k = some key ∧ getK kd key = some d ∧ Q d st
  | _, _ => False
theorem Reps.atI {G : Gx} {g : Gh} {H : Hp} {vs : List V} {ds : List D} {i : Int} {d : D} (r : Reps G g H vs ds) (h : L2.atI ds i = some d) : ∃ v, L2.atI vs i = some v ∧ Rep G g H v d := by
  unfold L2.atI at h ⊢
  rw [r.length]
  cases e : ixN ds.length i with
  | none => rw [e] at h; cases h
  | some j =>
    rw [e] at h
    exact r.get h
theorem im_ix : Im2 (gx X cA) (fun x y H Q => rIx X.K x y H Q ∨ rIxD x y H Q) rdIx := by
  intro g st H x y dx dy Qd Q rl rx ry h p
  unfold rdIx at h
  split at h
  · rename_i ds i ex
    obtain ⟨a, vs, rfl, e1, rs⟩ := see_lst rl rx ex
    cases ry
    obtain ⟨d, h1, h2⟩ := h
    obtain ⟨v, h3, rv⟩ := rs.atI h1
    exact .inl (.inl ⟨a, vs, i, v, rfl, rfl, .of e1, h3, p.now rl rv h2⟩)
  · rename_i ds i ex
    obtain ⟨a, vs, rfl, e1, rs⟩ := see_tup rx ex
    cases ry
    obtain ⟨d, h1, h2⟩ := h
    obtain ⟨v, h3, rv⟩ := rs.atI h1
    exact .inl (.inr (.inl ⟨a, vs, i, v, rfl, rfl, e1.sq, h3, p.now rl rv h2⟩))
  · rename_i z i ex
    cases see_str rx ex
    cases ry
    obtain ⟨hz, c, h1, h2⟩ := h
    exact .inl (.inr (.inr ⟨z, i, c, rfl, rfl, hz, h1, p.now rl (.str _) h2⟩))
  · rename_i kd ex
    obtain ⟨a, kv, rfl, e1, rs⟩ := see_dct rl rx ex
    obtain ⟨key, d, h1, h2, h3⟩ := h
    obtain ⟨v, h4, rv⟩ := (repK_get rs key).1 d h2
    cases key_rep ry h1
    exact .inr ⟨a, v, rfl, .inl ⟨kv, key, e1, rfl, h4.symm⟩, p.now rl rv h3⟩
  · exact h.elim
theorem de_ix {a b : Expr} {pos : Pos} {ta tb : TDE} (hu : X.A.units + 1 < cLine) (ha : DE cA X a ta) (hb : DE cA X b tb) (hs : PlainIx b := by exact fun _ _ => rfl) : DE cA X (.Subscript a b pos) (dOp rdIx ta tb) :=
  pe_weak (pe_ix (ix_seq.or (ix_dict hu)) ha hb hs) (lift2 im_ix)

/-! ### slices -/
abbrev TDO := DSt → Sto → (Option Int → Sto → Prop) → Prop
def liftO (G : Gx) (t : TDO) : TO := fun σ H Q => ∃ g st env Qd, Rel G g st H ∧ EnvR G g H σ env ∧ t env st Qd ∧ ∀ o st' g' H', Step g st H g' st' H' → Rel G g' st' H' → Qd o st' → Q o H'
def DO (cA : Nat → Addr) (X : Cx) (e : Option Expr) (t : TDO) : Prop := PO X e (liftO (gx X cA) t)
def dNoPart : TDO := fun _ st Q => Q none st
def dPart (t : TDE) : TDO := fun env st Q => t env st fun d st1 => match d with
  | .int i => Q (some i) st1
  | _ => False
theorem do_none : DO cA X none dNoPart := ⟨fun pins s σ H Q I ⟨g, st, env, Qd, rl, en, h, p⟩ => po_none.run pins s σ H Q I (p _ _ _ _ (Step.refl g st H) rl h)⟩
theorem do_some {e : Expr} {t : TDE} (h : DE cA X e t) : DO cA X (some e) (dPart t) := ⟨fun pins s σ H Q I ⟨g, st, env, Qd, rl, en, hh, p⟩ => (po_some h).run pins s σ H Q I ⟨g, st, env, _, rl, en, hh, fun d st1 g1 H1 v s1 rl1 r1 h1 => by
  cases r1 with
  | int i => exact ⟨i, rfl, p _ _ _ _ s1 rl1 h1⟩
  | _ => exact h1.elim⟩⟩
def cutD {α : Type} (xs : List α) (lo hi : Option Int) : List α := (xs.drop (HT.sIx xs.length 0 lo)).take (HT.sIx xs.length xs.length hi - HT.sIx xs.length 0 lo)
def rdSl (x : D) (lo hi : Option Int) (st : Sto) (Q : QD) : Prop := match look st x with
  | .lst ds => Q (.lst (cutD ds lo hi)) st
  | .scr ns => Q (.lst (cutD (ns.map D.int) lo hi)) st
  | .tup ds => Q (.tup (cutD ds lo hi)) st
  | .str z => z.length ≤ sizeLine ∧ Q (.str (cutS z lo hi)) st
  | _ => False
def dSl (te : TDE) (tl th : TDO) : TDE := fun env st Q => te env st fun x st1 => tl env st1 fun lo st2 => th env st2 fun hi st3 => rdSl x lo hi st3 Q
theorem Reps.cut {G : Gx} {g : Gh} {H : Hp} {vs : List V} {ds : List D} (r : Reps G g H vs ds) (lo hi : Option Int) : Reps G g H (cutV vs lo hi) (cutD ds lo hi) := by
  unfold cutV cutD
  rw [r.length]
  exact (r.drop _).take _
theorem cutD_whole {α : Type} {xs : List α} {lo hi : Option Int} (h : HT.sIx xs.length 0 lo = 0 ∧ HT.sIx xs.length xs.length hi = xs.length) : cutD xs lo hi = xs := by
  unfold cutD
  rw [h.1, h.2]
  simp
theorem de_slice {e : Expr} {lo hi : Option Expr} {pos p2 : Pos} {te : TDE} {tl th : TDO} (he : DE cA X e te) (hl : DO cA X lo tl) (hh : DO cA X hi th) : DE cA X (.Subscript e (.Slice lo hi none p2) pos) (dSl te tl th) :=
  pe_weak (pe_slice (sl_list.or (sl_tupA.or sl_str)) he hl hh) fun σ H Q ⟨g, st, env, Qd, rl, en, h, p⟩ => ⟨g, st, env, _, rl, en, h, fun d st1 g1 H1 v s1 rl1 r1 h1 =>
    ⟨g1, st1, env, _, rl1, en.mono s1, h1, fun o1 st2 g2 H2 s2 rl2 h2 => ⟨g2, st2, env, _, rl2, (en.mono s1).mono s2, h2, fun o2 st3 g3 H3 s3 rl3 h3 => by
      have rv := (r1.mono s2).mono s3
      have pp := p.step ((s1.trans s2).trans s3)
      unfold rdSl at h3
      split at h3
      · rename_i ds ex
        obtain ⟨a, vs, rfl, e1, rs⟩ := see_lst rl3 rv ex
        exact .inl ⟨a, vs, rfl, .of e1, lay_lst rl3 (rs.cut o1 o2) pp h3⟩
      · rename_i ns ex
        obtain ⟨a, rfl, e1⟩ := see_scr rv ex
        exact .inl ⟨a, _, rfl, e1.sq, lay_lst rl3 ((reps_ints ns).cut o1 o2) pp h3⟩
      · rename_i ds ex
        obtain ⟨a, vs, rfl, e1, rs⟩ := see_tup rv ex
        refine .inr (.inl ⟨a, vs, rfl, e1.sq, fun hw => ?_, fun _ => lay_tup rl3 (rs.cut o1 o2) pp h3⟩)
        have : cutD ds o1 o2 = ds := cutD_whole (by rw [← rs.length]; exact hw)
        rw [this] at h3
        exact pp.now rl3 (.tup e1 rs) h3
      · rename_i z ex
        cases see_str rv ex
        exact .inr (.inr ⟨z, rfl, h3.1, pp.now rl3 (.str _) h3.2⟩)
      · exact h3.elim⟩⟩⟩
/-- xs[::-1] -/
def rdRev : RD1 := fun x st Q => match look st x with
  | .lst ds => Q (.lst ds.reverse) st
  | _ => False
theorem de_rev {e : Expr} {te : TDE} {k : Nat} {p1 p2 p3 pos : Pos} (he : DE cA X e te) : DE cA X (.Subscript e (.Slice none none (some (.UnaryOp .USub (.Constant (.int 1) k p1) p2)) p3) pos) (dUn rdRev te) :=
  pe_weak (pe_revL he) fun σ H Q ⟨g, st, env, Qd, rl, en, h, p⟩ => ⟨g, st, env, _, rl, en, h, fun d st1 g1 H1 v s1 rl1 r1 h1 => by
    unfold rdRev at h1
    split at h1
    · rename_i ds ex
      obtain ⟨a, vs, rfl, e1, rs⟩ := see_lst rl1 r1 ex
      exact ⟨a, vs, rfl, .of e1, lay_lst rl1 rs.reverse (p.step s1) h1⟩
    · exact h1.elim⟩
/-- a, b, c = x, y, z -/
def dPar3 (i j l : Nat) (ta : TDA) : TDS := fun D env st => ta env st fun ds st1 => match ds with
  | [u, v, w] => D.nx (((env.set i (some u)).set j (some v)).set l (some w)) st1
  | _ => False
theorem ds_par3 {i j l : Nat} {x y z : Str} {a b c : Expr} {ta : TDA} {px py pz pt pos : Pos} {kt k2 pt2} (hc : X.calm = true) (hN : X.N.Nodup) (hi : X.N[i]? = some x) (hj : X.N[j]? = some y) (hl : X.N[l]? = some z) (hij : i ≠ j) (hil : i ≠ l) (hjl : j ≠ l)
    (hx : X.env.scope.names.lookup x = some .local) (hy : X.env.scope.names.lookup y = some .local) (hz : X.env.scope.names.lookup z = some .local) (ha : DA cA X [a, b, c] ta)
    (hw : swappedStores [.Tuple [.Name x px, .Name y py, .Name z pz] kt pt] (.Tuple [a, b, c] k2 pt2) X.env = pure (some [x, y, z]))
    (hs : swapsWithSole [.Tuple [.Name x px, .Name y py, .Name z pz] kt pt] (.Tuple [a, b, c] k2 pt2) pos.line X.env = pure false := by rfl) :
    DS cA X (.Assign [.Tuple [.Name x px, .Name y py, .Name z pz] kt pt] (.Tuple [a, b, c] k2 pt2) pos) (dPar3 i j l ta) :=
  ps_weak (ps_par3 hc hN hi hj hl hij hil hjl hx hy hz ha hw hs) fun σ H Q ⟨g, st, env, Dd, rl, en, h, p⟩ => ⟨g, st, env, _, rl, en, h, fun ds st1 g1 H1 vs s1 rl1 r1 h1 => by
    cases r1 with
    | nil => exact h1.elim
    | cons ra rt => cases rt with
      | nil => exact h1.elim
      | cons rb rt => cases rt with
        | nil => exact h1.elim
        | cons rc rt => cases rt with
          | nil => exact ⟨_, _, _, rfl, p.nx _ _ _ _ _ s1 rl1 ((((en.mono s1).set ra i).set rb j).set rc l) h1⟩
          | cons _ _ => exact h1.elim⟩

/-! ### built-in functions and types, by values -/
def dCB (rd : List D → Sto → QD → Prop) (t : TDA) : TDE := fun env st Q => t env st fun ds st1 => rd ds st1 Q
theorem lift_cb {r : List V → Hp → VK → Prop} {rd : List D → Sto → QD → Prop} {t : TDA} (im : ImA (gx X cA) r rd) : ∀ σ H Q, liftE (gx X cA) (dCB rd t) σ H Q → tCB r (liftA (gx X cA) t) σ H Q := fun σ H Q ⟨g, st, env, Qd, rl, en, h, p⟩ =>
  ⟨g, st, env, _, rl, en, h, fun ds st1 g1 H1 vs s1 rl1 r1 h1 => im g1 st1 H1 vs ds Qd Q rl1 r1 h1 (p.step s1)⟩
theorem de_callB {x : Str} {p pos : Pos} {e : Expr} {es : List Expr} {t : TDA} {id : String} {r : List V → Hp → VK → Prop} {rd : List D → Sto → QD → Prop} (hc : CallR X (.builtin id) r) (im : ImA (gx X cA) r rd) (hg : Gl X x) (hm : X.mg x = none) (hv : bootBuiltins x = some (.builtin id)) (ha : DA cA X (e :: es) t)
    (hn : x ≠ "__name__" := by decide) (hdb : (x == ("__debug__" : Str)) = false := by decide) (he : starEach (e :: es) X.env = (false, eval e X.env) :: starEach es X.env := by rfl) (hpl : (backTo pos (starEach es X.env)).any (·.1) = false := by rfl) : DE cA X (.Call (.Name x p) (e :: es) [] pos) (dCB rd t) :=
  pe_weak (pe_callB hc hg hm hv ha hn hdb he hpl) (lift_cb im)
theorem de_callTy {x : Str} {p pos : Pos} {e : Expr} {es : List Expr} {t : TDA} {T : String} {r : List V → Hp → VK → Prop} {rd : List D → Sto → QD → Prop} (hc : CallR X (.type T) r) (im : ImA (gx X cA) r rd) (hg : Gl X x) (hm : X.mg x = none) (hv : bootBuiltins x = some (.type T)) (ha : DA cA X (e :: es) t)
    (hn : x ≠ "__name__" := by decide) (hdb : (x == ("__debug__" : Str)) = false := by decide) (he : starEach (e :: es) X.env = (false, eval e X.env) :: starEach es X.env := by rfl) (hpl : (backTo pos (starEach es X.env)).any (·.1) = false := by rfl) : DE cA X (.Call (.Name x p) (e :: es) [] pos) (dCB rd t) :=
  pe_weak (pe_callTy hc hg hm hv ha hn hdb he hpl) (lift_cb im)
theorem reps1 {G : Gx} {g : Gh} {H : Hp} {vs : List V} {d : D} (r : Reps G g H vs [d]) : ∃ v, vs = [v] ∧ Rep G g H v d := by
  cases r with
  | cons r t => cases t; exact ⟨_, rfl, r⟩
theorem reps2 {G : Gx} {g : Gh} {H : Hp} {vs : List V} {d e : D} (r : Reps G g H vs [d, e]) : ∃ v w, vs = [v, w] ∧ Rep G g H v d ∧ Rep G g H w e := by
  cases r with
  | cons r t => cases t with
    | cons r2 t => cases t; exact ⟨_, _, rfl, r, r2⟩
/-- len -/
def rdLen (ds : List D) (st : Sto) (Q : QD) : Prop := match ds with
  | [d] => match look st d with
    | .lst xs => Q (.int xs.length) st
    | .tup xs => Q (.int xs.length) st
    | .str z => z.length ≤ sizeLine ∧ Q (.int z.length) st
    | _ => False
  | _ => False
theorem im_len : ImA (gx X cA) (fun xs H Q => (∃ p ys, xs = [.ref p] ∧ (SqL X.K H p ys ∨ SqT X.K H p ys) ∧ Q (.int ys.length) H) ∨ ∃ z, xs = [.str z] ∧ z.length ≤ sizeLine ∧ Q (.int z.length) H) rdLen := by
  intro g st H xs ds Qd Q rl rs h p
  unfold rdLen at h
  split at h
  · obtain ⟨v, rfl, r⟩ := reps1 rs
    split at h
    · rename_i ex
      obtain ⟨a, vs, rfl, e1, r1⟩ := see_lst rl r ex
      rw [← r1.length] at h
      exact .inl ⟨a, vs, rfl, .inl (.of e1), p.now rl (.int _) h⟩
    · rename_i ex
      obtain ⟨a, vs, rfl, e1, r1⟩ := see_tup r ex
      rw [← r1.length] at h
      exact .inl ⟨a, vs, rfl, .inr e1.sq, p.now rl (.int _) h⟩
    · rename_i z ex
      cases see_str r ex
      exact .inr ⟨z, rfl, h.1, p.now rl (.int _) h.2⟩
    · exact h.elim
  · exact h.elim
theorem de_len {p pos : Pos} {e : Expr} {te : TDE} (hg : Gl X "len") (hm : X.mg "len" = none) (ha : DE cA X e te) (hs : starEach [e] X.env = (false, eval e X.env) :: starEach [] X.env := by rfl) : DE cA X (.Call (.Name "len" p) [e] [] pos) (dCB rdLen (dCons te dNil)) :=
  de_callB (call_len_seq.or call_len_str) im_len hg hm PySem.boot_len (da_cons ha da_nil hs) (he := hs) (hpl := rfl)
end
end TL
namespace TL
open PySem PySem.Spec PyProof.Rows L2
section
variable {X : Cx} {cA : Nat → Addr}
/-! ### list(..), tuple(..) -/
theorem call_list_signs (hc : X.calm = true) : CallR X (.type "list") (fun xs H Q => ∃ z, xs = [.str z] ∧ z.length ≤ sizeLine ∧ ∀ l, H l = none → Q (.ref l) (upd H l (.lst (signs z)))) := by
  intro pins s σ H xs us Q I r h
  obtain ⟨z, rfl, hz, q⟩ := h
  obtain ⟨u, rfl, t, rfl⟩ := vals1 r
  refine call_list_str (I.ok.hd hc) z t (fun h' tk acc c hk hS hi => ?_) (by simpa [Str.length] using hz)
  have hv : Vals (signs z) acc.toList := by
    obtain ⟨h1, h2⟩ := hi
    have gen : ∀ (xs : List V) (us : List Value), xs.length = us.length → (∀ (j : Nat) u, us[j]? = some u → ∃ x, xs[j]? = some x ∧ RelV x u) → Vals xs us := by
      intro xs
      induction xs with
      | nil => intro us hl _; cases us with
        | nil => exact .nil
        | cons _ _ => simp at hl
      | cons x xs ih => intro us hl hj; cases us with
        | nil => simp at hl
        | cons u us =>
          obtain ⟨x', e, ru⟩ := hj 0 u rfl
          cases e
          exact .cons ru (ih us (by simpa using hl) fun j w hw => by simpa using hj (j + 1) w (by simpa using hw))
    refine gen _ _ (by rw [signs_len]; simp [h1]) fun j u hu => ?_
    obtain ⟨c, k, hc2, rfl⟩ := h2 j u (by simpa using hu)
    exact ⟨_, signs_get hc2, _, rfl⟩
  refine ⟨.ref s.heap.objs.size, _, I.laid (o := .lst (signs z)) (t' := tk) hk (Nat.le_refl _) ⟨by rw [signs_len]; simpa [Str.length] using hz, acc.toList, c, hv, by simpa using hS⟩, rfl, q _ (I.hok.fresh (Nat.le_refl _))⟩
def seqOf (st : Sto) (d : D) : Option (List D) := match look st d with
  | .lst ds => some ds
  | .tup ds => some ds
  | .str z => if z.length ≤ sizeLine then some (signsD z) else none
  | _ => none
def rdList (ds : List D) (st : Sto) (Q : QD) : Prop := match ds with
  | [d] => match seqOf st d with
    | some xs => Q (.lst xs) st
    | none => False
  | _ => False
def rdListM (ds : List D) (st : Sto) (Q : QD) : Prop := match ds with
  | [d] => match seqOf st d with
    | some xs => ∀ n, st n = none → Q (.ref n) (sup st n (.lst xs))
    | none => False
  | _ => False
abbrev rList (K : PySem.W.Frag) : List V → Hp → VK → Prop := fun xs H Q => (∃ p ys, xs = [.ref p] ∧ (SqL K H p ys ∨ SqT K H p ys) ∧ ∀ l, H l = none → Q (.ref l) (upd H l (.lst ys))) ∨ ∃ z, xs = [.str z] ∧ z.length ≤ sizeLine ∧ ∀ l, H l = none → Q (.ref l) (upd H l (.lst (signs z)))
theorem im_seq {G : Gx} {g : Gh} {st : Sto} {H : Hp} {v : V} {d : D} {xs : List D} {Q : VK} (rl : Rel G g st H) (r : Rep G g H v d) (h : seqOf st d = some xs) (q : ∀ vs, Reps G g H vs xs → ∀ l, H l = none → Q (.ref l) (upd H l (.lst vs))) : rList G.K [v] H Q := by
  unfold seqOf at h
  split at h
  · rename_i ex
    cases h
    obtain ⟨a, vs, rfl, e1, r1⟩ := see_lst rl r ex
    exact .inl ⟨a, vs, rfl, .inl (.of e1), q vs r1⟩
  · rename_i ex
    cases h
    obtain ⟨a, vs, rfl, e1, r1⟩ := see_tup r ex
    exact .inl ⟨a, vs, rfl, .inr e1.sq, q vs r1⟩
  · rename_i z ex
    cases see_str r ex
    split at h
    · cases h
      rename_i hz
      exact .inr ⟨z, rfl, hz, q _ (reps_signs z)⟩
    · cases h
  · cases h
theorem im_list : ImA (gx X cA) (rList X.K) rdList := by
  intro g st H xs ds Qd Q rl rs h p
  unfold rdList at h
  split at h
  · obtain ⟨v, rfl, r⟩ := reps1 rs
    split at h
    · rename_i e; exact im_seq rl r e fun vs r1 => lay_lst rl r1 p h
    · exact h.elim
  · exact h.elim
theorem im_listM : ImA (gx X cA) (rList X.K) rdListM := by
  intro g st H xs ds Qd Q rl rs h p
  unfold rdListM at h
  split at h
  · obtain ⟨v, rfl, r⟩ := reps1 rs
    split at h
    · rename_i e; exact im_seq rl r e fun vs r1 => lay_cell rl r1 p h
    · exact h.elim
  · exact h.elim
theorem de_list {p pos : Pos} {e : Expr} {te : TDE} (hc : X.calm = true) (hg : Gl X "list") (hm : X.mg "list" = none) (ha : DE cA X e te) (hs : starEach [e] X.env = (false, eval e X.env) :: starEach [] X.env := by rfl) : DE cA X (.Call (.Name "list" p) [e] [] pos) (dCB rdList (dCons te dNil)) :=
  de_callTy (call_list_of.or (call_list_signs hc)) im_list hg hm (by decide +kernel) (da_cons ha da_nil hs) (he := hs) (hpl := rfl)
theorem de_listM {p pos : Pos} {e : Expr} {te : TDE} (hc : X.calm = true) (hg : Gl X "list") (hm : X.mg "list" = none) (ha : DE cA X e te) (hs : starEach [e] X.env = (false, eval e X.env) :: starEach [] X.env := by rfl) : DE cA X (.Call (.Name "list" p) [e] [] pos) (dCB rdListM (dCons te dNil)) :=
  de_callTy (call_list_of.or (call_list_signs hc)) im_listM hg hm (by decide +kernel) (da_cons ha da_nil hs) (he := hs) (hpl := rfl)
def rdTuple (ds : List D) (st : Sto) (Q : QD) : Prop := match ds with
  | [d] => match look st d with
    | .lst xs => Q (.tup xs) st
    | .tup xs => Q (.tup xs) st
    | _ => False
  | _ => False
theorem im_tuple : ImA (gx X cA) (fun xs H Q => ∃ p ys, xs = [.ref p] ∧ ((SqL X.K H p ys ∧ ∀ l, H l = none → Q (.ref l) (upd H l (.tup ys))) ∨ (SqT X.K H p ys ∧ Q (.ref p) H))) rdTuple := by
  intro g st H xs ds Qd Q rl rs h p
  unfold rdTuple at h
  split at h
  · obtain ⟨v, rfl, r⟩ := reps1 rs
    split at h
    · rename_i ex
      obtain ⟨a, vs, rfl, e1, r1⟩ := see_lst rl r ex
      exact ⟨a, vs, rfl, .inl ⟨.of e1, lay_tup rl r1 p h⟩⟩
    · rename_i ex
      obtain ⟨a, vs, rfl, e1, r1⟩ := see_tup r ex
      exact ⟨a, vs, rfl, .inr ⟨e1.sq, p.now rl (.tup e1 r1) h⟩⟩
    · exact h.elim
  · exact h.elim
theorem de_tuple {p pos : Pos} {e : Expr} {te : TDE} (hg : Gl X "tuple") (hm : X.mg "tuple" = none) (ha : DE cA X e te) (hs : starEach [e] X.env = (false, eval e X.env) :: starEach [] X.env := by rfl) : DE cA X (.Call (.Name "tuple" p) [e] [] pos) (dCB rdTuple (dCons te dNil)) :=
  de_callTy call_tuple_of im_tuple hg hm (by decide +kernel) (da_cons ha da_nil hs) (he := hs) (hpl := rfl)
/-! ### int, abs, max, min, sum, str -/
def rdInt (ds : List D) (st : Sto) (Q : QD) : Prop := match ds with
  | [.int i] => Q (.int i) st
  | [.bl b] => Q (.int (if b then 1 else 0)) st
  | _ => False
theorem im_int : ImA (gx X cA) (fun xs H Q => (∃ i, xs = [.int i] ∧ Q (.int i) H) ∨ ∃ k, xs = [.bl k] ∧ Q (.int (if k then 1 else 0)) H) rdInt := by
  intro g st H xs ds Qd Q rl rs h p
  unfold rdInt at h
  split at h
  · obtain ⟨v, rfl, r⟩ := reps1 rs; cases r; exact .inl ⟨_, rfl, p.now rl (.int _) h⟩
  · obtain ⟨v, rfl, r⟩ := reps1 rs; cases r; exact .inr ⟨_, rfl, p.now rl (.int _) h⟩
  · exact h.elim
theorem de_intf {p pos : Pos} {e : Expr} {te : TDE} (hg : Gl X "int") (hm : X.mg "int" = none) (ha : DE cA X e te) (hs : starEach [e] X.env = (false, eval e X.env) :: starEach [] X.env := by rfl) : DE cA X (.Call (.Name "int" p) [e] [] pos) (dCB rdInt (dCons te dNil)) :=
  de_callTy call_int1 im_int hg hm (by decide +kernel) (da_cons ha da_nil hs) (he := hs) (hpl := rfl)
def rdI1 (f : Int → Int) (ds : List D) (st : Sto) (Q : QD) : Prop := match ds with
  | [.int i] => Q (.int (f i)) st
  | _ => False
theorem de_abs {p pos : Pos} {e : Expr} {te : TDE} (hg : Gl X "abs") (hm : X.mg "abs" = none) (ha : DE cA X e te) (hs : starEach [e] X.env = (false, eval e X.env) :: starEach [] X.env := by rfl) : DE cA X (.Call (.Name "abs" p) [e] [] pos) (dCB (rdI1 fun i => if i < 0 then -i else i) (dCons te dNil)) :=
  de_callB call_abs (fun g st H xs ds Qd Q rl rs h p => by
    unfold rdI1 at h
    split at h
    · obtain ⟨v, rfl, r⟩ := reps1 rs; cases r; exact ⟨_, rfl, p.now rl (.int _) h⟩
    · exact h.elim) hg hm (by decide +kernel) (da_cons ha da_nil hs) (he := hs) (hpl := rfl)
def rdI2 (f : Int → Int → Int) (ds : List D) (st : Sto) (Q : QD) : Prop := match ds with
  | [.int i, .int j] => Q (.int (f i j)) st
  | _ => False
theorem de_max {p pos : Pos} {a b : Expr} {ta tb : TDE} (hc : X.calm = true) (hg : Gl X "max") (hm : X.mg "max" = none) (ha : DE cA X a ta) (hb : DE cA X b tb) (hs : starEach [a, b] X.env = (false, eval a X.env) :: starEach [b] X.env := by rfl) (hs2 : starEach [b] X.env = (false, eval b X.env) :: starEach [] X.env := by rfl) (hpl : (backTo pos (starEach [b] X.env)).any (·.1) = false := by rfl) :
    DE cA X (.Call (.Name "max" p) [a, b] [] pos) (dCB (rdI2 fun i j => if j > i then j else i) (dCons ta (dCons tb dNil))) :=
  de_callB (call_max2 hc) (fun g st H xs ds Qd Q rl rs h p => by
    unfold rdI2 at h
    split at h
    · obtain ⟨v, w, rfl, r, r2⟩ := reps2 rs; cases r; cases r2; exact ⟨_, _, rfl, p.now rl (.int _) h⟩
    · exact h.elim) hg hm (by decide +kernel) (da_cons ha (da_cons hb da_nil hs2) hs) (he := hs) (hpl := hpl)
theorem de_min {p pos : Pos} {a b : Expr} {ta tb : TDE} (hc : X.calm = true) (hg : Gl X "min") (hm : X.mg "min" = none) (ha : DE cA X a ta) (hb : DE cA X b tb) (hs : starEach [a, b] X.env = (false, eval a X.env) :: starEach [b] X.env := by rfl) (hs2 : starEach [b] X.env = (false, eval b X.env) :: starEach [] X.env := by rfl) (hpl : (backTo pos (starEach [b] X.env)).any (·.1) = false := by rfl) :
    DE cA X (.Call (.Name "min" p) [a, b] [] pos) (dCB (rdI2 fun i j => if j < i then j else i) (dCons ta (dCons tb dNil))) :=
  de_callB (call_min2 hc) (fun g st H xs ds Qd Q rl rs h p => by
    unfold rdI2 at h
    split at h
    · obtain ⟨v, w, rfl, r, r2⟩ := reps2 rs; cases r; cases r2; exact ⟨_, _, rfl, p.now rl (.int _) h⟩
    · exact h.elim) hg hm (by decide +kernel) (da_cons ha (da_cons hb da_nil hs2) hs) (he := hs) (hpl := hpl)
/-- the ints of a list -/
def intsOf : List D → Option (List Int)
  | [] => some []
  | .int i :: ds => (intsOf ds).map (i :: ·)
  | _ :: _ => none
theorem ints_rep {G : Gx} {g : Gh} {H : Hp} : ∀ {vs : List V} {ds : List D} {ns : List Int}, Reps G g H vs ds → intsOf ds = some ns → vs = ns.map V.int
  | _, _, ns, .nil, h => by simp only [intsOf] at h; cases h; rfl
  | _, _, ns, .cons (.int i) t, h => by
    simp only [intsOf] at h
    obtain ⟨ms, h1, h2⟩ := Option.map_eq_some_iff.mp h
    cases h2
    rw [ints_rep t h1]; rfl
  | _, _, ns, .cons .non t, h => by simp [intsOf] at h
  | _, _, ns, .cons (.bl _) t, h => by simp [intsOf] at h
  | _, _, ns, .cons (.str _) t, h => by simp [intsOf] at h
  | _, _, ns, .cons (.tup _ _) t, h => by simp [intsOf] at h
  | _, _, ns, .cons (.lst _ _ _) t, h => by simp [intsOf] at h
  | _, _, ns, .cons (.dct _ _) t, h => by simp [intsOf] at h
  | _, _, ns, .cons (.obj _ _ _) t, h => by simp [intsOf] at h
  | _, _, ns, .cons (.ref _) t, h => by simp [intsOf] at h
  | _, _, ns, .cons (.scr _) t, h => by simp [intsOf] at h
def rdSum (ds : List D) (st : Sto) (Q : QD) : Prop := match ds with
  | [d] => match look st d with
    | .lst xs => ∃ ns, intsOf xs = some ns ∧ Q (.int ns.sum) st
    | _ => False
  | _ => False
theorem de_sum {p pos : Pos} {e : Expr} {te : TDE} (hc : X.calm = true) (hg : Gl X "sum") (hm : X.mg "sum" = none) (ha : DE cA X e te) (hs : starEach [e] X.env = (false, eval e X.env) :: starEach [] X.env := by rfl) : DE cA X (.Call (.Name "sum" p) [e] [] pos) (dCB rdSum (dCons te dNil)) :=
  de_callB (cr_sum hc) (fun g st H xs ds Qd Q rl rs h p => by
    unfold rdSum at h
    split at h
    · obtain ⟨v, rfl, r⟩ := reps1 rs
      split at h
      · rename_i ex
        obtain ⟨a, vs, rfl, e1, r1⟩ := see_lst rl r ex
        obtain ⟨ns, h1, h2⟩ := h
        have e2 := ints_rep r1 h1
        subst e2
        exact ⟨a, ns, rfl, .of e1, p.now rl (.int _) h2⟩
      · exact h.elim
    · exact h.elim) hg hm (by decide +kernel) (da_cons ha da_nil hs) (he := hs) (hpl := rfl)
/-! ### repr -/
theorem call_reprD (hgd : X.A.guards = some []) (hu : X.A.units + 70 < cLine) : CallR X (.builtin "repr") (fun xs H Q => ∃ a d, xs = [.ref a] ∧ Dp X.K H (.ref a) d ∧ SeqAt.shaped d = true ∧ d.showable = true ∧ d.shown.length ≤ sizeLine ∧ Q (.str d.shown) H) := by
  intro pins s σ H xs us Q I r h
  obtain ⟨a, d, rfl, hd, sh, sw, hz, q⟩ := h
  obtain ⟨u, rfl, ru⟩ := vals1 r
  cases ru
  obtain ⟨as, rd⟩ := Dp.reads I d (.ref a) (.ref a) hd rfl
  have h1 := SeqAt.depth_of_shaped sh
  exact repr_of_reads' rd sw (PyData.noDict_hsm (PyData.hasDict_of_canLay d (SeqAt.canLay_of_shaped sh))) hgd (by omega) (fun _ _ e => e) (fun h' t tk hk => ⟨.str _, H, I.kept hk, ⟨_, rfl⟩, q⟩) hz
def rdRepr (ds : List D) (st : Sto) (Q : QD) : Prop := match ds with
  | [.int i] => i.natAbs.log2 < 1920 ∧ Q (.str (toString i)) st
  | [.lst xs] => ∃ p, (D.lst xs).py = some p ∧ SeqAt.shaped p = true ∧ p.showable = true ∧ p.shown.length ≤ sizeLine ∧ Q (.str p.shown) st
  | [.tup xs] => ∃ p, (D.tup xs).py = some p ∧ SeqAt.shaped p = true ∧ p.showable = true ∧ p.shown.length ≤ sizeLine ∧ Q (.str p.shown) st
  | _ => False
theorem de_repr {p pos : Pos} {e : Expr} {te : TDE} (hgd : X.A.guards = some []) (hu : X.A.units + 70 < cLine) (hg : Gl X "repr") (hm : X.mg "repr" = none) (ha : DE cA X e te) (hs : starEach [e] X.env = (false, eval e X.env) :: starEach [] X.env := by rfl) : DE cA X (.Call (.Name "repr" p) [e] [] pos) (dCB rdRepr (dCons te dNil)) :=
  de_callB ((SkE.call_repr_int).or (call_reprD hgd hu)) (fun g st H xs ds Qd Q rl rs h p => by
    unfold rdRepr at h
    split at h
    · obtain ⟨v, rfl, r⟩ := reps1 rs; cases r; exact .inl ⟨_, rfl, h.1, p.now rl (.str _) h.2⟩
    · obtain ⟨v, rfl, r⟩ := reps1 rs
      obtain ⟨q, h1, h2, h3, h4, h5⟩ := h
      have hd := rep_dp r h1
      cases r
      exact .inr ⟨_, q, rfl, hd, h2, h3, h4, p.now rl (.str _) h5⟩
    · obtain ⟨v, rfl, r⟩ := reps1 rs
      obtain ⟨q, h1, h2, h3, h4, h5⟩ := h
      have hd := rep_dp r h1
      cases r
      exact .inr ⟨_, q, rfl, hd, h2, h3, h4, p.now rl (.str _) h5⟩
    · exact h.elim) hg hm (by decide +kernel) (da_cons ha da_nil hs) (he := hs) (hpl := rfl)
end
end TL
namespace TL
open PySem PySem.Spec PyProof.Rows L2
section
variable {X : Cx} {cA : Nat → Addr}
/-! ### methods of a list in a cell -/
def isL (st : Sto) (d : D) : Prop := match look st d with
  | .lst _ => True
  | _ => False
theorem isL_ty {G : Gx} {g : Gh} {st : Sto} {H : Hp} {v : V} {d : D} (rl : Rel G g st H) (r : Rep G g H v d) (h : isL st d) : tyV G.K "list" v H := by
  unfold isL at h
  split at h
  · rename_i ex
    obtain ⟨a, vs, rfl, e1, r1⟩ := see_lst rl r ex
    exact .inl ⟨rfl, vs, .of e1⟩
  · exact h.elim
/-- what a method does, over trees -/
def ImM (G : Gx) (r : V → List V → Hp → VK → Prop) (rd : D → List D → Sto → QD → Prop) : Prop := ∀ g st H x xs d ds Qd Q, Rel G g st H → Rep G g H x d → Reps G g H xs ds → rd d ds st Qd → Post G g st H Qd Q → r x xs H Q
def dMt (rd : D → List D → Sto → QD → Prop) (to : TDE) (t : TDA) : TDE := fun env st Q => to env st fun x st1 => isL st1 x ∧ t env st1 fun ds st2 => rd x ds st2 Q
def dMt0 (rd : D → List D → Sto → QD → Prop) (to : TDE) : TDE := fun env st Q => to env st fun x st1 => isL st1 x ∧ rd x [] st1 Q
theorem de_mt {o e : Expr} {es : List Expr} {to : TDE} {t : TDA} {name : Str} {apos cpos : Pos} {id : String} {r : V → List V → Hp → VK → Prop} {rd : D → List D → Sto → QD → Prop} (slot : Slot "list" name id) (hty : typeOf (.builtin id) = pure (.type "method_descriptor")) (hm : MtR X id r) (im : ImM (gx X cA) r rd) (ho : DE cA X o to) (ha : DA cA X (e :: es) t)
    (hbase : attributeBase o name X.env (eval o X.env) = eval o X.env := by rfl)
    (hfew : ((backTo cpos (starEach (e :: es) X.env)).all (fun x => !x.1) && (backToKw cpos (keywordEach [] X.env)).all (fun x => x.1.isSome)
      && decide ((e :: es).length + ([] : List Keyword).length + (if ([] : List Keyword).isEmpty then 0 else 1) < 30)) = true := by rfl)
    (hline : (apos.endLine == cpos.line) = true := by rfl) (hs : starEach (e :: es) X.env = (false, eval e X.env) :: starEach es X.env := by rfl) (hplain : (backTo cpos (starEach es X.env)).any (·.1) = false := by rfl) :
    DE cA X (.Call (.Attribute o name apos) (e :: es) [] cpos) (dMt rd to t) :=
  pe_weak (pe_bm PySem.F.plainAttrs_list slot hty hm ho ha hbase hfew hline hs hplain) fun σ H Q ⟨g, st, env, Qd, rl, en, h, p⟩ => ⟨g, st, env, _, rl, en, h, fun d st1 g1 H1 v s1 rl1 r1 h1 =>
    ⟨isL_ty rl1 r1 h1.1, g1, st1, env, _, rl1, en.mono s1, h1.2, fun ds st2 g2 H2 vs s2 rl2 r2 h2 => im g2 st2 H2 v vs d ds Qd Q rl2 (r1.mono s2) r2 h2 (p.step (s1.trans s2))⟩⟩
theorem de_mt0 {o : Expr} {to : TDE} {name : Str} {apos cpos : Pos} {id : String} {r : V → List V → Hp → VK → Prop} {rd : D → List D → Sto → QD → Prop} (slot : Slot "list" name id) (hty : typeOf (.builtin id) = pure (.type "method_descriptor")) (hm : MtR X id r) (im : ImM (gx X cA) r rd) (ho : DE cA X o to)
    (hbase : attributeBase o name X.env (eval o X.env) = eval o X.env := by rfl) (hline : (apos.endLine == cpos.line) = true := by rfl) : DE cA X (.Call (.Attribute o name apos) [] [] cpos) (dMt0 rd to) :=
  pe_weak (pe_bm0 PySem.F.plainAttrs_list slot hty hm ho hbase hline) fun σ H Q ⟨g, st, env, Qd, rl, en, h, p⟩ => ⟨g, st, env, _, rl, en, h, fun d st1 g1 H1 v s1 rl1 r1 h1 =>
    ⟨isL_ty rl1 r1 h1.1, im g1 st1 H1 v [] d [] Qd Q rl1 r1 .nil h1.2 (p.step s1)⟩⟩
/-- the list in the cell n -/
def cellL (st : Sto) (d : D) (k : Nat → List D → Prop) : Prop := match d with
  | .ref n => match st n with
    | some (.lst xs) => k n xs
    | _ => False
  | _ => False
theorem cellL_of {G : Gx} {g : Gh} {st : Sto} {H : Hp} {v : V} {d : D} {k : Nat → List D → Prop} (rl : Rel G g st H) (r : Rep G g H v d) (h : cellL st d k) : ∃ n a vs xs, d = .ref n ∧ v = .ref a ∧ st n = some (.lst xs) ∧ g.rho n = some a ∧ H a = some (.lst vs) ∧ Reps G g H vs xs ∧ k n xs := by
  unfold cellL at h
  split at h
  · rename_i n
    split at h
    · rename_i xs e
      cases r with
      | @ref a _ e1 =>
        obtain ⟨a', f1, f2, vs, f3, f4⟩ := rl.cell _ _ e
        rw [e1] at f1; cases f1
        exact ⟨n, a, vs, xs, rfl, rfl, e, e1, f3, f4, h⟩
    · exact h.elim
  · exact h.elim
/-- the cell is written -/
theorem put_cell {G : Gx} {g : Gh} {st : Sto} {H : Hp} {n : Nat} {a : Addr} {xs ys : List D} {vs : List V} {d : D} {v : V} {Qd : QD} {Q : VK} (rl : Rel G g st H) (e : st n = some (.lst xs)) (e1 : g.rho n = some a) (rs : Reps G g H vs ys) (rv : Rep G g H v d) (p : Post G g st H Qd Q) (q : Qd d (sup st n (.lst ys))) : Q v (upd H a (.lst vs)) := by
  obtain ⟨s, rl'⟩ := rl.write (m' := .lst ys) (o := .lst vs) e e1 fun st' H' s' eH => ⟨vs, by rw [eH]; exact upd_same, rs.mono s'⟩
  exact p _ _ _ _ _ s rl' (rv.mono s) q
def rdAppend (x : D) (ds : List D) (st : Sto) (Q : QD) : Prop := cellL st x fun n xs => match ds with
  | [d] => xs.length < sizeLine ∧ Q .non (sup st n (.lst (xs ++ [d])))
  | _ => False
theorem im_append : ImM (gx X cA) rAppend rdAppend := by
  intro g st H x vs d ds Qd Q rl rx rs h p
  obtain ⟨n, a, ws, xs, rfl, rfl, e, e1, e2, r1, h⟩ := cellL_of rl rx h
  split at h
  · obtain ⟨v, rfl, rv⟩ := reps1 rs
    exact ⟨a, ws, v, rfl, rfl, e2, by rw [r1.length]; exact h.1, put_cell rl e e1 (r1.append (.cons rv .nil)) .non p h.2⟩
  · exact h.elim
theorem de_append {o e : Expr} {to te : TDE} {apos cpos : Pos} (ho : DE cA X o to) (ha : DE cA X e te)
    (hbase : attributeBase o "append" X.env (eval o X.env) = eval o X.env := by rfl)
    (hfew : ((backTo cpos (starEach [e] X.env)).all (fun x => !x.1) && (backToKw cpos (keywordEach [] X.env)).all (fun x => x.1.isSome)
      && decide (([e] : List Expr).length + ([] : List Keyword).length + (if ([] : List Keyword).isEmpty then 0 else 1) < 30)) = true := by rfl)
    (hline : (apos.endLine == cpos.line) = true := by rfl) (hs : starEach [e] X.env = (false, eval e X.env) :: starEach [] X.env := by rfl) : DE cA X (.Call (.Attribute o "append" apos) [e] [] cpos) (dMt rdAppend to (dCons te dNil)) :=
  de_mt PySem.F.slot_list_append PySem.F.type_list_append mt_append im_append ho (da_cons ha da_nil hs) hbase hfew hline hs rfl
def rdPop (x : D) (ds : List D) (st : Sto) (Q : QD) : Prop := cellL st x fun n xs => ∃ y, xs[xs.length - 1]? = some y ∧ ds = [] ∧ Q y (sup st n (.lst xs.dropLast))
theorem Reps.dropLast {G : Gx} {g : Gh} {H : Hp} {vs : List V} {ds : List D} (r : Reps G g H vs ds) : Reps G g H vs.dropLast ds.dropLast := by
  rw [List.dropLast_eq_take, List.dropLast_eq_take, r.length]
  exact r.take _
theorem im_pop : ImM (gx X cA) rPop rdPop := by
  intro g st H x vs d ds Qd Q rl rx rs h p
  obtain ⟨n, a, ws, xs, rfl, rfl, e, e1, e2, r1, y, h1, h2, h3⟩ := cellL_of rl rx h
  subst h2
  cases rs
  obtain ⟨v, hv, rv⟩ := r1.get h1
  exact ⟨a, ws, v, rfl, rfl, e2, by rw [r1.length]; exact hv, put_cell rl e e1 r1.dropLast rv p h3⟩
theorem de_pop {o : Expr} {to : TDE} {apos cpos : Pos} (ho : DE cA X o to) (hbase : attributeBase o "pop" X.env (eval o X.env) = eval o X.env := by rfl) (hline : (apos.endLine == cpos.line) = true := by rfl) : DE cA X (.Call (.Attribute o "pop" apos) [] [] cpos) (dMt0 rdPop to) :=
  de_mt0 PySem.F.slot_list_pop PySem.F.type_list_pop mt_pop im_pop ho hbase hline
def rdPopAt (x : D) (ds : List D) (st : Sto) (Q : QD) : Prop := cellL st x fun n xs => match ds with
  | [.int i] => ∃ y, 0 ≤ i ∧ i < 2 ^ 63 ∧ xs[i.toNat]? = some y ∧ Q y (sup st n (.lst (xs.eraseIdx i.toNat)))
  | _ => False
theorem im_popAt : ImM (gx X cA) rPopAt rdPopAt := by
  intro g st H x vs d ds Qd Q rl rx rs h p
  obtain ⟨n, a, ws, xs, rfl, rfl, e, e1, e2, r1, h⟩ := cellL_of rl rx h
  split at h
  · rename_i i hx
    obtain ⟨v, rfl, rv⟩ := reps1 rs
    cases rv
    obtain ⟨y, h0, h1, h2, h3⟩ := h
    obtain ⟨v, hv, rv⟩ := r1.get h2
    have hlt : i.toNat < xs.length := (List.getElem?_eq_some_iff.mp h2).1
    have hix : ixN ws.length i = some i.toNat := by
      unfold ixN
      rw [if_pos h0, if_pos (by rw [r1.length]; omega)]
    exact ⟨a, ws, i, i.toNat, v, rfl, rfl, e2, by omega, h1, (ixN_seq hix).1, hv, put_cell rl e e1 (r1.eraseIdx _) rv p h3⟩
  · exact h.elim
theorem de_popAt {o e : Expr} {to te : TDE} {apos cpos : Pos} (ho : DE cA X o to) (ha : DE cA X e te)
    (hbase : attributeBase o "pop" X.env (eval o X.env) = eval o X.env := by rfl)
    (hfew : ((backTo cpos (starEach [e] X.env)).all (fun x => !x.1) && (backToKw cpos (keywordEach [] X.env)).all (fun x => x.1.isSome)
      && decide (([e] : List Expr).length + ([] : List Keyword).length + (if ([] : List Keyword).isEmpty then 0 else 1) < 30)) = true := by rfl)
    (hline : (apos.endLine == cpos.line) = true := by rfl) (hs : starEach [e] X.env = (false, eval e X.env) :: starEach [] X.env := by rfl) : DE cA X (.Call (.Attribute o "pop" apos) [e] [] cpos) (dMt rdPopAt to (dCons te dNil)) :=
  de_mt PySem.F.slot_list_pop PySem.F.type_list_pop mt_popAt im_popAt ho (da_cons ha da_nil hs) hbase hfew hline hs rfl
def rdExtend (x : D) (ds : List D) (st : Sto) (Q : QD) : Prop := cellL st x fun n xs => match ds with
  | [d] => match look st d with
    | .lst ys => xs.length + ys.length ≤ sizeLine ∧ Q .non (sup st n (.lst (xs ++ ys)))
    | _ => False
  | _ => False
theorem im_extend : ImM (gx X cA) rExtend rdExtend := by
  intro g st H x vs d ds Qd Q rl rx rs h p
  obtain ⟨n, a, ws, xs, rfl, rfl, e, e1, e2, r1, h⟩ := cellL_of rl rx h
  split at h
  · obtain ⟨v, rfl, rv⟩ := reps1 rs
    split at h
    · rename_i ex
      obtain ⟨b, us, rfl, e3, r3⟩ := see_lst rl rv ex
      exact ⟨a, b, ws, us, rfl, rfl, e2, e3, by rw [r1.length, r3.length]; exact h.1, put_cell rl e e1 (r1.append r3) .non p h.2⟩
    · exact h.elim
  · exact h.elim
theorem de_extend {o e : Expr} {to te : TDE} {apos cpos : Pos} (ho : DE cA X o to) (ha : DE cA X e te)
    (hbase : attributeBase o "extend" X.env (eval o X.env) = eval o X.env := by rfl)
    (hfew : ((backTo cpos (starEach [e] X.env)).all (fun x => !x.1) && (backToKw cpos (keywordEach [] X.env)).all (fun x => x.1.isSome)
      && decide (([e] : List Expr).length + ([] : List Keyword).length + (if ([] : List Keyword).isEmpty then 0 else 1) < 30)) = true := by rfl)
    (hline : (apos.endLine == cpos.line) = true := by rfl) (hs : starEach [e] X.env = (false, eval e X.env) :: starEach [] X.env := by rfl) : DE cA X (.Call (.Attribute o "extend" apos) [e] [] cpos) (dMt rdExtend to (dCons te dNil)) :=
  de_mt PySem.F.slot_list_extend PySem.F.type_list_extend mt_extend im_extend ho (da_cons ha da_nil hs) hbase hfew hline hs rfl

/-! ### texts: join, split -/
def strsOf : List D → Option (List Str)
  | [] => some []
  | .str x :: ds => (strsOf ds).map (x :: ·)
  | _ :: _ => none
theorem strs_rep {G : Gx} {g : Gh} {H : Hp} : ∀ {vs : List V} {ds : List D} {ns : List Str}, Reps G g H vs ds → strsOf ds = some ns → vs = ns.map V.str
  | _, _, ns, .nil, h => by simp only [strsOf] at h; cases h; rfl
  | _, _, ns, .cons (.str i) t, h => by
    simp only [strsOf] at h
    obtain ⟨ms, h1, h2⟩ := Option.map_eq_some_iff.mp h
    cases h2
    rw [strs_rep t h1]; rfl
  | _, _, ns, .cons .non t, h => by simp [strsOf] at h
  | _, _, ns, .cons (.bl _) t, h => by simp [strsOf] at h
  | _, _, ns, .cons (.int _) t, h => by simp [strsOf] at h
  | _, _, ns, .cons (.tup _ _) t, h => by simp [strsOf] at h
  | _, _, ns, .cons (.lst _ _ _) t, h => by simp [strsOf] at h
  | _, _, ns, .cons (.dct _ _) t, h => by simp [strsOf] at h
  | _, _, ns, .cons (.obj _ _ _) t, h => by simp [strsOf] at h
  | _, _, ns, .cons (.ref _) t, h => by simp [strsOf] at h
  | _, _, ns, .cons (.scr _) t, h => by simp [strsOf] at h
def seqL (st : Sto) (d : D) : Option (List D) := match look st d with
  | .lst ds => some ds
  | .tup ds => some ds
  | _ => none
theorem reps_strs {G : Gx} {g : Gh} {H : Hp} : ∀ ns : List Str, Reps G g H (ns.map V.str) (ns.map D.str)
  | [] => .nil
  | n :: r => .cons (.str n) (reps_strs r)
def dJoin (a : Str) (te : TDE) : TDE := fun env st Q => te env st fun y st2 => match seqL st2 y with
  | some ds => ∃ ys, strsOf ds = some ys ∧ (ys.map (·.length)).sum + ys.length * a.length ≤ 16777216 ∧ Q (.str (Txt.join a ys)) st2
  | none => False
theorem de_join {e : Expr} {te : TDE} {apos pos p2 : Pos} {w : Str} {j : Nat} (he : DE cA X e te) (hs : starEach [e] X.env = [(false, eval e X.env)] := by rfl) (hbase : attributeBase (.Constant (.str w) j p2) "join" X.env (eval (.Constant (.str w) j p2) X.env) = eval (.Constant (.str w) j p2) X.env := by rfl) (hline : (apos.endLine == pos.line) = true := by rfl) :
    DE cA X (.Call (.Attribute (.Constant (.str w) j p2) "join" apos) [e] [] pos) (dJoin w te) :=
  pe_weak (pe_join pe_str he hs hbase hline) fun σ H Q ⟨g, st, env, Qd, rl, en, h, p⟩ => by
    refine ⟨⟨w, rfl⟩, g, st, env, _, rl, en, h, fun d2 st2 g2 H2 v2 s2 rl2 r2 h2 => ?_⟩
    cases e : seqL st2 d2 with
    | none => rw [e] at h2; exact h2.elim
    | some ds =>
      rw [e] at h2
      obtain ⟨ys, k1, k2, k3⟩ := h2
      unfold seqL at e
      split at e
      · rename_i ex
        cases e
        obtain ⟨b, us, rfl, e3, r3⟩ := see_lst rl2 r2 ex
        have := strs_rep r3 k1
        subst this
        exact ⟨w, b, ys, rfl, rfl, .inl (.of e3), k2, p _ _ _ _ _ s2 rl2 (.str _) k3⟩
      · rename_i ex
        cases e
        obtain ⟨b, us, rfl, e3, r3⟩ := see_tup r2 ex
        have := strs_rep r3 k1
        subst this
        exact ⟨w, b, ys, rfl, rfl, .inr e3.sq, k2, p _ _ _ _ _ s2 rl2 (.str _) k3⟩
      · cases e
def dSplit (b : Str) (to : TDE) : TDE := fun env st Q => to env st fun x st1 => match x with
  | .str a => a.length + 2 ≤ sizeLine ∧ Q (.lst ((Txt.split a b).map D.str)) st1
  | _ => False
theorem de_split {o : Expr} {to : TDE} {b : Str} {j : Nat} {apos pos p2 : Pos} (hb : (b.length == 0) = false) (ho : DE cA X o to) (hs : starEach [.Constant (.str b) j p2] X.env = [(false, eval (.Constant (.str b) j p2) X.env)] := by rfl) (hbase : attributeBase o "split" X.env (eval o X.env) = eval o X.env := by rfl) (hline : (apos.endLine == pos.line) = true := by rfl) :
    DE cA X (.Call (.Attribute o "split" apos) [.Constant (.str b) j p2] [] pos) (dSplit b to) :=
  pe_weak (pe_split ho pe_str hs hbase hline) fun σ H Q ⟨g, st, env, Qd, rl, en, h, p⟩ => ⟨g, st, env, _, rl, en, h, fun d st1 g1 H1 v s1 rl1 r1 h1 => by
    cases r1 with
    | str a => exact ⟨⟨a, rfl⟩, a, b, rfl, rfl, hb, h1.1, lay_lst rl1 (reps_strs _) (p.step s1) h1.2⟩
    | _ => exact h1.elim⟩

/-! ### dicts -/
def isDc (st : Sto) (d : D) : Prop := match look st d with
  | .dct _ => True
  | _ => False
/-- d.get(k, x) -/
def dGet2 (td ty tx : TDE) : TDE := fun env st Q => td env st fun x st1 => isDc st1 x ∧ ty env st1 fun y st2 => tx env st2 fun z st3 => match look st3 x with
  | .dct kd => ∃ key, keyOf y = some key ∧ Q ((getK kd key).getD z) st3
  | _ => False
theorem de_get2 {o e f : Expr} {td ty tx : TDE} {apos cpos : Pos} (hu : X.A.units + 1 < cLine) (ho : DE cA X o td) (he : DE cA X e ty) (hf : DE cA X f tx) (m : M2 X o "get" apos e f cpos := by exact ⟨rfl, rfl, rfl, rfl⟩) : DE cA X (.Call (.Attribute o "get" apos) [e, f] [] cpos) (dGet2 td ty tx) :=
  pe_weak (pe_dget2 hu ho he hf m) fun σ H Q ⟨g, st, env, Qd, rl, en, h, p⟩ => ⟨g, st, env, _, rl, en, h, fun d st1 g1 H1 v s1 rl1 r1 h1 => by
    obtain ⟨hd, h1⟩ := h1
    unfold isDc at hd
    split at hd
    · rename_i kd ex
      obtain ⟨a, kv, rfl, e1, _⟩ := see_dct rl1 r1 ex
      refine ⟨a, rfl, .inl ⟨kv, e1⟩, g1, st1, env, _, rl1, en.mono s1, h1, fun d2 st2 g2 H2 v2 s2 rl2 r2 h2 => ⟨g2, st2, env, _, rl2, (en.mono s1).mono s2, h2, fun d3 st3 g3 H3 v3 s3 rl3 r3 h3 => ?_⟩⟩
      have r13 := (r1.mono s2).mono s3
      have r23 := r2.mono s3
      split at h3
      · rename_i kd3 ex3
        obtain ⟨a', kv3, ea, e3, rs3⟩ := see_dct rl3 r13 ex3
        cases ea
        obtain ⟨key, k1, k2⟩ := h3
        cases key_rep r23 k1
        refine ⟨valV kv3 key, .inl ⟨kv3, key, e3, rfl, rfl⟩, ?_⟩
        obtain ⟨q1, q2⟩ := repK_get rs3 key
        cases hk : getK kd3 key with
        | some dd =>
          obtain ⟨vv, hv, rv⟩ := q1 dd hk
          rw [hv]
          rw [hk] at k2
          exact p _ _ _ _ _ ((s1.trans s2).trans s3) rl3 rv k2
        | none =>
          rw [q2 hk]
          rw [hk] at k2
          exact p _ _ _ _ _ ((s1.trans s2).trans s3) rl3 r3 k2
      · exact h3.elim
    · exact hd.elim⟩
/-- d[k] = v, the dict in a cell -/
def dPutS (td ty tv : TDE) : TDS := fun D' env st => tv env st fun v st1 => td env st1 fun x st2 => ty env st2 fun y st3 => match x with
  | .ref n => match st3 n with
    | some (.dct kd) => ∃ key, keyOf y = some key ∧ kd.length < sizeLine ∧ D'.nx env (sup st3 n (.dct (setK kd key v)))
    | _ => False
  | _ => False
theorem ds_put {o i value : Expr} {td ty tv : TDE} {pos pos' : Pos} (hu : X.A.units + 1 < cLine) (ho : DE cA X o td) (hi : DE cA X i ty) (hv : DE cA X value tv) (hs : swapsWith value (some (.Subscript o i pos')) pos.line X.env = pure false := by rfl) :
    DS cA X (.Assign [.Subscript o i pos'] value pos) (dPutS td ty tv) :=
  ps_weak (ps_dput hu ho hi hv hs) fun σ H Q ⟨g, st, env, Dd, rl, en, h, p⟩ => ⟨g, st, env, _, rl, en, h, fun d1 st1 g1 H1 v1 s1 rl1 r1 h1 => ⟨g1, st1, env, _, rl1, en.mono s1, h1, fun d2 st2 g2 H2 v2 s2 rl2 r2 h2 => ⟨g2, st2, env, _, rl2, (en.mono s1).mono s2, h2, fun d3 st3 g3 H3 v3 s3 rl3 r3 h3 => by
    have r13 := (r1.mono s2).mono s3
    have r23 := r2.mono s3
    split at h3
    · rename_i n
      split at h3
      · rename_i kd e
        obtain ⟨key, k1, k2, k3⟩ := h3
        cases r23 with
        | @ref a _ e1 =>
          obtain ⟨a', f1, f2, kv, f3, f4⟩ := rl3.cell _ _ e
          rw [e1] at f1; cases f1
          cases key_rep r3 k1
          obtain ⟨s, rl'⟩ := rl3.write (m' := .dct (setK kd key d1)) (o := .dK (putK kv key v1)) e e1 fun st' H' s' eH => ⟨_, by rw [eH]; exact upd_same, (repK_put f4 key r13).mono s'⟩
          refine ⟨a, _, rfl, DPut.k f3 (by rw [f4.length]; exact k2), ?_⟩
          exact p.nx _ _ _ _ _ (((s1.trans s2).trans s3).trans s) rl' ((((en.mono s1).mono s2).mono s3).mono s) k3
      · exact h3.elim
    · exact h3.elim⟩⟩⟩
end
end TL
namespace TL
open PySem PySem.Spec PyProof.Rows L2
section
variable {X : Cx} {cA : Nat → Addr}
theorem de_pow {a b : Expr} {pos : Pos} {ta tb : TDE} (ha : DE cA X a ta) (hb : DE cA X b tb) : DE cA X (.BinOp a .Pow b pos) (dOp (rdI CPow fun i j => .int (i ^ j.toNat)) ta tb) := de_op op_pow im_I ha hb

/-! ### dict displays -/
abbrev TDP := DSt → Sto → (List (Key × D) → Sto → Prop) → Prop
def dpNil : TDP := fun _ st Q => Q [] st
def dpCons (k : Key) (tv : TDE) (r : TDP) : TDP := fun env st Q => tv env st fun d st1 => r env st1 fun kd st2 => Q ((k, d) :: kd) st2
/-- the pairs of a display whose keys are constants -/
inductive DP (cA : Nat → Addr) (X : Cx) (pos : Pos) : List (Option Expr) → List Expr → List (TE × TE) → TDP → Prop
  | nil : DP cA X pos [] [] [] dpNil
  | str {k : Str} {j p} {v : Expr} {ks vs trs tv r} : DE cA X v tv → DP cA X pos ks vs trs r → DP cA X pos (some (.Constant (.str k) j p) :: ks) (v :: vs) ((tC (.str k), liftE (gx X cA) tv) :: trs) (dpCons (.inr k) tv r)
  | int {k : Int} {j p} {v : Expr} {ks vs trs tv r} : DE cA X v tv → DP cA X pos ks vs trs r → DP cA X pos (some (.Constant (.int k) j p) :: ks) (v :: vs) ((tC (.int k), liftE (gx X cA) tv) :: trs) (dpCons (.inl k) tv r)
theorem DP.pps {pos : Pos} : ∀ {ks : List (Option Expr)} {vs : List Expr} {trs : List (TE × TE)} {t : TDP}, DP cA X pos ks vs trs t → PPs X pos ks vs trs
  | _, _, _, _, .nil => pps_nil
  | _, _, _, _, .str h r => pps_cons pe_str h r.pps
  | _, _, _, _, .int h r => pps_cons pe_int h r.pps
theorem DP.run {pos : Pos} : ∀ {ks : List (Option Expr)} {vs : List Expr} {trs : List (TE × TE)} {t : TDP}, DP cA X pos ks vs trs t → ∀ {g : Gh} {st : Sto} {H : Hp} {σ : L2.St} {env : DSt} {Qd : List (Key × D) → Sto → Prop} {Q : List (V × V) → Hp → Prop},
    Rel (gx X cA) g st H → EnvR (gx X cA) g H σ env → t env st Qd → (∀ kd st' g' H' kv, Step g st H g' st' H' → Rel (gx X cA) g' st' H' → RepK (gx X cA) g' H' kv kd → Qd kd st' → Q (kv.map fun p => (kV p.1, p.2)) H') → tPairs trs σ H Q
  | _, _, _, _, .nil, g, st, H, σ, env, Qd, Q, rl, en, h, p => p _ _ _ _ [] (Step.refl g st H) rl .nil h
  | _, _, _, _, .str (k := k) hv r, g, st, H, σ, env, Qd, Q, rl, en, h, p => by
    show liftE _ _ σ H _
    exact ⟨g, st, env, _, rl, en, h, fun d st1 g1 H1 v s1 rl1 r1 h1 => r.run rl1 (en.mono s1) h1 fun kd st2 g2 H2 kv s2 rl2 r2 h2 => p _ _ _ _ ((.inr k, v) :: kv) (s1.trans s2) rl2 (.cons (r1.mono s2) r2) h2⟩
  | _, _, _, _, .int (k := k) hv r, g, st, H, σ, env, Qd, Q, rl, en, h, p => by
    show liftE _ _ σ H _
    exact ⟨g, st, env, _, rl, en, h, fun d st1 g1 H1 v s1 rl1 r1 h1 => r.run rl1 (en.mono s1) h1 fun kd st2 g2 H2 kv s2 rl2 r2 h2 => p _ _ _ _ ((.inl k, v) :: kv) (s1.trans s2) rl2 (.cons (r1.mono s2) r2) h2⟩
def foldK (acc : List (Key × D)) : List (Key × D) → List (Key × D)
  | [] => acc
  | (k, d) :: r => foldK (setK acc k d) r
theorem repK_merge {G : Gx} {g : Gh} {H : Hp} : ∀ {kv : List (Key × V)} {kd : List (Key × D)}, RepK G g H kv kd → ∀ {av : List (Key × V)} {ad : List (Key × D)}, RepK G g H av ad → RepK G g H (mergeK av kv) (foldK ad kd)
  | _, _, .nil, _, _, a => a
  | _, _, .cons r t, _, _, a => repK_merge t (repK_put a _ r)
def dDisp (t : TDP) : TDE := fun env st Q => t env st fun kd st1 => kd.length ≤ 15 ∧ Q (.dct (foldK [] kd)) st1
def dDispM (t : TDP) : TDE := fun env st Q => t env st fun kd st1 => kd.length ≤ 15 ∧ ∀ n, st1 n = none → Q (.ref n) (sup st1 n (.dct (foldK [] kd)))
/-- a hidden dict: shown as a cell -/
theorem disp_run {pos : Pos} {ks : List (Option Expr)} {vs : List Expr} {trs : List (TE × TE)} {t : TDP} (hD : DP cA X pos ks vs trs t) {g : Gh} {st : Sto} {H : Hp} {σ : L2.St} {env : DSt} {Qd : List (Key × D) → Sto → Prop} {Q : VK}
    (rl : Rel (gx X cA) g st H) (en : EnvR (gx X cA) g H σ env) (h : t env st fun kd st1 => kd.length ≤ 15 ∧ Qd kd st1)
    (p : ∀ kd st' g' H' n a, Step g st H g' (sup st' n (.dct (foldK [] kd))) H' → st' n = none → H a = none → Rel (gx X cA) g' (sup st' n (.dct (foldK [] kd))) H' → g'.rho n = some a → Qd kd st' → Q (.ref a) H') : tDisp trs σ H Q := by
  intro a ha
  obtain ⟨n, hn, hs⟩ := rl.fresh
  obtain ⟨s0, rl0⟩ := rl.cellNew (o := .dK []) ha hn (m := .dct []) fun g' st' s' => ⟨[], upd_same, .nil⟩
  have sb : Sub st (sup st n (.dct [])) := Sub.new hs
  have s1 : Step g st H (g.new n a) st (upd H a (.dK [])) := s0.sub sb
  have rl1 := rl0.sub sb
  have ow : (g.new n a).own a = some n := by simp [Gh.new]
  have rh : (g.new n a).rho n = some a := by simp [Gh.new]
  refine hD.run rl1 (en.mono s1) h fun kd st' g' H' kv s2 rl2 r2 ⟨h15, h2⟩ => ?_
  have nb : Nob (g.new n a) st a := fun k hk => by
    rw [ow] at hk; cases hk
    exact ⟨hs, a, rh⟩
  have eH : H' a = some (.dK []) := s2.ex a _ nb upd_same (.inr (by rw [ow]; exact fun z => nomatch z))
  have ow2 : g'.own a = some n := (s2.own a _ nb upd_same).trans ow
  have rh2 := s2.rho n a rh
  have hs2 := s2.hid n a rh hs
  refine ⟨eH, kv, rfl, by rw [r2.length]; exact h15, ?_⟩
  have s12 := s1.trans s2
  -- shown
  have shown : Rel (gx X cA) g' (sup st' n (.dct [])) H' := by
    refine ⟨fun k mk hk => ?_, rl2.own, ?_⟩
    · by_cases hkn : k = n
      · subst hkn
        rw [sup_same] at hk; cases hk
        exact ⟨a, rh2, ow2, [], eH, .nil⟩
      · rw [sup_ne hkn] at hk
        exact rl2.cell k mk hk
    · obtain ⟨N, hN⟩ := rl2.fin
      refine ⟨N, fun k hk => ⟨(hN k hk).1, ?_⟩⟩
      have : k ≠ n := by rintro rfl; rw [(hN k hk).1] at rh2; cases rh2
      rw [sup_ne this]; exact (hN k hk).2
  have sh : Step g st H g' (sup st' n (.dct [])) H' := ⟨s12.rho, fun k b e q => by
    have : k ≠ n := by rintro rfl; rw [hn] at e; cases e
    rw [sup_ne this]; exact s12.hid k b e q, s12.own, s12.ex, s12.dk⟩
  have mk := repK_merge r2 (G := gx X cA) (g := g') (H := H') .nil
  obtain ⟨s3, rl3⟩ := shown.write (m' := .dct (foldK [] kd)) (o := .dK (mergeK [] kv)) sup_same rh2 fun st'' H'' s' eH => ⟨_, by rw [eH]; exact upd_same, mk.mono s'⟩
  rw [sup_sup] at s3 rl3
  have st3 := sh.trans s3
  exact p kd st' g' _ n a st3 hs2 ha rl3 rh2 h2
theorem de_dispM {pos : Pos} {ks : List (Option Expr)} {vs : List Expr} {trs : List (TE × TE)} {t : TDP} (hD : DP cA X pos ks vs trs t) (hall : ks.all (·.isSome) = true := by rfl) (hl : ks.length = vs.length := by rfl) (h0 : ks ≠ [] := by exact fun z => nomatch z) (h15 : ks.length ≤ 15 := by decide) : DE cA X (.Dict ks vs pos) (dDispM t) :=
  pe_weak (pe_disp hD.pps hall hl h0 h15) fun σ H Q ⟨g, st, env, Qd, rl, en, h, p⟩ => disp_run hD (Qd := fun kd st1 => ∀ n, st1 n = none → Qd (.ref n) (sup st1 n (.dct (foldK [] kd)))) rl en h fun kd st' g' H' n a s hs _ rl' rh q => p _ _ _ _ _ s rl' (.ref rh) (q n hs)
theorem de_disp {pos : Pos} {ks : List (Option Expr)} {vs : List Expr} {trs : List (TE × TE)} {t : TDP} (hD : DP cA X pos ks vs trs t) (hall : ks.all (·.isSome) = true := by rfl) (hl : ks.length = vs.length := by rfl) (h0 : ks ≠ [] := by exact fun z => nomatch z) (h15 : ks.length ≤ 15 := by decide) : DE cA X (.Dict ks vs pos) (dDisp t) :=
  pe_weak (pe_disp hD.pps hall hl h0 h15) fun σ H Q ⟨g, st, env, Qd, rl, en, h, p⟩ => disp_run hD (Qd := fun kd st1 => Qd (.dct (foldK [] kd)) st1) rl en h fun kd st' g' H' n a s hs ha rl' rh q => by
    have z : frz (.ref n) (sup st' n (.dct (foldK [] kd))) Qd := by
      simp only [frz, sup_same, sdel_sup hs]; exact q
    exact frz_post rl' (.ref rh) z (p.step s)

/-! ### a dict of the module, all its keys texts -/
/-- the value of a constant: a tree in whatever heap -/
def CRep (K : PySem.W.Frag) (cA : Nat → Addr) (u : Value) (d : D) : Prop := ∃ v, RelV v u ∧ ∀ g H, Rep ⟨K, cA⟩ g H v d
def tabs (K : PySem.W.Frag) (cA : Nat → Addr) : List DictEntry → List (Str × D) → Prop
  | [], [] => True
  | e :: es, (x, d) :: r => (∃ t, e.key = .str x t) ∧ CRep K cA e.val d ∧ tabs K cA es r
  | _, _ => False
structure KTab (K : PySem.W.Frag) (cA : Nat → Addr) (w : World) (a : Addr) (kvs : List (Str × D)) : Prop where
  ex : ∃ es n, KDict K w a es n ∧ tabs K cA es.toList kvs
def getS : List (Str × D) → Str → Option D
  | [], _ => none
  | (x, d) :: r, z => if x = z then some d else getS r z
theorem tabs_find {K : PySem.W.Frag} {cA : Nat → Addr} {z : Str} : ∀ {es : List DictEntry} {kvs : List (Str × D)}, tabs K cA es kvs →
    (∀ d, getS kvs z = some d → ∃ u, (es.find? fun e => Value.isStrOf z e.key).map (·.val) = some u ∧ CRep K cA u d) ∧ (getS kvs z = none → (es.find? fun e => Value.isStrOf z e.key).map (·.val) = none)
  | [], [], _ => ⟨fun d h => by simp [getS] at h, fun _ => rfl⟩
  | [], _ :: _, h => h.elim
  | _ :: _, [], h => h.elim
  | e :: es, (x, d) :: r, ⟨⟨t, h1⟩, h2, h3⟩ => by
    obtain ⟨q1, q2⟩ := tabs_find (z := z) h3
    by_cases ex : x = z
    · subst ex
      have hi : Value.isStrOf x e.key = true := by rw [h1]; simp [Value.isStrOf]
      refine ⟨fun d' h => ?_, fun h => ?_⟩
      · simp [getS] at h
        subst h
        exact ⟨e.val, by simp [List.find?_cons, hi], h2⟩
      · simp [getS] at h
    · have hi : Value.isStrOf z e.key = false := by
        rw [h1]
        simp [Value.isStrOf]
        first | exact ex | exact fun q => ex q.symm
      refine ⟨fun d' h => ?_, fun h => ?_⟩
      · simp [getS, ex] at h
        simpa [List.find?_cons, hi] using q1 d' h
      · simp [getS, ex] at h
        simpa [List.find?_cons, hi] using q2 h
def dKGet (kvs : List (Str × D)) (ty tx : TDE) : TDE := fun env st Q => ty env st fun y st1 => tx env st1 fun z st2 => match y with
  | .str k => Q ((getS kvs k).getD z) st2
  | _ => False
theorem de_kget {x : Str} {e f : Expr} {ty tx : TDE} {p apos cpos : Pos} {a : Addr} {kvs : List (Str × D)} (T : KTab X.K cA X.w a kvs) (hg : Gl X x) (hm : X.mg x = some (.ref a)) (he : DE cA X e ty) (hf : DE cA X f tx) (hdb : (x == ("__debug__" : Str)) = false := by decide) (m : M2 X (.Name x p) "get" apos e f cpos := by exact ⟨rfl, rfl, rfl, rfl⟩) :
    DE cA X (.Call (.Attribute (.Name x p) "get" apos) [e, f] [] cpos) (dKGet kvs ty tx) := by
  obtain ⟨es, n, D, tb⟩ := T.ex
  refine ⟨fun pins s σ H Q I ⟨g, st, env, Qd, rl, en, h, p⟩ => ?_⟩
  refine wpAny_Call_method m.base m.few m.line PySem.F.plainAttrs_dict PySem.F.slot_dict_get PySem.F.type_dict_get (ld_glob I hg hm ?_ hdb)
  have mo := PySem.W.mapOf_K (prog := X.prog) (w := X.w) I.kIn D.at_ D.lit
  refine ⟨mo.typeIs, fun b q => ?_, ?_⟩
  · cases q
    exact ⟨_, I.kIn _ _ D.at_, rfl⟩
  rw [m.trees]
  refine Calls.callWith_builtin rfl (Calls.evalArgs_plain (Calls.spliced_cons (thn (he.run pins s σ H (fun v1 H1 => liftE (gx X cA) tx σ H1 fun v2 H2 => ∃ k, v1 = .str k ∧ ((∃ u v3, findBy Value.isStrOf es k = some u ∧ RelV v3 u ∧ Q v3 H2) ∨ (findBy Value.isStrOf es k = none ∧ Q v2 H2))) I ⟨g, st, env, _, rl, en, h, fun d1 st1 g1 H1 v1 s1 rl1 r1 h1 => ⟨g1, st1, env, _, rl1, en.mono s1, h1, fun d2 st2 g2 H2 v2 s2 rl2 r2 h2 => ?_⟩⟩) fun iv s2 ⟨y, H2, I2, ry, q2⟩ =>
    Calls.spliced_cons (thn (hf.run pins s2 σ H2 _ I2 q2) fun fv s3 ⟨z, H3, I3, rz, k, ey, q3⟩ => Calls.spliced_nil ?_))))
  · cases r1 with
    | str k =>
      refine ⟨k, rfl, ?_⟩
      obtain ⟨t1, t2⟩ := tabs_find (z := k) tb
      have hf : findBy Value.isStrOf es k = (es.toList.find? fun e => Value.isStrOf k e.key).map (·.val) := by
        obtain ⟨l⟩ := es
        unfold findBy
        rw [List.find?_toArray]
      rw [hf]
      cases hk : getS kvs k with
      | some dd =>
        obtain ⟨u, hu, v3, rv, rr⟩ := t1 dd hk
        have h2 : Qd ((getS kvs k).getD d2) st2 := h2
        rw [hk] at h2
        exact .inl ⟨u, v3, hu, rv, p _ _ _ _ _ (s1.trans s2) rl2 (rr _ _) h2⟩
      | none =>
        have h2 : Qd ((getS kvs k).getD d2) st2 := h2
        rw [hk] at h2
        exact .inr ⟨t2 hk, p _ _ _ _ _ (s1.trans s2) rl2 r2 h2⟩
    | _ => exact h2.elim
  · subst ey
    obtain ⟨t, rfl⟩ := (show ∃ t, iv = Value.str k t from ry)
    have mo3 := PySem.W.mapOf_K (prog := X.prog) (w := X.w) I3.kIn D.at_ D.lit
    refine call_meetsIn PySem.F.slot_dict_get mo3.typeIs PySem.F.entry_dict_get (PySem.F.args_dict_get_3 _ _ _) (meets_dict_get_default (strKind X.prog X.w) a (strKind_is X.prog X.w k t) D.low fv) ⟨_, mo3, ?_⟩
    rcases q3 with ⟨u, v3, e1, rv, q⟩ | ⟨e1, q⟩
    · rw [e1]; exact ⟨v3, H3, I3.tok _, rv, q⟩
    · rw [e1]; exact ⟨z, H3, I3.tok _, rz, q⟩

/-! ### boxes: opened at a call, closed behind it -/
def boxD (m : Nat) (now seed turn : Int) : MO := .dct [(.inr "great", .ref m), (.inr "now", .int now), (.inr "seed", .int seed), (.inr "turn", .int turn)]
theorem ints_reps {G : Gx} {g : Gh} {H : Hp} : ∀ ns : List Int, Reps G g H (ns.map V.int) (ns.map D.int)
  | [] => .nil
  | n :: r => .cons (.int n) (ints_reps r)
theorem ints_back {G : Gx} {g : Gh} {H : Hp} : ∀ {vs : List V} {ns : List Int}, Reps G g H vs (ns.map D.int) → vs = ns.map V.int
  | _, [], .nil => rfl
  | _, n :: r, .cons (.int _) t => by rw [ints_back t]; rfl
/-- the box n opened: its list the cell m -/
theorem Rel.openB {G : Gx} {g : Gh} {st : Sto} {H : Hp} (rl : Rel G g st H) {n : Nat} (h : st n = some .box) : ∃ (m : Nat) (g' : Gh) (gs : List Int) (now seed turn : Int), st m = none ∧ m ≠ n ∧ Rel G g' (sup (sup st n (boxD m now seed turn)) m (.lst (gs.map D.int))) H ∧
    (∀ v d, Rep G g H v d → Rep G g' H v d) ∧
    ∀ (gs2 : List Int) (now2 seed2 turn2 : Int) (g2 : Gh) (H2 : Hp) (st2 : Sto), st2 n = some (boxD m now2 seed2 turn2) → st2 m = some (.lst (gs2.map D.int)) → Step g' (sup (sup st n (boxD m now seed turn)) m (.lst (gs.map D.int))) H g2 st2 H2 → Rel G g2 st2 H2 →
      ∃ g3, Step g st H g3 (sdel (sup st2 n .box) m) H2 ∧ Rel G g3 (sdel (sup st2 n .box) m) H2 ∧ ∀ v d, Rep G g2 H2 v d → Rep G g3 H2 v d := by
  obtain ⟨a, ra, oa, b, gs, now, seed, turn, e1, e2, ob, nba⟩ := rl.cell n _ h
  obtain ⟨m, hm, hs⟩ := rl.fresh
  have hmn : m ≠ n := by rintro rfl; rw [hs] at h; cases h
  let g' : Gh := ⟨fun k => if k = m then some b else g.rho k, fun c => if c = b then some m else g.own c⟩
  have grm : g'.rho m = some b := by simp [g']
  have gr : ∀ k, k ≠ m → g'.rho k = g.rho k := fun k q => by simp [g', q]
  have gob : g'.own b = some m := by simp [g']
  have go : ∀ c, c ≠ b → g'.own c = g.own c := fun c q => by simp [g', q]
  let st' : Sto := sup (sup st n (boxD m now seed turn)) m (.lst (gs.map D.int))
  have sm : st' m = some (.lst (gs.map D.int)) := sup_same
  have sn : st' n = some (boxD m now seed turn) := by show sup _ m _ n = _; rw [sup_ne (Ne.symm hmn), sup_same]
  have so : ∀ k, k ≠ m → k ≠ n → st' k = st k := fun k q1 q2 => by show sup _ m _ k = _; rw [sup_ne q1, sup_ne q2]
  have s1 : Step g st H g' st' H := by
    refine ⟨fun k c e => ?_, fun k c e q => ?_, fun c o w e => ?_, fun c o _ e _ => e, fun c kv _ r => r⟩
    · rw [gr k (by rintro rfl; rw [hm] at e; cases e)]; exact e
    · rw [so k (by rintro rfl; rw [hm] at e; cases e) (by rintro rfl; rw [h] at q; cases q)]; exact q
    · exact go c (by rintro rfl; have := (w n ob).1; rw [h] at this; cases this)
  refine ⟨m, g', gs, now, seed, turn, hs, hmn, ⟨fun k mk hk => ?_, fun c k e => ?_, ?_⟩, fun v d r => r.mono s1, ?_⟩
  · by_cases k1 : k = m
    · subst k1
      rw [show sup (sup st n (boxD k now seed turn)) k (.lst (gs.map D.int)) k = _ from sm] at hk
      cases hk
      exact ⟨b, grm, gob, _, e2, ints_reps gs⟩
    · by_cases k2 : k = n
      · subst k2
        rw [show sup (sup st k (boxD m now seed turn)) m (.lst (gs.map D.int)) k = _ from sn] at hk
        cases hk
        exact ⟨a, by rw [gr k k1]; exact ra, by rw [go a (Ne.symm nba)]; exact oa, _, e1, .cons (.ref grm) (.cons (.int _) (.cons (.int _) (.cons (.int _) .nil)))⟩
      · rw [show sup (sup st n (boxD m now seed turn)) m (.lst (gs.map D.int)) k = _ from so k k1 k2] at hk
        obtain ⟨c, f1, f2, f3⟩ := rl.cell k mk hk
        have nb : ∀ c, g.own c = some k → c ≠ b := fun c hc => by rintro rfl; rw [ob] at hc; exact k2 (Option.some.inj hc).symm
        exact ⟨c, by rw [gr k k1]; exact f1, by rw [go c (nb c f2)]; exact f2, f3.mono s1 (fun _ _ => rfl) (fun c hc => by rw [go c (nb c hc)]; exact hc) f2⟩
  · by_cases hc : c = b
    · subst hc
      rw [gob] at e; cases e
      exact ⟨⟨_, e2⟩, c, grm⟩
    · rw [go c hc] at e
      obtain ⟨q1, d, q2⟩ := rl.own c k e
      exact ⟨q1, d, by rw [gr k (by rintro rfl; rw [hm] at q2; cases q2)]; exact q2⟩
  · obtain ⟨N, hN⟩ := rl.fin
    refine ⟨max N (m + 1), fun k hk => ?_⟩
    have h1 : N ≤ k := by omega
    have h2 : k ≠ m := by omega
    have h3 : k ≠ n := by rintro rfl; rw [(hN k h1).2] at h; cases h
    exact ⟨by rw [gr k h2]; exact (hN k h1).1, by rw [show sup (sup st n (boxD m now seed turn)) m (.lst (gs.map D.int)) k = _ from so k h2 h3]; exact (hN k h1).2⟩
  · intro gs2 now2 seed2 turn2 g2 H2 st2 t1 t2 s2 rl2
    have r2m : g2.rho m = some b := s2.rho m b grm
    obtain ⟨b', x1, x2, vs, x3, x4⟩ := rl2.cell m _ t2
    rw [r2m] at x1; cases x1
    cases ints_back x4
    obtain ⟨a2, y1, y2, kv, y3, y4⟩ := rl2.cell n _ t1
    let g3 : Gh := ⟨g2.rho, fun c => if c = b then some n else g2.own c⟩
    have g3b : g3.own b = some n := by simp [g3]
    have g3o : ∀ c, c ≠ b → g3.own c = g2.own c := fun c q => by simp [g3, q]
    have ab : a2 ≠ b := by rintro rfl; rw [x2] at y2; exact hmn (Option.some.inj y2)
    have s3 : Step g2 st2 H2 g3 (sdel (sup st2 n .box) m) H2 := by
      refine ⟨fun k c e => e, fun k c e q => ?_, fun c o w e => ?_, fun c o _ e _ => e, fun c kv _ r => r⟩
      · have k1 : k ≠ n := by rintro rfl; rw [t1] at q; cases q
        by_cases k2 : k = m
        · subst k2; exact sdel_same
        · rw [sdel_ne k2, sup_ne k1]; exact q
      · exact g3o c (by rintro rfl; have := (w m x2).1; rw [t2] at this; cases this)
    refine ⟨g3, (s1.trans s2).trans s3, ⟨fun k mk hk => ?_, fun c k e => ?_, ?_⟩, fun v d r => r.mono s3⟩
    · have k1 : k ≠ m := by rintro rfl; rw [sdel_same] at hk; cases hk
      rw [sdel_ne k1] at hk
      by_cases k2 : k = n
      · subst k2
        rw [sup_same] at hk; cases hk
        refine ⟨a2, y1, by rw [g3o a2 ab]; exact y2, b, gs2, now2, seed2, turn2, ?_, x3, g3b, Ne.symm ab⟩
        cases y4 with
        | cons q1 y4 =>
        cases y4 with
        | cons q2 y4 =>
        cases y4 with
        | cons q3 y4 =>
        cases y4 with
        | cons q4 y4 =>
        cases y4
        cases q2; cases q3; cases q4
        cases q1 with
        | ref q1 => rw [r2m] at q1; cases q1; exact y3
      · rw [sup_ne k2] at hk
        obtain ⟨c, f1, f2, f3⟩ := rl2.cell k mk hk
        have nb : ∀ c, g2.own c = some k → c ≠ b := fun c hc => by rintro rfl; rw [x2] at hc; exact k1 (Option.some.inj hc).symm
        exact ⟨c, f1, by rw [g3o c (nb c f2)]; exact f2, f3.mono s3 (fun _ _ => rfl) (fun c hc => by rw [g3o c (nb c hc)]; exact hc) f2⟩
    · by_cases hc : c = b
      · subst hc
        rw [g3b] at e; cases e
        exact ⟨⟨_, x3⟩, a2, y1⟩
      · rw [g3o c hc] at e
        exact rl2.own c k e
    · obtain ⟨N, hN⟩ := rl2.fin
      refine ⟨N, fun k hk => ⟨(hN k hk).1, ?_⟩⟩
      have k1 : k ≠ m := by rintro rfl; rw [(hN k hk).2] at t2; cases t2
      have k2 : k ≠ n := by rintro rfl; rw [(hN k hk).2] at t1; cases t1
      rw [sdel_ne k1, sup_ne k2]; exact (hN k hk).2
end
/-- what _law_take does, the box open -/
def spTakeO : DSp := fun ds st Q _ => ∃ (n m : Nat) (gs : List Int) (now seed turn many : Int), ds = [.ref n, .int many] ∧ 0 < many ∧ many < 1073741824 ∧ m ≠ n ∧ st n = some (boxD m now seed turn) ∧ st m = some (.lst (gs.map D.int)) ∧
  ∀ (r : Int) (gs' : List Int) (now' seed' turn' : Int), 0 ≤ r → r < many → Q (.int r) (sup (sup st m (.lst (gs'.map D.int))) n (boxD m now' seed' turn'))
/-- .. closed: any digit may come, the store is as it was -/
def spTake : DSp := fun ds st Q _ => ∃ n many, ds = [.ref n, .int many] ∧ 0 < many ∧ many < 1073741824 ∧ st n = some .box ∧ ∀ r, 0 ≤ r → r < many → Q (.int r) st
theorem take_closed {cA : Nat → Addr} {P : Program} {w : World} {K : PySem.W.Frag} {mg : Str → Option Value} {base : Heap} {k : Nat} {f : Addr} {fd : FuncData} {ps : List Str} (hl : ps.length = 2) (F : FnT cA P w K mg base k f fd ps spTakeO) : FnT cA P w K mg base k f fd ps spTake := by
  refine ⟨fun ds st Q E ⟨n, many, e, _⟩ => by rw [e, hl]; rfl, fun A outer s H args us vs Q hr hg e0 hb hv ⟨g, st, ds, Qd, rl, rs, hs, p⟩ => ?_⟩
  obtain ⟨n, many, rfl, h1, h2, h3, h4⟩ := hs
  obtain ⟨m, g', gs, now, seed, turn, q1, q2, rl', rp, back⟩ := rl.openB h3
  refine F.run A outer s H args us vs Q hr hg e0 hb hv ⟨g', _, [.ref n, .int many], fun d st2 => ∃ (r : Int) (gs2 : List Int) (now2 seed2 turn2 : Int), d = .int r ∧ 0 ≤ r ∧ r < many ∧ st2 n = some (boxD m now2 seed2 turn2) ∧ st2 m = some (.lst (gs2.map D.int)) ∧ sdel (sup st2 n .box) m = st, rl', ?_, ?_, ?_⟩
  · cases rs with
    | cons r1 t => cases t with
      | cons r2 t => cases t; exact .cons (rp _ _ r1) (.cons (rp _ _ r2) .nil)
  · refine ⟨n, m, gs, now, seed, turn, many, rfl, h1, h2, q2, by rw [sup_ne (Ne.symm q2), sup_same], sup_same, fun r gs' now' seed' turn' r1 r2 => ⟨r, gs', now', seed', turn', rfl, r1, r2, sup_same, by rw [sup_ne q2, sup_same], ?_⟩⟩
    funext k
    by_cases k1 : k = m
    · subst k1; rw [sdel_same, q1]
    · rw [sdel_ne k1]
      by_cases k2 : k = n
      · subst k2; rw [sup_same, h3]
      · rw [sup_ne k2, sup_ne k2, sup_ne k1, sup_ne k1, sup_ne k2]
  · rintro d st2 g2 H2 v s2 rl2 rv ⟨r, gs2, now2, seed2, turn2, rfl, r1, r2, e1, e2, e3⟩
    obtain ⟨g3, s3, rl3, rp3⟩ := back _ _ _ _ _ _ _ e1 e2 s2 rl2
    rw [e3] at s3 rl3
    exact p _ _ _ _ _ s3 rl3 (rp3 _ _ rv) (h4 r r1 r2)
/-- a box is made of a dict cell and a list cell -/
theorem Rel.closeB {G : Gx} {g : Gh} {st : Sto} {H : Hp} (rl : Rel G g st H) {n m : Nat} {gs : List Int} {now seed turn : Int} (hmn : m ≠ n) (t1 : st n = some (boxD m now seed turn)) (t2 : st m = some (.lst (gs.map D.int))) :
    ∃ g3, Step g st H g3 (sdel (sup st n .box) m) H ∧ Rel G g3 (sdel (sup st n .box) m) H := by
  obtain ⟨b, r2m, x2, vs, x3, x4⟩ := rl.cell m _ t2
  cases ints_back x4
  obtain ⟨a2, y1, y2, kv, y3, y4⟩ := rl.cell n _ t1
  let g3 : Gh := ⟨g.rho, fun c => if c = b then some n else g.own c⟩
  have g3b : g3.own b = some n := by simp [g3]
  have g3o : ∀ c, c ≠ b → g3.own c = g.own c := fun c q => by simp [g3, q]
  have ab : a2 ≠ b := by rintro rfl; rw [x2] at y2; exact hmn (Option.some.inj y2)
  have s3 : Step g st H g3 (sdel (sup st n .box) m) H := by
    refine ⟨fun k c e => e, fun k c e q => ?_, fun c o w e => ?_, fun c o _ e _ => e, fun c kv _ r => r⟩
    · have k1 : k ≠ n := by rintro rfl; rw [t1] at q; cases q
      by_cases k2 : k = m
      · subst k2; exact sdel_same
      · rw [sdel_ne k2, sup_ne k1]; exact q
    · exact g3o c (by rintro rfl; have := (w m x2).1; rw [t2] at this; cases this)
  refine ⟨g3, s3, ⟨fun k mk hk => ?_, fun c k e => ?_, ?_⟩⟩
  · have k1 : k ≠ m := by rintro rfl; rw [sdel_same] at hk; cases hk
    rw [sdel_ne k1] at hk
    by_cases k2 : k = n
    · subst k2
      rw [sup_same] at hk; cases hk
      refine ⟨a2, y1, by rw [g3o a2 ab]; exact y2, b, gs, now, seed, turn, ?_, x3, g3b, Ne.symm ab⟩
      cases y4 with
      | cons q1 y4 =>
      cases y4 with
      | cons q2 y4 =>
      cases y4 with
      | cons q3 y4 =>
      cases y4 with
      | cons q4 y4 =>
      cases y4
      cases q2; cases q3; cases q4
      cases q1 with
      | ref q1 => rw [r2m] at q1; cases q1; exact y3
    · rw [sup_ne k2] at hk
      obtain ⟨c, f1, f2, f3⟩ := rl.cell k mk hk
      have nb : ∀ c, g.own c = some k → c ≠ b := fun c hc => by rintro rfl; rw [x2] at hc; exact k1 (Option.some.inj hc).symm
      exact ⟨c, f1, by rw [g3o c (nb c f2)]; exact f2, f3.mono s3 (fun _ _ => rfl) (fun c hc => by rw [g3o c (nb c hc)]; exact hc) f2⟩
  · by_cases hc : c = b
    · subst hc
      rw [g3b] at e; cases e
      exact ⟨⟨_, x3⟩, a2, y1⟩
    · rw [g3o c hc] at e
      exact rl.own c k e
  · obtain ⟨N, hN⟩ := rl.fin
    refine ⟨N, fun k hk => ⟨(hN k hk).1, ?_⟩⟩
    have k1 : k ≠ m := by rintro rfl; rw [(hN k hk).2] at t2; cases t2
    have k2 : k ≠ n := by rintro rfl; rw [(hN k hk).2] at t1; cases t1
    rw [sdel_ne k1, sup_ne k2]; exact (hN k hk).2
/-- what _law_box does, ahead of the closing -/
def spBoxO : DSp := fun ds st Q _ => ∃ ns base, ds = [.scr ns, .int base] ∧ 0 ≤ base ∧ base ≤ 100 ∧ ∀ (n m : Nat) (gs : List Int) (now seed turn : Int), st n = none → st m = none → m ≠ n → Q (.ref n) (sup (sup st m (.lst (gs.map D.int))) n (boxD m now seed turn))
def spBox : DSp := fun ds st Q _ => ∃ ns base, ds = [.scr ns, .int base] ∧ 0 ≤ base ∧ base ≤ 100 ∧ ∀ n, st n = none → Q (.ref n) (sup st n .box)
theorem box_closed {cA : Nat → Addr} {P : Program} {w : World} {K : PySem.W.Frag} {mg : Str → Option Value} {base : Heap} {k : Nat} {f : Addr} {fd : FuncData} {ps : List Str} (hl : ps.length = 2) (F : FnT cA P w K mg base k f fd ps spBoxO) : FnT cA P w K mg base k f fd ps spBox := by
  refine ⟨fun ds st Q E ⟨n, many, e, _⟩ => by rw [e, hl]; rfl, fun A outer s H args us vs Q hr hg e0 hb hv ⟨g, st, ds, Qd, rl, rs, hs, p⟩ => ?_⟩
  obtain ⟨ns, b0, rfl, h1, h2, h4⟩ := hs
  refine F.run A outer s H args us vs Q hr hg e0 hb hv ⟨g, st, _, fun d st2 => ∃ (n m : Nat) (gs : List Int) (now seed turn : Int), d = .ref n ∧ st n = none ∧ st m = none ∧ m ≠ n ∧ st2 = sup (sup st m (.lst (gs.map D.int))) n (boxD m now seed turn), rl, rs, ⟨ns, b0, rfl, h1, h2, fun n m gs now seed turn e1 e2 e3 => ⟨n, m, gs, now, seed, turn, rfl, e1, e2, e3, rfl⟩⟩, ?_⟩
  rintro d st2 g2 H2 v s2 rl2 rv ⟨n, m, gs, now, seed, turn, rfl, e1, e2, e3, rfl⟩
  obtain ⟨g3, s3, rl3⟩ := rl2.closeB (n := n) (m := m) (gs := gs) e3 sup_same (by rw [sup_ne e3, sup_same])
  have e : sdel (sup (sup (sup st m (.lst (gs.map D.int))) n (boxD m now seed turn)) n .box) m = sup st n .box := by
    funext k
    by_cases k1 : k = m
    · subst k1; rw [sdel_same, sup_ne e3, e2]
    · rw [sdel_ne k1]
      by_cases k2 : k = n
      · subst k2; rw [sup_same, sup_same]
      · rw [sup_ne k2, sup_ne k2, sup_ne k1, sup_ne k2]
  rw [e] at s3 rl3
  exact p _ _ _ _ _ (s2.trans s3) rl3 (rv.mono s3) (h4 n e1)
end TL
namespace TL
open PySem PySem.Spec PyProof.Rows L2
/-! ### a def as the top has written it; a def with its promise -/
structure FnW (K : PySem.W.Frag) (mg : Str → Option Value) (x : Str) (st : Stmt) (ps : List Str) : Prop where
  ex : ∃ (f : Addr) (fd : FuncData), Fun K x x st f fd ∧ mg x = some (.ref f) ∧ ∀ us : List Value, us.length = ps.length → bindArgs fd ⟨us, []⟩ = pure (ps.zip us)
structure Cal (cA : Nat → Addr) (P : Program) (w : World) (K : PySem.W.Frag) (mg : Str → Option Value) (base : Heap) (k : Nat) (x : Str) (ps : List Str) (sp : DSp) : Prop where
  ex : ∃ (f : Addr) (fd : FuncData), FnT cA P w K mg base k f fd ps sp ∧ mg x = some (.ref f) ∧ PySem.W.keepIn K (.ref f) = true ∧ Binds K fd ps []
section
variable {cA : Nat → Addr} {P : Program} {w : World} {K : PySem.W.Frag} {mg : Str → Option Value} {base h : Heap}
theorem fnw_mk {x : Str} {st : Stmt} {ps : List Str} {f : Addr} {oc : Value} {od an : Option Addr} {osl : Array (Option Value)} {kV doc pm cdv ct : Value} (X : K.In h) (G : h.Ns mainGlobals mg) (a : PySem.W.nsIn K mainGlobals x = some (some (.ref f)))
    (l : K.lookup f = some ⟨oc, od, .func (PySem.W.fnOf x x (defArgs st) (defBody st) (defScope st) .none kV doc pm an cdv ct), osl⟩) (c : PySem.W.codeIn K cdv x = true) (k : PySem.W.keepIn K (.ref f) = true)
    (hb : ∀ (kV doc pm : Value) (an : Option Addr) (cdv ct : Value) (us : List Value), us.length = ps.length → bindArgs (PySem.W.fnOf x x (defArgs st) (defBody st) (defScope st) .none kV doc pm an cdv ct) ⟨us, []⟩ = pure (ps.zip us)) : FnW K mg x st ps :=
  ⟨f, _, fun_mk l c k, PySem.W.mg_of X G a, hb kV doc pm an cdv ct⟩
theorem Cal.mono {j k : Nat} {x : Str} {ps : List Str} {sp : DSp} (C : Cal cA P w K mg base j x ps sp) (h : j ≤ k) : Cal cA P w K mg base k x ps sp := let ⟨f, fd, a, b⟩ := C.ex; ⟨f, fd, a.mono h, b⟩
theorem Cal.imp {k : Nat} {x : Str} {ps : List Str} {sp sp' : DSp} (C : Cal cA P w K mg base k x ps sp) (h : ∀ ds st Q E, sp' ds st Q E → sp ds st Q E) : Cal cA P w K mg base k x ps sp' := let ⟨f, fd, a, b⟩ := C.ex; ⟨f, fd, a.imp h, b⟩
theorem Cal.take {k : Nat} {x : Str} {ps : List Str} (C : Cal cA P w K mg base k x ps spTakeO) (hl : ps.length = 2) : Cal cA P w K mg base k x ps spTake := let ⟨f, fd, a, b⟩ := C.ex; ⟨f, fd, take_closed hl a, b⟩
theorem Cal.box {k : Nat} {x : Str} {ps : List Str} (C : Cal cA P w K mg base k x ps spBoxO) (hl : ps.length = 2) : Cal cA P w K mg base k x ps spBox := let ⟨f, fd, a, b⟩ := C.ex; ⟨f, fd, box_closed hl a, b⟩
/-- a def's body as a term -/
abbrev BodyD (cA : Nat → Addr) (P : Program) (w : World) (K : PySem.W.Frag) (mg : Str → Option Value) (base : Heap) (k : Nat) (x : Str) (st : Stmt) (N : List Str) (tb : TDS) : Prop :=
  ∀ (f : Addr) (cdv : Value) (A : Around) (outer : List Env) (s : Shared) (H : Hp), Room k (A.deeper (envOfC x (defScope st) s.heap.objs.size f cdv)) → (A.deeper (envOfC x (defScope st) s.heap.objs.size f cdv)).guards = some [] →
    DSs cA (cxOf CX0 P w K mg base N x (defScope st) f cdv A outer s H E0).nox (defBody st) tb
theorem FnW.cal {k : Nat} {x : Str} {st : Stmt} {N ps : List Str} {sp : DSp} {tb : TDS} (W : FnW K mg x st ps) (S : FnScope N ps (defScope st)) (len : ∀ ds st Q E, sp ds st Q E → ds.length = ps.length) (hd : BodyD cA P w K mg base k x st N tb)
    (hb : ∀ ds s0 Q, sp ds s0 Q (fun _ _ _ => False) → tb (ends Q) (startD N ds) s0) : Cal cA P w K mg base (k + 1) x ps sp := by
  obtain ⟨f, fd, F, hm, hbd⟩ := W.ex
  exact ⟨f, fd, fn F S len (fun cdv A outer s H hr hg => hd f cdv A outer s H hr hg) hb, hm, F.kp, .all hbd⟩
end
section
variable {X : Cx} {cA : Nat → Addr} {k : Nat} {ps : List Str} {sp : DSp} {x : Str} {p pos : Pos} {e : Expr} {es : List Expr} {t : TDA}
theorem dc_call (C : Cal cA X.prog X.w X.K X.mg X.base k x ps sp) (hr : Room k X.A) (hgd : X.A.guards = some []) (hg : Gl X x)
    (ha : DA cA X (e :: es) t) (hdb : (x == ("__debug__" : Str)) = false := by decide) (he : starEach (e :: es) X.env = (false, eval e X.env) :: starEach es X.env := by rfl) (hpl : (backTo pos (starEach es X.env)).any (·.1) = false := by rfl) :
    DE cA X (.Call (.Name x p) (e :: es) [] pos) (dCall sp t) := by
  obtain ⟨f, fd, F, hm, hk, hb⟩ := C.ex
  exact dt_call F hr hgd hg hm hk hb ha hdb he hpl
theorem dc_call0 (C : Cal cA X.prog X.w X.K X.mg X.base k x ps sp) (hr : Room k X.A) (hgd : X.A.guards = some []) (hg : Gl X x) (hdb : (x == ("__debug__" : Str)) = false := by decide) : DE cA X (.Call (.Name x p) [] [] pos) (dCall sp dNil) := by
  obtain ⟨f, fd, F, hm, hk, hb⟩ := C.ex
  exact dt_call0 F hr hgd hg hm hk hb hdb
end
section
variable {X : Cx} {cA : Nat → Addr}
def rdRevM : RD1 := fun x st Q => match look st x with
  | .lst ds => ∀ n, st n = none → Q (.ref n) (sup st n (.lst ds.reverse))
  | _ => False
theorem de_revM {e : Expr} {te : TDE} {k : Nat} {p1 p2 p3 pos : Pos} (he : DE cA X e te) : DE cA X (.Subscript e (.Slice none none (some (.UnaryOp .USub (.Constant (.int 1) k p1) p2)) p3) pos) (dUn rdRevM te) :=
  pe_weak (pe_revL he) fun σ H Q ⟨g, st, env, Qd, rl, en, h, p⟩ => ⟨g, st, env, _, rl, en, h, fun d st1 g1 H1 v s1 rl1 r1 h1 => by
    unfold rdRevM at h1
    split at h1
    · rename_i ds ex
      obtain ⟨a, vs, rfl, e1, rs⟩ := see_lst rl1 r1 ex
      exact ⟨a, vs, rfl, .of e1, lay_cell rl1 rs.reverse (p.step s1) h1⟩
    · exact h1.elim⟩
def rdSub : RD2 := rdI (fun _ _ => True) fun i j => .int (i - j)
def rdFdiv : RD2 := rdI CDiv fun i j => .int (i / j)
def rdMod : RD2 := rdI (fun _ j => 0 < j) fun i j => .int (i % j)
def rdPow : RD2 := rdI CPow fun i j => .int (i ^ j.toNat)
def rdLt : RD2 := rdI (fun _ _ => True) fun i j => .bl (decide (i < j))
def rdLe : RD2 := rdI (fun _ _ => True) fun i j => .bl (decide (i ≤ j))
def rdGt : RD2 := rdI (fun _ _ => True) fun i j => .bl (decide (j < i))
def rdGe : RD2 := rdI (fun _ _ => True) fun i j => .bl (decide (j ≤ i))
def rdAbs : List D → Sto → QD → Prop := rdI1 fun i => if i < 0 then -i else i
def rdMax : List D → Sto → QD → Prop := rdI2 fun i j => if j > i then j else i
def rdMin : List D → Sto → QD → Prop := rdI2 fun i j => if j < i then j else i
theorem hu1 {A : Around} {k : Nat} (hr : Room k A) : A.units + 1 < cLine := by have := hr.un; omega
theorem hu64 {A : Around} {k : Nat} (hr : Room k A) : A.units + 64 < cLine := by have := hr.un; omega
theorem hu65 {A : Around} {k : Nat} (hr : Room k A) : A.units + 65 < cLine := by have := hr.un; omega
theorem hu70 {A : Around} {k : Nat} (hr : Room k A) : A.units + 70 < cLine := by have := hr.un; omega
end
end TL
namespace TL
open PySem PySem.Spec PyProof.Rows L2
section
variable {cA : Nat → Addr} {P : Program} {w : World} {K : PySem.W.Frag} {mg : Str → Option Value} {base h : Heap}
/-- a promise that is never asked for -/
theorem FnW.bot {x : Str} {st : Stmt} {ps : List Str} (W : FnW K mg x st ps) : Cal cA P w K mg base 0 x ps (fun _ _ _ _ => False) := by
  obtain ⟨f, fd, F, hm, hbd⟩ := W.ex
  exact ⟨f, fd, ⟨fun _ _ _ _ h => h.elim, fun A outer s H args us vs Q hr hg e0 hb hv ⟨_, _, _, _, _, _, h, _⟩ => h.elim⟩, hm, F.kp, .all hbd⟩
theorem law_fin {k : Nat} {N : List Str} {x : Str} {st : Stmt} {sp : DSp} {tb : TDS} {fa : Addr} (W : FnW K mg "law" st [x]) (hfa : mg "law" = some (.ref fa)) (S : FnScope N [x] (defScope st)) (len : ∀ ds st Q E, sp ds st Q E → ds.length = [x].length)
    (hd : ∀ base, BodyD cA P w K mg base k "law" st N tb) (hb : ∀ ds s0 Q, sp ds s0 Q (fun _ _ _ => False) → tb (ends Q) (startD N ds) s0) :
    ∃ (fd : FuncData) (cA : Nat → Addr), (∀ (s : Shared) (u : Value), BindsTo s fd ⟨[u], []⟩ [(x, u)]) ∧ ∀ base : Heap, K.In base → base.Ns mainGlobals mg → FnT cA P w K mg base (k + 1) fa fd [x] sp := by
  obtain ⟨f, fd, F, hm, hbd⟩ := W.ex
  have e := hfa.symm.trans hm
  cases e
  exact ⟨fd, cA, fun s u => .of_eq (hbd [u] rfl), fun base _ _ => fn F S len (fun cdv A outer s H hr hg => hd base fa cdv A outer s H hr hg) hb⟩
theorem ktab_mk {a : Addr} {kvs : List (Str × D)} {es : Array DictEntry} {n : Nat} (h1 : K.lookup a = some ⟨.type "dict", none, .dict es n, #[]⟩) (h2 : (a == sysModules) = false) (h3 : PySem.W.KeysLit w.params es.toList) (h4 : tabs K cA es.toList kvs) : KTab K cA w a kvs := ⟨es, n, ⟨h1, h3, h2⟩, h4⟩
theorem lit_cons {P : Params} {e : DictEntry} {r : List DictEntry} (h : ∃ x t, e.key = .str x t ∧ e.hash = PyData.keyHash P x) (hr : PySem.W.KeysLit P r) : PySem.W.KeysLit P (e :: r) := ⟨h, hr⟩
theorem tab_str {e : DictEntry} {es : List DictEntry} {x y : Str} {r : List (Str × D)} (hk : ∃ t, e.key = .str x t) (hv : ∃ t, e.val = .str y t) (h : tabs K cA es r) : tabs K cA (e :: es) ((x, .str y) :: r) := ⟨hk, let ⟨t, ht⟩ := hv; ⟨.str y, ⟨t, ht⟩, fun _ _ => .str y⟩, h⟩
end
end TL
namespace TL
open PySem PySem.Spec PyProof.Rows L2
/-! ### readings in normal form -/
def onS {α : Type} (o : Option α) (P : α → Prop) : Prop := match o with
  | some d => P d
  | none => False
theorem onS_some {α : Type} {d : α} {P : α → Prop} : onS (some d) P = P d := rfl
theorem onS_none {α : Type} {P : α → Prop} : onS none P = False := rfl
theorem onS_of {α : Type} {o : Option α} {d : α} {P : α → Prop} (e : o = some d) (h : P d) : onS o P := by rw [e]; exact h
theorem onS_ex {α : Type} {o : Option α} {P : α → Prop} : (∃ d, o = some d ∧ P d) = onS o P := by
  apply propext
  constructor
  · rintro ⟨d, e, h⟩; exact onS_of e h
  · intro h
    cases o with
    | none => exact h.elim
    | some d => exact ⟨d, rfl, h⟩
theorem rdIx_nf (x y : D) (st : Sto) (Q : QD) : rdIx x y st Q = (match look st x, y with
  | .lst ds, .int i => onS (atI ds i) fun d => Q d st
  | .tup ds, .int i => onS (atI ds i) fun d => Q d st
  | .str z, .int i => z.length ≤ sizeLine ∧ onS (atI z.cps.toList i) fun c => Q (.str ⟨#[c]⟩) st
  | .dct kd, k => onS (keyOf k) fun key => onS (getK kd key) fun d => Q d st
  | _, _ => False) := by
  have h : ∀ (kd : List (Key × D)) (k : D), (∃ key d, keyOf k = some key ∧ getK kd key = some d ∧ Q d st) = onS (keyOf k) fun key => onS (getK kd key) fun d => Q d st := fun kd k => by
    rw [← onS_ex]
    apply propext
    constructor
    · rintro ⟨a, b, h1, h2, h3⟩; exact ⟨a, h1, onS_of h2 h3⟩
    · rintro ⟨a, h1, h2⟩
      rw [← onS_ex] at h2
      obtain ⟨b, h2, h3⟩ := h2
      exact ⟨a, b, h1, h2, h3⟩
  unfold rdIx
  simp only [onS_ex, h]
  try rfl
theorem dPutS_nf (td ty tv : TDE) (D' : DEnds) (env : DSt) (st : Sto) : dPutS td ty tv D' env st = tv env st fun v st1 => td env st1 fun x st2 => ty env st2 fun y st3 => (match x with
  | .ref n => (match st3 n with
    | some (.dct kd) => onS (keyOf y) fun key => kd.length < sizeLine ∧ D'.nx env (sup st3 n (.dct (setK kd key v)))
    | _ => False)
  | _ => False) := by
  unfold dPutS
  simp only [onS_ex]
  try rfl
theorem isL_ref {st : Sto} {n : Nat} {xs : List D} (h : st n = some (.lst xs)) : isL st (.ref n) := by unfold isL look; simp only [h]
theorem isL_lst {st : Sto} {xs : List D} : isL st (.lst xs) := trivial
theorem cellL_ref {st : Sto} {n : Nat} {xs : List D} {k : Nat → List D → Prop} (h : st n = some (.lst xs)) : cellL st (.ref n) k = k n xs := by unfold cellL; simp only [h]
theorem look_lst {st : Sto} {n : Nat} {xs : List D} (h : st n = some (.lst xs)) : look st (.ref n) = .lst xs := by unfold look; simp only [h]
theorem look_dct {st : Sto} {n : Nat} {xs : List (Key × D)} (h : st n = some (.dct xs)) : look st (.ref n) = .dct xs := by unfold look; simp only [h]
theorem look_box {st : Sto} {n : Nat} (h : st n = some .box) : look st (.ref n) = .ref n := by unfold look; simp only [h]
theorem sb {st : Sto} {Q : QD} {d : D} (h : Q d st) : ∃ st', Sub st' st ∧ Q d st' := ⟨st, Sub.refl st, h⟩
theorem ends_rt {Q : QD} {d : D} {st : Sto} : (ends Q).rt d st = ∃ st', Sub st' st ∧ Q d st' := rfl
theorem sup_comm {st : Sto} {n m : Nat} {x y : MO} (h : n ≠ m) : sup (sup st n x) m y = sup (sup st m y) n x := by
  funext k
  by_cases k1 : k = n
  · subst k1; rw [sup_same, sup_ne h, sup_same]
  · by_cases k2 : k = m
    · subst k2; rw [sup_same, sup_ne k1, sup_same]
    · rw [sup_ne k1, sup_ne k2, sup_ne k2, sup_ne k1]
theorem sup_id {st : Sto} {n : Nat} {x : MO} (h : st n = some x) : sup st n x = st := by
  funext k
  by_cases k1 : k = n
  · subst k1; rw [sup_same, h]
  · rw [sup_ne k1]
theorem popAt_of {st : Sto} {l : Nat} {xs : List D} {r : Int} {y : D} {Q : QD} (e : st l = some (.lst xs)) (h0 : 0 ≤ r) (h1 : r < 2 ^ 63) (hx : xs[r.toNat]? = some y) (q : Q y (sup st l (.lst (xs.eraseIdx r.toNat)))) : rdPopAt (.ref l) [.int r] st Q := by
  unfold rdPopAt
  rw [cellL_ref e]
  exact ⟨y, h0, h1, hx, q⟩
theorem pop_of {st : Sto} {l : Nat} {xs : List D} {y : D} {Q : QD} (e : st l = some (.lst (xs ++ [y]))) (q : Q y (sup st l (.lst xs))) : rdPop (.ref l) [] st Q := by
  unfold rdPop
  rw [cellL_ref e]
  exact ⟨y, by simp, rfl, by simpa using q⟩
theorem append_of {st : Sto} {l : Nat} {xs : List D} {y : D} {Q : QD} (e : st l = some (.lst xs)) (hz : xs.length < sizeLine) (q : Q .non (sup st l (.lst (xs ++ [y])))) : rdAppend (.ref l) [y] st Q := by
  unfold rdAppend
  rw [cellL_ref e]
  exact ⟨hz, q⟩
theorem extend_of {st : Sto} {l : Nat} {xs ys : List D} {d : D} {Q : QD} (e : st l = some (.lst xs)) (ed : look st d = .lst ys) (hz : xs.length + ys.length ≤ sizeLine) (q : Q .non (sup st l (.lst (xs ++ ys)))) : rdExtend (.ref l) [d] st Q := by
  unfold rdExtend
  rw [cellL_ref e]
  simp only [ed]
  exact ⟨hz, q⟩
theorem rangeD_succ (i : Int) (k : Nat) : rangeD i (k + 1) = .int i :: rangeD (i + 1) k := by
  unfold rangeD
  rw [List.range_succ_eq_map, List.map_cons, List.map_map]
  congr 1
  · simp
  · apply List.map_congr_left
    intro a _
    simp only [Function.comp]
    congr 1
    rw [Int.add_assoc, Int.add_comm 1]
    rfl
theorem rangeD_zero (i : Int) : rangeD i 0 = [] := rfl
end TL
namespace TL
open PySem PySem.Spec PyProof.Rows L2
def t__law_take_r5 : TDS :=
  (dRet (dOp rdMod (dOp rdFdiv (dOp rdAdd (dOp rdMul (dVar 3) (dC (.int 30269))) (dOp rdIx (dVar 0) (dC (.str "seed")))) (dC (.int 4099))) (dVar 1)))
def t__law_take_r4 : TDS :=
  (dSeq (dPutS (dVar 0) (dC (.str "seed")) (dOp rdAdd (dOp rdMod (dOp rdAdd (dVar 3) (dOp rdMul (dC (.int 3)) (dOp rdIx (dVar 0) (dC (.str "seed"))))) (dC (.int 2147483629))) (dC (.int 1))))
  (t__law_take_r5))
def t__law_take_r3 : TDS :=
  (dSeq (dAsg 3 (dOp rdMod (dOp rdMul (dOp rdMod (dOp rdAdd (dOp rdIx (dVar 0) (dC (.str "seed"))) (dOp rdMul (dC (.int 69623)) (dOp rdIx (dVar 0) (dC (.str "turn"))))) (dC (.int 2147483647))) (dC (.int 16807))) (dC (.int 2147483647))))
  (t__law_take_r4))
def t__law_take_r2 : TDS :=
  (dSeq (dPutS (dVar 0) (dC (.str "turn")) (dOp rdAdd (dOp rdIx (dVar 0) (dC (.str "turn"))) (dC (.int 1))))
  (t__law_take_r3))
def t__law_take_r1 : TDS :=
  (dSeq (dIfS (dTst (dOp rdGt (dOp rdIx (dVar 0) (dC (.str "now"))) (dC (.int 0))))
  (dSeq (dAsg 2 (dOp rdMod (dOp rdIx (dVar 0) (dC (.str "now"))) (dVar 1)))
  (dSeq (dPutS (dVar 0) (dC (.str "now")) (dOp rdFdiv (dOp rdIx (dVar 0) (dC (.str "now"))) (dVar 1)))
  (dRet (dVar 2))))
  dNext)
  (t__law_take_r2))
def t__law_take : TDS :=
  (dSeq (dIfS (dAnd (dTst (dOp (rdEq false) (dOp rdIx (dVar 0) (dC (.str "now"))) (dC (.int 0)))) (dTst (dOp rdGt (dCB rdLen (dCons (dOp rdIx (dVar 0) (dC (.str "great"))) dNil)) (dC (.int 0)))))
  (dPutS (dVar 0) (dC (.str "now")) (dMt0 rdPop (dOp rdIx (dVar 0) (dC (.str "great")))))
  dNext)
  (t__law_take_r1))
theorem st__law_take (ds : List D) : startD ["_law_box_here", "_law_many", "_law_digit", "_law_one"] ds = ds.map some ++ List.replicate (4 - ds.length) none := rfl
def t__law_box_b1 : TDS :=
  (dAsg 2 (dOp rdMod (dOp rdAdd (dOp rdAdd (dOp rdMul (dVar 2) (dC (.int 48271))) (dOp rdMod (dCB rdAbs (dCons (dVar 3) dNil)) (dC (.int 2147483629)))) (dC (.int 29))) (dC (.int 2147483647))))
def t__law_box_r3 : TDS :=
  (dRet (dDispM (dpCons (.inr "great") (dUn rdRevM (dVar 4)) (dpCons (.inr "now") (dC (.int 0)) (dpCons (.inr "seed") (dOp rdAdd (dVar 2) (dC (.int 1))) (dpCons (.inr "turn") (dC (.int 0)) dpNil))))))
def t__law_box_r2 : TDS :=
  (dSeq (dAsg 4 (dLc (dIt (dSl (dVar 0) (dPart (dVar 1)) (dPart (dC (.int 50))))) (gNm 3) (dTst (dOp rdGe (dCB rdAbs (dCons (dVar 3) dNil)) (dOp rdPow (dC (.int 10)) (dC (.int 18))))) (dCB rdAbs (dCons (dVar 3) dNil)) [3]))
  (t__law_box_r3))
def t__law_box_r1 : TDS :=
  (dSeq (dFor (dIt (dSl (dVar 0) dNoPart (dPart (dC (.int 50))))) (gNm 3)
  (t__law_box_b1))
  (t__law_box_r2))
def t__law_box : TDS :=
  (dSeq (dAsg 2 (dOp rdAdd (dC (.int 9001)) (dOp rdMul (dC (.int 307)) (dVar 1))))
  (t__law_box_r1))
theorem st__law_box (ds : List D) : startD ["_law_script", "_law_base", "_law_seed", "_law_cell", "_law_great"] ds = ds.map some ++ List.replicate (5 - ds.length) none := rfl
def t__law_pick (_law_take : DSp) : TDS :=
  (dRet (dOp rdIx (dVar 1) (dCall _law_take (dCons (dVar 0) (dCons (dCB rdLen (dCons (dVar 1) dNil)) dNil)))))
theorem st__law_pick (ds : List D) : startD ["_law_box_here", "_law_items"] ds = ds.map some ++ List.replicate (2 - ds.length) none := rfl
def t__law_mixed_b1 (_law_take : DSp) : TDS :=
  (dDrop (dMt rdAppend (dVar 3) (dCons (dMt rdPopAt (dVar 2) (dCons (dCall _law_take (dCons (dVar 0) (dCons (dCB rdLen (dCons (dVar 2) dNil)) dNil))) dNil)) dNil)))
def t__law_mixed_r2 (_law_take : DSp) : TDS :=
  (dRet (dFrz (dVar 3)))
def t__law_mixed_r1 (_law_take : DSp) : TDS :=
  (dSeq (dFor (dRg1 (dCB rdLen (dCons (dVar 2) dNil))) (gNm 4)
  (t__law_mixed_b1 _law_take))
  (t__law_mixed_r2 _law_take))
def t__law_mixed (_law_take : DSp) : TDS :=
  (dSeq (dPar 2 3 (dCons (dCB rdListM (dCons (dVar 1) dNil)) (dCons (dLstM dNil) dNil)))
  (t__law_mixed_r1 _law_take))
theorem st__law_mixed (ds : List D) : startD ["_law_box_here", "_law_items", "_law_left", "_law_found", "_law_turn"] ds = ds.map some ++ List.replicate (5 - ds.length) none := rfl
/-! the box's keys -/
section
variable {a b c d e : D}
theorem bx1 : getK [(.inr "great", a), (.inr "now", b), (.inr "seed", c), (.inr "turn", d)] (.inr "great") = some a := by rfl
theorem bx2 : getK [(.inr "great", a), (.inr "now", b), (.inr "seed", c), (.inr "turn", d)] (.inr "now") = some b := by rfl
theorem bx3 : getK [(.inr "great", a), (.inr "now", b), (.inr "seed", c), (.inr "turn", d)] (.inr "seed") = some c := by rfl
theorem bx4 : getK [(.inr "great", a), (.inr "now", b), (.inr "seed", c), (.inr "turn", d)] (.inr "turn") = some d := by rfl
theorem by2 : setK [(.inr "great", a), (.inr "now", b), (.inr "seed", c), (.inr "turn", d)] (.inr "now") e = [(.inr "great", a), (.inr "now", e), (.inr "seed", c), (.inr "turn", d)] := by rfl
theorem by3 : setK [(.inr "great", a), (.inr "now", b), (.inr "seed", c), (.inr "turn", d)] (.inr "seed") e = [(.inr "great", a), (.inr "now", b), (.inr "seed", e), (.inr "turn", d)] := by rfl
theorem by4 : setK [(.inr "great", a), (.inr "now", b), (.inr "seed", c), (.inr "turn", d)] (.inr "turn") e = [(.inr "great", a), (.inr "now", b), (.inr "seed", c), (.inr "turn", e)] := by rfl
end
theorem rd_take {n m : Nat} {gs : List Int} {now seed turn many : Int} {st : Sto} {Q : QD} (h1 : 0 < many) (h2 : many < 1073741824) (hmn : m ≠ n) (hn : st n = some (boxD m now seed turn)) (hm : st m = some (.lst (gs.map D.int)))
    (q : ∀ (r : Int) (gs' : List Int) (now' seed' turn' : Int), 0 ≤ r → r < many → Q (.int r) (sup (sup st m (.lst (gs'.map D.int))) n (boxD m now' seed' turn'))) :
    t__law_take (ends Q) [some (.ref n), some (.int many), none, none] st := by
  -- behind the first if: the box, whatever stands in it
  have rest : ∀ (gs : List Int) (now : Int) (st : Sto), st n = some (boxD m now seed turn) → st m = some (.lst (gs.map D.int)) → (∀ (r : Int) (now' seed' turn' : Int), 0 ≤ r → r < many → Q (.int r) (sup st n (boxD m now' seed' turn'))) →
    t__law_take_r1 (ends Q) [some (.ref n), some (.int many), none, none] st := by
    intro gs now st hn hm q
    simp only [t__law_take_r1, t__law_take_r2, t__law_take_r3, t__law_take_r4, t__law_take_r5, dSeq, dAsg, dVar, dC, dCall, dCons, dNil, dOp, dUn, dTup, dLst, dLstM, dRet, dRetN, dNext, dDrop, dIfS, dTst, dAnd, dOr, dNot, dAndV, dOrV, dNotV, dIf, dPar, dPar3, dAsgG, gNm, gTp, gsCons, gsNil, dCB, dMt, dMt0, dSl, dPart, dNoPart, dKGet, dGet2, dDisp, dDispM, dpCons, dpNil, dFrz, dYes, rdSub, rdFdiv, rdMod, rdPow, rdLt, rdLe, rdGt, rdGe, rdAbs, rdMax, rdMin, rdI, rdI1, rdI2, rdNeg, rdInt, List.set_cons_zero, List.set_cons_succ, List.getElem?_cons_zero, List.getElem?_cons_succ, dPutS_nf, rdIx_nf, rdAdd, rdMul, look, hn, boxD, keyOf, bx1, bx2, bx3, bx4, by2, by3, by4, onS_some, sup_same, sup_sup, true_and]
    have s4 : ([(Sum.inr "great", D.ref m), (Sum.inr "now", D.int now), (Sum.inr "seed", D.int seed), (Sum.inr "turn", D.int turn)] : List (Key × D)).length < sizeLine := small1000 (by show 4 ≤ 1000; decide)
    have m1 : CMul 69623 (turn + 1) := .inl (by decide)
    have m2 : ∀ a, CMul a 16807 := fun a => .inr (by decide)
    have m3 : ∀ a, CMul a 30269 := fun a => .inr (by decide)
    have m4 : CMul 3 seed := .inl (by decide)
    split
    · exact ⟨h1, ⟨h1, h2⟩, s4, sb (q _ _ _ _ (Int.emod_nonneg _ (by omega)) (Int.emod_lt_of_pos _ h1))⟩
    · exact ⟨s4, m1, by decide, m2 _, by decide, m4, by decide, s4, m3 _, ⟨by decide, by decide⟩, h1, sb (q _ _ _ _ (Int.emod_nonneg _ (by omega)) (Int.emod_lt_of_pos _ h1))⟩
  simp only [t__law_take, dSeq, dAsg, dVar, dC, dCall, dCons, dNil, dOp, dUn, dTup, dLst, dLstM, dRet, dRetN, dNext, dDrop, dIfS, dTst, dAnd, dOr, dNot, dAndV, dOrV, dNotV, dIf, dPar, dPar3, dAsgG, gNm, gTp, gsCons, gsNil, dCB, dMt, dMt0, dSl, dPart, dNoPart, dKGet, dGet2, dDisp, dDispM, dpCons, dpNil, dFrz, dYes, rdSub, rdFdiv, rdMod, rdPow, rdLt, rdLe, rdGt, rdGe, rdAbs, rdMax, rdMin, rdI, rdI1, rdI2, rdNeg, rdInt, List.set_cons_zero, List.set_cons_succ, List.getElem?_cons_zero, List.getElem?_cons_succ, dPutS_nf, rdIx_nf, rdEq, rdLen, look, hn, hm, boxD, keyOf, bx1, bx2, onS_some, true_and]
  have r0 := rest gs now st hn hm fun r now' seed' turn' a b => by
    have := q r gs now' seed' turn' a b
    rw [sup_id hm] at this
    exact this
  split
  · split
    · rename_i hnow hlen
      have hg : gs ≠ [] := by rintro rfl; simp at hlen
      refine ⟨isL_ref hm, ?_⟩
      unfold rdPop
      rw [cellL_ref hm]
      refine ⟨.int (gs.getLast hg), ?_, rfl, ?_⟩
      · rw [List.length_map, List.getElem?_map, ← List.getLast?_eq_getElem?, List.getLast?_eq_getLast hg]; rfl
      · have en : sup st m (.lst (gs.map D.int).dropLast) n = some (boxD m now seed turn) := by rw [sup_ne (Ne.symm hmn)]; exact hn
        simp only [en, boxD, by2]
        refine ⟨small1000 (by show 4 ≤ 1000; decide), ?_⟩
        rw [← List.map_dropLast]
        refine rest gs.dropLast (gs.getLast hg) _ sup_same (by rw [sup_ne hmn, sup_same]) fun r now' seed' turn' a b => ?_
        rw [sup_sup]
        exact q r gs.dropLast now' seed' turn' a b
    · exact r0
  · exact r0
/-! ### _law_box -/
theorem ints_items (ns : List Int) : ∀ lo hi, cutD (ns.map D.int) lo hi = (cutD ns lo hi).map D.int := fun lo hi => by
  unfold cutD
  simp [List.map_drop, List.map_take]
theorem box_loop {s b : D} {st : Sto} {R : DEnds} : ∀ (ns : List Int) (seed : Int) (c : Option D) (e : Option D), (∀ seed c e, R.nx [some s, some b, some (.int seed), c, e] st) →
    dLoop (gNm 3) t__law_box_b1 R (ns.map D.int) [some s, some b, some (.int seed), c, e] st
  | [], seed, c, e, h => h seed c e
  | n :: ns, seed, c, e, h => by
    simp only [List.map_cons, dLoop, t__law_box_b1, dSeq, dAsg, dVar, dC, dCall, dCons, dNil, dOp, dUn, dTup, dLst, dLstM, dRet, dRetN, dNext, dDrop, dIfS, dTst, dAnd, dOr, dNot, dAndV, dOrV, dNotV, dIf, dPar, dPar3, dAsgG, gNm, gTp, gsCons, gsNil, dCB, dMt, dMt0, dSl, dPart, dNoPart, dKGet, dGet2, dDisp, dDispM, dpCons, dpNil, dFrz, dYes, rdSub, rdFdiv, rdMod, rdPow, rdLt, rdLe, rdGt, rdGe, rdAbs, rdMax, rdMin, rdI, rdI1, rdI2, rdNeg, rdInt, List.set_cons_zero, List.set_cons_succ, List.getElem?_cons_zero, List.getElem?_cons_succ, rdAdd, rdMul, look]
    exact ⟨.inr (by decide), by decide, by decide, box_loop ns _ _ _ h⟩
theorem box_comp {st : Sto} {env : DSt} {Q : List D → Sto → Prop} (hl : env.length = 5) : ∀ (ns acc : List Int), (∀ gs : List Int, Q (gs.map D.int) st) → ns.length + acc.length < 1000 →
    dLcGo (gNm 3) (dTst (dOp rdGe (dCB rdAbs (dCons (dVar 3) dNil)) (dOp rdPow (dC (.int 10)) (dC (.int 18))))) (dCB rdAbs (dCons (dVar 3) dNil)) env (ns.map D.int) (acc.map D.int) st Q
  | [], acc, h, _ => h acc
  | n :: ns, acc, h, hz => by
    have e3 : ∀ d : D, (env.set 3 (some d))[3]? = some (some d) := fun d => by rw [List.getElem?_set_self (by omega)]
    have hz' : ns.length + acc.length < 1000 := by rw [List.length_cons] at hz; omega
    simp only [List.map_cons, dLcGo, dSeq, dAsg, dVar, dC, dCall, dCons, dNil, dOp, dUn, dTup, dLst, dLstM, dRet, dRetN, dNext, dDrop, dIfS, dTst, dAnd, dOr, dNot, dAndV, dOrV, dNotV, dIf, dPar, dPar3, dAsgG, gNm, gTp, gsCons, gsNil, dCB, dMt, dMt0, dSl, dPart, dNoPart, dKGet, dGet2, dDisp, dDispM, dpCons, dpNil, dFrz, dYes, rdSub, rdFdiv, rdMod, rdPow, rdLt, rdLe, rdGt, rdGe, rdAbs, rdMax, rdMin, rdI, rdI1, rdI2, rdNeg, rdInt, List.set_cons_zero, List.set_cons_succ, List.getElem?_cons_zero, List.getElem?_cons_succ, e3, true_and]
    refine ⟨⟨by decide, by decide, by decide⟩, ?_⟩
    have ih1 : ∀ a : Int, (List.map D.int acc).length < sizeLine ∧ dLcGo (gNm 3) (dTst (dOp rdGe (dCB rdAbs (dCons (dVar 3) dNil)) (dOp rdPow (dC (.int 10)) (dC (.int 18))))) (dCB rdAbs (dCons (dVar 3) dNil)) env (ns.map D.int) (acc.map D.int ++ [.int a]) st Q := fun a => by
      refine ⟨small1000 (by rw [List.length_map]; omega), ?_⟩
      have := box_comp hl (Q := Q) ns (acc ++ [a]) h (by rw [List.length_cons] at hz; rw [List.length_append, List.length_singleton]; omega)
      rw [List.map_append] at this
      exact this
    exact ite2 (fun _ => ih1 _) (fun _ => box_comp hl ns acc h hz')
theorem cutD_len {α : Type} (xs : List α) (lo hi : Option Int) : (cutD xs lo hi).length ≤ xs.length := by
  unfold cutD
  rw [List.length_take, List.length_drop]; omega
theorem cut50 {α : Type} (xs : List α) (lo : Option Int) : (cutD xs lo (some 50)).length ≤ 50 := by
  unfold cutD
  rw [List.length_take, List.length_drop]
  have : HT.sIx xs.length xs.length (some 50) ≤ 50 := by unfold HT.sIx; simp; omega
  omega
theorem rd_box {ns : List Int} {base : Int} {st : Sto} {Q : QD} (q : ∀ (n m : Nat) (gs : List Int) (now seed turn : Int), st n = none → st m = none → m ≠ n → Q (.ref n) (sup (sup st m (.lst (gs.map D.int))) n (boxD m now seed turn))) :
    t__law_box (ends Q) [some (.scr ns), some (.int base), none, none, none] st := by
  simp only [t__law_box, t__law_box_r1, dSeq, dAsg, dVar, dC, dCall, dCons, dNil, dOp, dUn, dTup, dLst, dLstM, dRet, dRetN, dNext, dDrop, dIfS, dTst, dAnd, dOr, dNot, dAndV, dOrV, dNotV, dIf, dPar, dPar3, dAsgG, gNm, gTp, gsCons, gsNil, dCB, dMt, dMt0, dSl, dPart, dNoPart, dKGet, dGet2, dDisp, dDispM, dpCons, dpNil, dFrz, dYes, rdSub, rdFdiv, rdMod, rdPow, rdLt, rdLe, rdGt, rdGe, rdAbs, rdMax, rdMin, rdI, rdI1, rdI2, rdNeg, rdInt, List.set_cons_zero, List.set_cons_succ, List.getElem?_cons_zero, List.getElem?_cons_succ, rdAdd, rdMul, look, dFor, dIt, rdSl, itemsOf, ints_items]
  refine ⟨.inl (by decide), box_loop _ _ _ _ fun seed c e => ?_⟩
  simp only [t__law_box_r2, dSeq, dAsg, dVar, dC, dCall, dCons, dNil, dOp, dUn, dTup, dLst, dLstM, dRet, dRetN, dNext, dDrop, dIfS, dTst, dAnd, dOr, dNot, dAndV, dOrV, dNotV, dIf, dPar, dPar3, dAsgG, gNm, gTp, gsCons, gsNil, dCB, dMt, dMt0, dSl, dPart, dNoPart, dKGet, dGet2, dDisp, dDispM, dpCons, dpNil, dFrz, dYes, rdSub, rdFdiv, rdMod, rdPow, rdLt, rdLe, rdGt, rdGe, rdAbs, rdMax, rdMin, rdI, rdI1, rdI2, rdNeg, rdInt, List.set_cons_zero, List.set_cons_succ, List.getElem?_cons_zero, List.getElem?_cons_succ, look, rdSl, itemsOf, ints_items, dLc, dIt]
  have := box_comp (st := st) (env := wipeD [some (.scr ns), some (.int base), some (.int seed), c, e] [3]) (Q := fun out st2 => t__law_box_r3 (ends Q) [some (.scr ns), some (.int base), some (.int seed), c, some (.lst out)] st2) (wipeD_len _ _) (cutD ns (some base) (some 50)) []
  refine this (fun gs => ?_) (by rw [List.length_nil]; have := cut50 ns (some base); omega)
  simp only [t__law_box_r3, dSeq, dAsg, dVar, dC, dCall, dCons, dNil, dOp, dUn, dTup, dLst, dLstM, dRet, dRetN, dNext, dDrop, dIfS, dTst, dAnd, dOr, dNot, dAndV, dOrV, dNotV, dIf, dPar, dPar3, dAsgG, gNm, gTp, gsCons, gsNil, dCB, dMt, dMt0, dSl, dPart, dNoPart, dKGet, dGet2, dDisp, dDispM, dpCons, dpNil, dFrz, dYes, rdSub, rdFdiv, rdMod, rdPow, rdLt, rdLe, rdGt, rdGe, rdAbs, rdMax, rdMin, rdI, rdI1, rdI2, rdNeg, rdInt, List.set_cons_zero, List.set_cons_succ, List.getElem?_cons_zero, List.getElem?_cons_succ, rdRevM, rdAdd, look]
  intro m hm
  refine ⟨by show 4 ≤ 15; decide, fun n hn => ?_⟩
  have hmn : m ≠ n := by rintro rfl; rw [sup_same] at hn; cases hn
  rw [sup_ne (Ne.symm hmn)] at hn
  have := q n m gs.reverse 0 (seed + 1) 0 hn hm hmn
  rw [List.map_reverse] at this
  exact sb this
/-! ### _law_pick, _law_mixed -/
/-- the items of what may be picked from -/
def spPick : DSp := fun ds st Q _ => ∃ n d xs, ds = [.ref n, d] ∧ st n = some .box ∧ seqOf st d = some xs ∧ xs ≠ [] ∧ xs.length < 1073741824 ∧ ∀ x ∈ xs, Q x st
theorem atI_nat {α : Type} {xs : List α} {i : Int} (h0 : 0 ≤ i) (h1 : i < xs.length) : ∃ x ∈ xs, atI xs i = some x := by
  unfold atI ixN
  rw [if_pos h0, if_pos h1]
  obtain ⟨k, rfl⟩ := Int.eq_ofNat_of_zero_le h0
  have hk : k < xs.length := by omega
  refine ⟨xs[k], List.getElem_mem hk, ?_⟩
  show xs[(Int.ofNat k).toNat]? = _
  exact List.getElem?_eq_getElem hk
theorem rd_pick {n : Nat} {d : D} {xs : List D} {st : Sto} {Q : QD} (hn : st n = some .box) (hs : seqOf st d = some xs) (hne : xs ≠ []) (hz : xs.length < 1073741824) (q : ∀ x ∈ xs, Q x st) : t__law_pick spTake (ends Q) [some (.ref n), some d] st := by
  have hp : 0 < xs.length := List.length_pos_iff.mpr hne
  have key : ∀ (r : Int), 0 ≤ r → r < xs.length → rdIx d (.int r) st (fun d st => ∃ st', Sub st' st ∧ Q d st') := fun r r0 r1 => by
    obtain ⟨x, hx, ex⟩ := atI_nat r0 r1
    rw [rdIx_nf]
    unfold seqOf at hs
    split at hs
    · rename_i ds e
      cases hs
      simp only [e, ex, onS_some]
      exact sb (q x hx)
    · rename_i ds e
      cases hs
      simp only [e, ex, onS_some]
      exact sb (q x hx)
    · rename_i z e
      split at hs
      · rename_i hz1
        cases hs
        simp only [e]
        refine ⟨hz1, ?_⟩
        unfold signsD at ex hx r1
        rw [List.length_map] at r1
        obtain ⟨c, hc, ec⟩ := atI_nat (xs := z.cps.toList) r0 r1
        rw [ec, onS_some]
        exact sb (q _ (List.mem_map.mpr ⟨c, hc, rfl⟩))
      · cases hs
    · cases hs
  simp only [t__law_pick, dSeq, dAsg, dVar, dC, dCall, dCons, dNil, dOp, dUn, dTup, dLst, dLstM, dRet, dRetN, dNext, dDrop, dIfS, dTst, dAnd, dOr, dNot, dAndV, dOrV, dNotV, dIf, dPar, dPar3, dAsgG, gNm, gTp, gsCons, gsNil, dCB, dMt, dMt0, dSl, dPart, dNoPart, dKGet, dGet2, dDisp, dDispM, dpCons, dpNil, dFrz, dYes, rdSub, rdFdiv, rdMod, rdPow, rdLt, rdLe, rdGt, rdGe, rdAbs, rdMax, rdMin, rdI, rdI1, rdI2, rdNeg, rdInt, List.set_cons_zero, List.set_cons_succ, List.getElem?_cons_zero, List.getElem?_cons_succ, rdLen]
  unfold seqOf at hs
  split at hs
  · rename_i ds e
    cases hs
    try simp only [e]
    exact ⟨n, _, rfl, by omega, by omega, hn, fun r r0 r1 => key r r0 r1⟩
  · rename_i ds e
    cases hs
    try simp only [e]
    exact ⟨n, _, rfl, by omega, by omega, hn, fun r r0 r1 => key r r0 r1⟩
  · rename_i z e
    split at hs
    · rename_i hz'
      cases hs
      try simp only [e]
      have el : z.length = (signsD z).length := by unfold signsD; rw [List.length_map]; rfl
      exact ⟨hz', n, _, rfl, by rw [el]; omega, by rw [el]; omega, hn, fun r r0 r1 => key r r0 (by rw [el] at r1; exact r1)⟩
    · cases hs
  · cases hs
def spMixed : DSp := fun ds st Q _ => ∃ n d xs, ds = [.ref n, d] ∧ st n = some .box ∧ seqOf st d = some xs ∧ xs.length < 1000000 ∧ ∀ ys, ys.Perm xs → Q (.lst ys) st
theorem era_perm {α : Type} : ∀ (xs : List α) (i : Nat) (h : i < xs.length), ([xs[i]] ++ xs.eraseIdx i).Perm xs
  | [], _, h => absurd h (Nat.not_lt_zero _)
  | x :: xs, 0, _ => List.Perm.refl _
  | x :: xs, i + 1, h => by
    have ih := era_perm xs i (by simpa using h)
    simp only [List.getElem_cons_succ, List.eraseIdx_cons_succ, List.singleton_append] at ih ⊢
    exact (List.Perm.swap _ _ _).trans (ih.cons x)
theorem mixed_loop {n l f : Nat} {R : DEnds} {d : D} {st0 : Sto} (hn : st0 n = some .box) (hl : st0 l = none) (hf : st0 f = none) (hlf : l ≠ f) : ∀ (k : Nat) (i : Int) (xs ys : List D) (c : Option D), xs.length = k → k + ys.length < 1000000 →
    (∀ zs c, zs.Perm (ys ++ xs) → R.nx [some (.ref n), some d, some (.ref l), some (.ref f), c] (sup (sup st0 l (.lst [])) f (.lst zs))) →
    dLoop (gNm 4) (t__law_mixed_b1 spTake) R (rangeD i k) [some (.ref n), some d, some (.ref l), some (.ref f), c] (sup (sup st0 l (.lst xs)) f (.lst ys))
  | 0, i, xs, ys, c, hk, _, h => by
    cases xs with
    | nil => exact h ys c (by rw [List.append_nil])
    | cons _ _ => cases hk
  | k + 1, i, xs, ys, c, hk, hz, h => by
    have nl : n ≠ l := by rintro rfl; rw [hn] at hl; cases hl
    have nf : n ≠ f := by rintro rfl; rw [hn] at hf; cases hf
    have el : sup (sup st0 l (.lst xs)) f (.lst ys) l = some (.lst xs) := by rw [sup_ne hlf, sup_same]
    simp only [rangeD_succ, dLoop, t__law_mixed_b1, dSeq, dAsg, dVar, dC, dCall, dCons, dNil, dOp, dUn, dTup, dLst, dLstM, dRet, dRetN, dNext, dDrop, dIfS, dTst, dAnd, dOr, dNot, dAndV, dOrV, dNotV, dIf, dPar, dPar3, dAsgG, gNm, gTp, gsCons, gsNil, dCB, dMt, dMt0, dSl, dPart, dNoPart, dKGet, dGet2, dDisp, dDispM, dpCons, dpNil, dFrz, dYes, rdSub, rdFdiv, rdMod, rdPow, rdLt, rdLe, rdGt, rdGe, rdAbs, rdMax, rdMin, rdI, rdI1, rdI2, rdNeg, rdInt, List.set_cons_zero, List.set_cons_succ, List.getElem?_cons_zero, List.getElem?_cons_succ, rdLen, look_lst el]
    refine ⟨isL_ref sup_same, isL_ref el, n, _, rfl, by omega, by omega, by rw [sup_ne nf, sup_ne nl]; exact hn, fun r r0 r1 => ?_⟩
    have hr : r.toNat < xs.length := by omega
    refine popAt_of el r0 (by omega) (List.getElem?_eq_getElem hr) ?_
    refine append_of (xs := ys) (by rw [sup_ne (Ne.symm hlf), sup_same]) (by rw [sizeLine_eq]; omega) ?_
    have e : sup (sup (sup (sup st0 l (.lst xs)) f (.lst ys)) l (.lst (xs.eraseIdx r.toNat))) f (.lst (ys ++ [xs[r.toNat]])) = sup (sup st0 l (.lst (xs.eraseIdx r.toNat))) f (.lst (ys ++ [xs[r.toNat]])) := by
      rw [sup_comm (n := f) (m := l) (Ne.symm hlf), sup_sup, sup_sup]
    rw [e]
    refine mixed_loop hn hl hf hlf k _ _ _ _ (by rw [List.length_eraseIdx_of_lt hr]; omega) (by rw [List.length_append, List.length_singleton]; omega) fun zs c p => h zs c (p.trans ?_)
    rw [List.append_assoc]
    refine List.Perm.append_left ys ?_
    exact era_perm xs r.toNat hr
theorem rd_mixed {n : Nat} {d : D} {xs : List D} {st : Sto} {Q : QD} (hn : st n = some .box) (hs : seqOf st d = some xs) (hz : xs.length < 1000000) (q : ∀ ys, ys.Perm xs → Q (.lst ys) st) : t__law_mixed spTake (ends Q) [some (.ref n), some d, none, none, none] st := by
  simp only [t__law_mixed, dSeq, dAsg, dVar, dC, dCall, dCons, dNil, dOp, dUn, dTup, dLst, dLstM, dRet, dRetN, dNext, dDrop, dIfS, dTst, dAnd, dOr, dNot, dAndV, dOrV, dNotV, dIf, dPar, dPar3, dAsgG, gNm, gTp, gsCons, gsNil, dCB, dMt, dMt0, dSl, dPart, dNoPart, dKGet, dGet2, dDisp, dDispM, dpCons, dpNil, dFrz, dYes, rdSub, rdFdiv, rdMod, rdPow, rdLt, rdLe, rdGt, rdGe, rdAbs, rdMax, rdMin, rdI, rdI1, rdI2, rdNeg, rdInt, List.set_cons_zero, List.set_cons_succ, List.getElem?_cons_zero, List.getElem?_cons_succ, rdListM, hs]
  intro l hl
  refine ⟨Nat.zero_le _, fun f hf => ?_⟩
  have hlf : l ≠ f := by rintro rfl; rw [sup_same] at hf; cases hf
  rw [sup_ne (Ne.symm hlf)] at hf
  have el : sup (sup st l (.lst xs)) f (.lst []) l = some (.lst xs) := by rw [sup_ne hlf, sup_same]
  simp only [t__law_mixed_r1, dSeq, dAsg, dVar, dC, dCall, dCons, dNil, dOp, dUn, dTup, dLst, dLstM, dRet, dRetN, dNext, dDrop, dIfS, dTst, dAnd, dOr, dNot, dAndV, dOrV, dNotV, dIf, dPar, dPar3, dAsgG, gNm, gTp, gsCons, gsNil, dCB, dMt, dMt0, dSl, dPart, dNoPart, dKGet, dGet2, dDisp, dDispM, dpCons, dpNil, dFrz, dYes, rdSub, rdFdiv, rdMod, rdPow, rdLt, rdLe, rdGt, rdGe, rdAbs, rdMax, rdMin, rdI, rdI1, rdI2, rdNeg, rdInt, List.set_cons_zero, List.set_cons_succ, List.getElem?_cons_zero, List.getElem?_cons_succ, dFor, dRg1, rdLen, look_lst el]
  refine ⟨⟨by omega, by omega⟩, ?_⟩
  refine mixed_loop hn hl hf hlf _ _ xs [] _ (by omega) (by rw [List.length_nil]; omega) fun zs c p => ?_
  simp only [t__law_mixed_r2, dSeq, dAsg, dVar, dC, dCall, dCons, dNil, dOp, dUn, dTup, dLst, dLstM, dRet, dRetN, dNext, dDrop, dIfS, dTst, dAnd, dOr, dNot, dAndV, dOrV, dNotV, dIf, dPar, dPar3, dAsgG, gNm, gTp, gsCons, gsNil, dCB, dMt, dMt0, dSl, dPart, dNoPart, dKGet, dGet2, dDisp, dDispM, dpCons, dpNil, dFrz, dYes, rdSub, rdFdiv, rdMod, rdPow, rdLt, rdLe, rdGt, rdGe, rdAbs, rdMax, rdMin, rdI, rdI1, rdI2, rdNeg, rdInt, List.set_cons_zero, List.set_cons_succ, List.getElem?_cons_zero, List.getElem?_cons_succ, frz, sup_same]
  refine ⟨st, Sub.del (Sub.upd (Sub.new hl) hf) hf, q zs (by simpa using p)⟩
end TL
namespace TL
open PySem PySem.Spec PyProof.Rows L2
/-! ### good data: what may be shown and compared -/
def okS (x : Str) : Bool := x.cps.toList.all fun c => decide (c < 1114112)
mutual
def D.ok : D → Bool
  | .non => true
  | .bl _ => true
  | .int i => decide (i.natAbs < 1000000000)
  | .str x => okS x
  | .tup ds => D.oks ds
  | .lst ds => D.oks ds
  | .dct _ => false
  | .obj _ _ => false
  | .ref _ => false
  | .scr _ => false
def D.oks : List D → Bool
  | [] => true
  | d :: ds => D.ok d && D.oks ds
end
mutual
def D.wt : D → Nat
  | .non => 4
  | .bl _ => 5
  | .int _ => 10
  | .str x => 10 * x.length + 2
  | .tup ds => D.wts ds + 4
  | .lst ds => D.wts ds + 4
  | .dct _ => 0
  | .obj _ _ => 0
  | .ref _ => 0
  | .scr _ => 0
def D.wts : List D → Nat
  | [] => 0
  | d :: ds => D.wt d + 2 + D.wts ds
end
mutual
def D.dp : D → Nat
  | .tup ds => D.dps ds + 1
  | .lst ds => D.dps ds + 1
  | .non => 0
  | .bl _ => 0
  | .int _ => 0
  | .str _ => 0
  | .dct _ => 0
  | .obj _ _ => 0
  | .ref _ => 0
  | .scr _ => 0
def D.dps : List D → Nat
  | [] => 0
  | d :: ds => max (D.dp d) (D.dps ds)
end
theorem okS_strOk {x : Str} (h : okS x = true) : PyData.strOk x = true := by
  unfold okS at h
  unfold PyData.strOk
  rw [← Array.all_toList]
  exact h
theorem textFrom_le : ∀ (ts : List Str) (k : Nat) (acc : Str), (textFrom k acc ts).length ≤ acc.length + piled ts
  | [], k, acc => by show acc.length ≤ _; omega
  | t :: r, k, acc => by
    have := textFrom_le r (k + 1) (acc ++ (if k > 0 then ", " else "" : String) ++ t)
    show (textFrom (k + 1) (acc ++ (if k > 0 then ", " else "" : String) ++ t) r).length ≤ _
    rw [strLen_append, strLen_append] at this
    rw [piled_cons]
    have e : (((if k > 0 then ", " else "" : String) : Str)).length ≤ 2 := by split <;> decide
    omega
theorem listText_le (ts : List Str) : (listText ts).length ≤ piled ts + 2 := by
  unfold listText
  rw [strLen_append]
  have := textFrom_le ts 0 "["
  have e1 : ((("[" : String) : Str)).length = 1 := rfl
  have e2 : ((("]" : String) : Str)).length = 1 := rfl
  omega
theorem tupleText_le (ts : List Str) : (tupleText ts).length ≤ piled ts + 3 := by
  unfold tupleText
  rw [strLen_append, strLen_append]
  have e1 : ((("(" : String) : Str)).length = 1 := rfl
  have e3 : (((if ts.length == 1 then ",)" else ")" : String) : Str)).length ≤ 2 := by split <;> decide
  rw [e1]
  cases ts with
  | nil =>
    have : (Str.join ", " []).length = 0 := rfl
    omega
  | cons t r =>
    have := join_length_add (t :: r) (by simp)
    omega
theorem int_ok {i : Int} (h : i.natAbs < 1000000000) : i.natAbs.log2 < 1920 ∧ (Str.ofString (toString i)).length ≤ 10 := by
  refine ⟨?_, ?_⟩
  · by_cases h0 : i.natAbs = 0
    · rw [h0]; decide
    · exact (Nat.log2_lt h0).mpr (Nat.lt_of_lt_of_le h (by decide +kernel))
  · rw [PySem.ofString_length]
    exact int_text_length_le10 (k := 9) (by decide) h
mutual
theorem ok_py : ∀ d : D, d.ok = true → ∃ p, d.py = some p ∧ p.canLay0 = true ∧ p.showable = true ∧ p.depth ≤ d.dp ∧ p.shown.length ≤ d.wt
  | .non, _ => ⟨.none, by simp [D.py], by simp [PyData.canLay0], by simp [PyData.showable], by simp [PyData.depth], by simp only [PyData.shown, D.wt]; decide⟩
  | .bl b, _ => ⟨.bool b, by simp [D.py], by simp [PyData.canLay0], by simp [PyData.showable], by simp [PyData.depth], by cases b <;> simp only [PyData.shown, D.wt] <;> decide⟩
  | .int i, h => by
    simp only [D.ok, decide_eq_true_eq] at h
    obtain ⟨h1, h2⟩ := int_ok h
    exact ⟨.int i, by simp [D.py], by simp [PyData.canLay0], by simp [PyData.showable, h1], by simp [PyData.depth], by simp only [PyData.shown, D.wt]; exact h2⟩
  | .str x, h => by
    simp only [D.ok] at h
    refine ⟨.str x, by simp [D.py], by simp [PyData.canLay0, okS_strOk h], by simp [PyData.showable], by simp [PyData.depth], ?_⟩
    simp only [PyData.shown, D.wt]
    refine StrLaws.reprText_len x fun c hc => ?_
    have := List.all_eq_true.mp h c hc
    simp only [decide_eq_true_eq] at this
    omega
  | .tup ds, h => by
    simp only [D.ok] at h
    obtain ⟨ps, h1, h2, h3, h4, h5⟩ := oks_py ds h
    refine ⟨.tuple ps, by simp [D.py, h1], by simp [PyData.canLay0, h2], by simp [PyData.showable, h3], by simp [PyData.depth, D.dp, h4], ?_⟩
    simp only [PyData.shown, D.wt]
    have := tupleText_le (PyData.shownAll ps)
    omega
  | .lst ds, h => by
    simp only [D.ok] at h
    obtain ⟨ps, h1, h2, h3, h4, h5⟩ := oks_py ds h
    refine ⟨.list ps, by simp [D.py, h1], by simp [PyData.canLay0, h2], by simp [PyData.showable, h3], by simp [PyData.depth, D.dp, h4], ?_⟩
    simp only [PyData.shown, D.wt]
    have := listText_le (PyData.shownAll ps)
    omega
  | .dct _, h => by simp [D.ok] at h
  | .obj _ _, h => by simp [D.ok] at h
  | .ref _, h => by simp [D.ok] at h
  | .scr _, h => by simp [D.ok] at h
theorem oks_py : ∀ ds : List D, D.oks ds = true → ∃ ps, D.pys ds = some ps ∧ PyData.canLayAll0 ps = true ∧ PyData.showableAll ps = true ∧ PyData.depthAll ps ≤ D.dps ds ∧ piled (PyData.shownAll ps) ≤ D.wts ds
  | [], _ => ⟨[], by simp [D.pys], by simp [PyData.canLayAll0], by simp [PyData.showableAll], by simp [PyData.depthAll], by simp [PyData.shownAll, piled_nil]⟩
  | d :: ds, h => by
    simp only [D.oks, Bool.and_eq_true] at h
    obtain ⟨p, a1, a2, a3, a4, a5⟩ := ok_py d h.1
    obtain ⟨ps, b1, b2, b3, b4, b5⟩ := oks_py ds h.2
    refine ⟨p :: ps, by simp [D.pys, a1, b1], by simp [PyData.canLayAll0, a2, b2], by simp [PyData.showableAll, a3, b3], ?_, ?_⟩
    · simp only [PyData.depthAll, D.dps]; omega
    · simp only [PyData.shownAll, piled_cons, D.wts]; omega
end
/-- shown: some text, the same at every place -/
theorem repr_tup {xs : List D} {st : Sto} {Q : QD} (h : (D.tup xs).ok = true) (hd : (D.tup xs).dp ≤ 64) (hw : (D.tup xs).wt ≤ 16777216) (q : ∀ p, (D.tup xs).py = some p → Q (.str p.shown) st) : rdRepr [.tup xs] st Q := by
  obtain ⟨p, a1, a2, a3, a4, a5⟩ := ok_py _ h
  exact ⟨p, a1, by unfold SeqAt.shaped; rw [a2, Bool.true_and]; exact decide_eq_true (by omega), a3, by rw [sizeLine_eq]; omega, q p a1⟩
theorem repr_lst {xs : List D} {st : Sto} {Q : QD} (h : (D.lst xs).ok = true) (hd : (D.lst xs).dp ≤ 64) (hw : (D.lst xs).wt ≤ 16777216) (q : ∀ p, (D.lst xs).py = some p → Q (.str p.shown) st) : rdRepr [.lst xs] st Q := by
  obtain ⟨p, a1, a2, a3, a4, a5⟩ := ok_py _ h
  exact ⟨p, a1, by unfold SeqAt.shaped; rw [a2, Bool.true_and]; exact decide_eq_true (by omega), a3, by rw [sizeLine_eq]; omega, q p a1⟩
theorem repr_int {i : Int} {st : Sto} {Q : QD} (h : i.natAbs < 1000000000) (q : Q (.str (toString i)) st) : rdRepr [.int i] st Q := ⟨(int_ok h).1, q⟩
theorem shaped_of {d : D} (h : d.ok = true) (hd : d.dp ≤ 64) : ∃ p, d.py = some p ∧ SeqAt.shaped p = true ∧ p.canLay0 = true := by
  obtain ⟨p, a1, a2, a3, a4, a5⟩ := ok_py _ h
  exact ⟨p, a1, by unfold SeqAt.shaped; rw [a2, Bool.true_and]; exact decide_eq_true (by omega), a2⟩
/-- the same tree is equal to itself -/
theorem eq_same {neg : Bool} {d : D} {st : Sto} {Q : QD} (h : d.ok = true) (hd : d.dp ≤ 64) (q : Q (.bl (true != neg)) st) : rdEq neg d d st Q := by
  obtain ⟨p, a1, a2, a3⟩ := shaped_of h hd
  have hl : look st d = d := by cases d <;> first | rfl | (simp [D.ok] at h)
  have hp : pyv st d = some p := by unfold pyv; rw [hl]; exact a1
  have e := SeqAt.eqv_refl p a3
  unfold rdEq
  split
  · simpa using q
  · simpa using q
  · exact ⟨p, p, hp, hp, a2, a2, by rw [e]; exact q⟩
/-- a list against [] -/
theorem eq_nil {neg : Bool} {xs : List D} {st : Sto} {Q : QD} (h : D.oks xs = true) (hd : D.dps xs < 64) (q : Q (.bl (decide (xs = []) != neg)) st) : rdEq neg (.lst xs) (.lst []) st Q := by
  obtain ⟨ps, h1, h2, h3, h4, h5⟩ := oks_py xs h
  have hs : ∀ p : PyData, p.canLay0 = true → p.depth ≤ 64 → SeqAt.shaped p = true := fun p a b => by unfold SeqAt.shaped; rw [a, Bool.true_and]; exact decide_eq_true b
  refine ⟨.list ps, .list [], by unfold pyv; simp [look, D.py, h1], by unfold pyv; simp [look, D.py, D.pys], hs _ (by simp [PyData.canLay0, h2]) (by simp only [PyData.depth]; omega), hs _ (by simp [PyData.canLay0, PyData.canLayAll0]) (by simp [PyData.depth, PyData.depthAll]), ?_⟩
  have e : PyData.eqv (.list ps) (.list []) = decide (xs = []) := by
    cases xs with
    | nil => simp only [D.pys] at h1; cases h1; simp [PyData.eqv, PyData.eqvAll]
    | cons x r =>
      cases ps with
      | nil => simp only [D.pys] at h1; split at h1 <;> cases h1
      | cons _ _ => simp [PyData.eqv, PyData.eqvAll]
  rw [e]; exact q
end TL
namespace TL
open PySem PySem.Spec PyProof.Rows L2
def t__law_names_r8 (_law_take : DSp) (_law_mixed : DSp) : TDS :=
  (dRet (dCall _law_mixed (dCons (dVar 0) (dCons (dSl (dVar 3) dNoPart (dPart (dVar 1))) dNil))))
def t__law_names_r7 (_law_take : DSp) (_law_mixed : DSp) : TDS :=
  (dSeq (dAsg 3 (dLc (dEn (dVar 3)) (gTp 2 (gsCons (gNm 8) (gsCons (gNm 9) gsNil))) (dAnd (dTst (dOp (rdIn true) (dVar 9) (dVar 7))) (dTst (dOp (rdIn true) (dVar 9) (dSl (dVar 3) dNoPart (dPart (dVar 8)))))) (dVar 9) [8, 9]))
  (t__law_names_r8 _law_take _law_mixed))
def t__law_names_r6 (_law_take : DSp) (_law_mixed : DSp) : TDS :=
  (dSeq (dAsg 7 (dSplit " " (dOp rdAdd (dVar 7) (dC (.str " before after early late wraps")))))
  (t__law_names_r7 _law_take _law_mixed))
def t__law_names_r5 (_law_take : DSp) (_law_mixed : DSp) : TDS :=
  (dSeq (dAsg 7 (dC (.str "if then else not both and either or is none fail ask with giving failing inner unanswered")))
  (t__law_names_r6 _law_take _law_mixed))
def t__law_names_r4 (_law_take : DSp) (_law_mixed : DSp) : TDS :=
  (dSeq (dAsg 3 (dOp rdAdd (dVar 3) (dLc (dIt (dCall _law_mixed (dCons (dVar 0) (dCons (dVar 2) dNil)))) (gNm 10) dYes (dOp rdAdd (dOp rdAdd (dSl (dVar 5) dNoPart (dPart (dVar 6))) (dVar 10)) (dSl (dVar 5) (dPart (dVar 6)) dNoPart)) [10])))
  (t__law_names_r5 _law_take _law_mixed))
def t__law_names_r3 (_law_take : DSp) (_law_mixed : DSp) : TDS :=
  (dSeq (dIfS (dTst (dOp (rdEq false) (dVar 4) (dC (.int 0))))
  (dAsg 3 (dSplit " " (dC (.str "plugin on first each through number word main hook host call size mode text order ring"))))
  dNext)
  (t__law_names_r4 _law_take _law_mixed))
def t__law_names_r2 (_law_take : DSp) (_law_mixed : DSp) : TDS :=
  (dSeq (dAsg 6 (dCall _law_take (dCons (dVar 0) (dCons (dOp rdAdd (dCB rdLen (dCons (dVar 5) dNil)) (dC (.int 1))) dNil))))
  (t__law_names_r3 _law_take _law_mixed))
def t__law_names_r1 (_law_take : DSp) (_law_mixed : DSp) : TDS :=
  (dSeq (dAsg 5 (dJoin "" (dLc (dRg1 (dOp rdIx (dLst (dCons (dC (.int 0)) (dCons (dC (.int 1)) (dCons (dC (.int 3)) (dCons (dC (.int 7)) dNil))))) (dCall _law_take (dCons (dVar 0) (dCons (dC (.int 4)) dNil))))) (gNm 8) dYes (dOp rdIx (dVar 2) (dCall _law_take (dCons (dVar 0) (dCons (dC (.int 26)) dNil)))) [8])))
  (t__law_names_r2 _law_take _law_mixed))
def t__law_names (_law_take : DSp) (_law_mixed : DSp) : TDS :=
  (dSeq (dAsgG (dTup (dCons (dC (.str "abcdefghijklmnopqrstuvwxyz")) (dCons (dLst dNil) (dCons (dCall _law_take (dCons (dVar 0) (dCons (dC (.int 4)) dNil))) dNil)))) (gTp 3 (gsCons (gNm 2) (gsCons (gNm 3) (gsCons (gNm 4) gsNil)))))
  (t__law_names_r1 _law_take _law_mixed))
theorem st__law_names (ds : List D) : startD ["_law_box_here", "_law_many", "_law_letters", "_law_found", "_law_form", "_law_stem", "_law_at", "_law_bad", "_law_k", "_law_name", "_law_letter"] ds = ds.map some ++ List.replicate (11 - ds.length) none := rfl
/-! ### lists without repeats -/
theorem nd_le {α : Type} [DecidableEq α] : ∀ (l m : List α), l.Nodup → (∀ x ∈ l, x ∈ m) → l.length ≤ m.length
  | [], m, _, _ => Nat.zero_le _
  | x :: l, m, h, hs => by
    have hx : x ∈ m := hs x (List.mem_cons_self ..)
    obtain ⟨h1, h2⟩ := List.nodup_cons.mp h
    have ih := nd_le l (m.erase x) h2 fun y hy => by
      have hne : y ≠ x := by rintro rfl; exact h1 hy
      exact (List.mem_erase_of_ne hne).mpr (hs y (List.mem_cons_of_mem _ hy))
    have e := List.length_erase_of_mem hx
    have : 0 < m.length := List.length_pos_of_mem hx
    rw [List.length_cons]; omega
theorem nd_split {α : Type} [DecidableEq α] (l b : List α) (h : l.Nodup) : l.length ≤ (l.filter fun x => !b.contains x).length + b.length := by
  have h1 : (l.filter fun x => b.contains x).length ≤ b.length := nd_le _ _ (h.filter _) fun x hx => by simpa using (List.mem_filter.mp hx).2
  have h2 : ∀ m : List α, m.length = (m.filter fun x => b.contains x).length + (m.filter fun x => !b.contains x).length := fun m => by
    induction m with
    | nil => rfl
    | cons x r ih =>
      by_cases c : b.contains x = true
      · simp only [List.filter_cons, c, if_true, Bool.not_true, Bool.false_eq_true, if_false, List.length_cons]; omega
      · simp only [Bool.not_eq_true] at c
        simp only [List.filter_cons, c, Bool.false_eq_true, if_false, Bool.not_false, if_true, List.length_cons]; omega
  have := h2 l
  omega
/-- the first of each that is not in b -/
def dd (b seen : List Str) : List Str → List Str
  | [] => []
  | x :: r => if b.contains x || seen.contains x then dd b (seen ++ [x]) r else x :: dd b (seen ++ [x]) r
theorem dd_mem (b : List Str) : ∀ (l seen : List Str) (x : Str), x ∈ dd b seen l → x ∈ l ∧ x ∉ b ∧ x ∉ seen
  | [], seen, x, h => by simp [dd] at h
  | y :: r, seen, x, h => by
    unfold dd at h
    split at h
    · obtain ⟨h1, h2, h3⟩ := dd_mem b r _ x h
      exact ⟨List.mem_cons_of_mem _ h1, h2, fun z => h3 (List.mem_append_left _ z)⟩
    · rename_i c
      simp only [Bool.or_eq_true, List.contains_iff_mem, not_or] at c
      rcases List.mem_cons.mp h with rfl | h
      · exact ⟨List.mem_cons_self .., c.1, c.2⟩
      · obtain ⟨h1, h2, h3⟩ := dd_mem b r _ x h
        exact ⟨List.mem_cons_of_mem _ h1, h2, fun z => h3 (List.mem_append_left _ z)⟩
theorem dd_nodup (b : List Str) : ∀ (l seen : List Str), (dd b seen l).Nodup
  | [], seen => by simp [dd]
  | y :: r, seen => by
    unfold dd
    split
    · exact dd_nodup b r _
    · refine List.nodup_cons.mpr ⟨fun z => ?_, dd_nodup b r _⟩
      exact (dd_mem b r _ y z).2.2 (List.mem_append_right _ (List.mem_singleton.mpr rfl))
theorem dd_all (b : List Str) : ∀ (l seen : List Str) (x : Str), x ∈ l → x ∉ b → x ∉ seen → x ∈ dd b seen l
  | [], seen, x, h, _, _ => by cases h
  | y :: r, seen, x, h, hb, hs => by
    unfold dd
    by_cases e : x = y
    · subst e
      rw [if_neg (by simp [hb, hs])]
      exact List.mem_cons_self ..
    · have hx : x ∈ r := (List.mem_cons.mp h).resolve_left e
      have ih := dd_all b r (seen ++ [y]) x hx hb (by simp [hs, e])
      split
      · exact ih
      · exact List.mem_cons_of_mem _ ih
/-! ### texts as lists of signs -/
theorem str_ext {x y : Str} (h : x.cps.toList = y.cps.toList) : x = y := by
  cases x; cases y
  simp only at h
  congr 1
  exact Array.toList_inj.mp h
theorem cps_app (x y : Str) : (x ++ y).cps.toList = x.cps.toList ++ y.cps.toList := by rw [Str.cps_append]; simp
theorem len_cps (x : Str) : x.length = x.cps.toList.length := by simp [Str.length]
theorem cut_lo (z : Str) (k : Int) (h0 : 0 ≤ k) (h1 : k ≤ z.length) : (cutS z none (some k)).cps.toList = z.cps.toList.take k.toNat := by
  obtain ⟨n, rfl⟩ := Int.eq_ofNat_of_zero_le h0
  unfold cutS
  rw [HT.sIx_none, HT.sIx_nat]
  simp only [List.drop_zero, Nat.sub_zero, Int.toNat_natCast]
  rw [Nat.min_eq_left (by omega)]
theorem cut_hi (z : Str) (k : Int) (h0 : 0 ≤ k) (h1 : k ≤ z.length) : (cutS z (some k) none).cps.toList = z.cps.toList.drop k.toNat := by
  obtain ⟨n, rfl⟩ := Int.eq_ofNat_of_zero_le h0
  unfold cutS
  rw [HT.sIx_none, HT.sIx_nat]
  simp only [Int.toNat_natCast]
  rw [Nat.min_eq_left (by omega)]
  rw [List.take_of_length_le]
  rw [List.length_drop, len_cps]
  exact Nat.le_refl _
def letters : Str := "abcdefghijklmnopqrstuvwxyz"
def isLow (c : Nat) : Bool := decide (97 ≤ c) && decide (c ≤ 122)
def badW : List Str := ["if", "then", "else", "not", "both", "and", "either", "or", "is", "none", "fail", "ask", "with", "giving", "failing", "inner", "unanswered", "before", "after", "early", "late", "wraps"]
def oneW : List Str := ["plugin", "on", "first", "each", "through", "number", "word", "main", "hook", "host", "call", "size", "mode", "text", "order", "ring"]
/-- a name as _law_names draws it -/
def Nm (x : Str) : Prop := 1 ≤ x.length ∧ x.length ≤ 8 ∧ (∀ c ∈ x.cps.toList, isLow c = true) ∧ x ∉ badW
theorem oneW_split : Txt.split ("plugin on first each through number word main hook host call size mode text order ring" : Str) " " = oneW := by decide +kernel
theorem badW_split : Txt.split (("if then else not both and either or is none fail ask with giving failing inner unanswered" : Str) ++ (" before after early late wraps" : Str)) " " = badW := by decide +kernel
theorem low_okS {x : Str} (h : ∀ c ∈ x.cps.toList, isLow c = true) : okS x = true := by
  unfold okS
  refine List.all_eq_true.mpr fun c hc => ?_
  have := h c hc
  simp only [isLow, Bool.and_eq_true, decide_eq_true_eq] at this
  exact decide_eq_true (by omega)
theorem strs_pys : ∀ (ys : List Str), (∀ y ∈ ys, okS y = true) → D.oks (ys.map D.str) = true ∧ D.dps (ys.map D.str) = 0 ∧ D.pys (ys.map D.str) = some (ys.map PyData.str)
  | [], _ => ⟨by simp [D.oks], by simp [D.dps], by simp [D.pys]⟩
  | y :: r, h => by
    obtain ⟨h1, h2, h3⟩ := strs_pys r fun z hz => h z (List.mem_cons_of_mem _ hz)
    have hy := h y (List.mem_cons_self ..)
    refine ⟨by simp [D.oks, D.ok, hy, h1], by simp [D.dps, D.dp, h2], by simp [D.pys, D.py, h3]⟩
theorem any_eqv (x : Str) : ∀ ys : List Str, ((ys.map PyData.str).any fun z => PyData.eqv z (.str x)) = decide (x ∈ ys)
  | [] => by simp
  | y :: r => by
    rw [List.map_cons, List.any_cons, any_eqv x r]
    have e : PyData.eqv (.str y) (.str x) = (y == x) := by simp [PyData.eqv]
    rw [e]
    by_cases h : y = x
    · subst h; simp
    · have h' : x ≠ y := Ne.symm h
      simp [h, h', List.mem_cons]
theorem in_strs {neg : Bool} {x : Str} {d : D} {ys : List Str} {st : Sto} {Q : QD} (hd : look st d = .lst (ys.map D.str)) (hx : okS x = true) (hy : ∀ y ∈ ys, okS y = true) (q : Q (.bl (decide (x ∈ ys) != neg)) st) : rdIn neg (.str x) d st Q := by
  obtain ⟨h1, h2, h3⟩ := strs_pys ys hy
  obtain ⟨ps, b1, b2, b3, b4, b5⟩ := oks_py _ h1
  rw [h3] at b1; cases b1
  have hs : ∀ p : PyData, p.canLay0 = true → p.depth ≤ 64 → SeqAt.shaped p = true := fun p a b => by unfold SeqAt.shaped; rw [a, Bool.true_and]; exact decide_eq_true b
  have key : ∃ p q, pyv st (.str x) = some p ∧ pyv st d = some q ∧ SeqAt.shaped p = true ∧ SeqAt.shaped q = true ∧ ((∃ ds, q = .list ds ∧ Q (.bl ((ds.any fun z => PyData.eqv z p) != neg)) st) ∨ ∃ ds, q = .tuple ds ∧ Q (.bl ((ds.any fun z => PyData.eqv z p) != neg)) st) :=
    ⟨.str x, .list (ys.map PyData.str), by unfold pyv; simp [look, D.py], by unfold pyv; rw [hd]; simp [D.py, h3], hs _ (by simp [PyData.canLay0, okS_strOk hx]) (by simp [PyData.depth]), hs _ (by simp [PyData.canLay0, b2]) (by simp only [PyData.depth]; omega), .inl ⟨_, rfl, by rw [any_eqv]; exact q⟩⟩
  cases d with
  | str z => simp [look] at hd
  | _ => exact key
theorem strsOf_map : ∀ ys : List Str, strsOf (ys.map D.str) = some ys
  | [] => rfl
  | y :: r => by simp [strsOf, strsOf_map r]
theorem join_ones : ∀ cs : List Nat, (Txt.join "" (cs.map fun c => (⟨#[c]⟩ : Str))).cps.toList = cs := by
  intro cs
  have go : ∀ (l : List Nat) (acc : Array Nat), ((l.map fun c => (⟨#[c]⟩ : Str)).foldl (fun acc p => acc ++ (("" : Str)).cps ++ p.cps) acc).toList = acc.toList ++ l := by
    intro l
    induction l with
    | nil => intro acc; simp
    | cons c r ih =>
      intro acc
      rw [List.map_cons, List.foldl_cons, ih]
      have : (("" : Str)).cps = #[] := by decide +kernel
      rw [this]
      simp
  cases cs with
  | nil => rfl
  | cons c r =>
    show (((r.map fun c => (⟨#[c]⟩ : Str)).foldl (fun acc p => acc ++ (("" : Str)).cps ++ p.cps) #[c])).toList = c :: r
    rw [go]; rfl
theorem sum_ones : ∀ cs : List Nat, ((cs.map fun c => (⟨#[c]⟩ : Str)).map (·.length)).sum = cs.length
  | [] => rfl
  | c :: r => by
    rw [List.map_cons, List.map_cons, List.sum_cons, sum_ones r, List.length_cons]
    show 1 + r.length = _
    omega
/-! ### _law_names -/
theorem low_letters : ∀ c ∈ letters.cps.toList, isLow c = true := by decide +kernel
theorem letters_nd : letters.cps.toList.Nodup := by decide +kernel
theorem letters_len : letters.cps.toList.length = 26 := by decide +kernel
/-- the stem: letters, one after the other -/
theorem stem_comp {n : Nat} {env : DSt} {st : Sto} {Q : List D → Sto → Prop} (hn : st n = some .box) (h0 : env[0]? = some (some (.ref n))) (h2 : env[2]? = some (some (.str letters))) : ∀ (k : Nat) (i : Int) (acc : List Nat), (∀ c ∈ acc, isLow c = true) → acc.length + k < 1000 →
    (∀ cs : List Nat, (∀ c ∈ cs, isLow c = true) → cs.length = acc.length + k → Q (cs.map fun c => .str ⟨#[c]⟩) st) →
    dLcGo (gNm 8) dYes (dOp rdIx (dVar 2) (dCall spTake (dCons (dVar 0) (dCons (dC (.int 26)) dNil)))) env (rangeD i k) (acc.map fun c => .str ⟨#[c]⟩) st Q
  | 0, i, acc, ha, _, h => h acc ha rfl
  | k + 1, i, acc, ha, hz, h => by
    have e0 : ∀ d : D, (env.set 8 (some d))[0]? = some (some (.ref n)) := fun d => by rw [List.getElem?_set_ne (by decide)]; exact h0
    have e2 : ∀ d : D, (env.set 8 (some d))[2]? = some (some (.str letters)) := fun d => by rw [List.getElem?_set_ne (by decide)]; exact h2
    simp only [rangeD_succ, dLcGo, dSeq, dAsg, dVar, dC, dCall, dCons, dNil, dOp, dUn, dTup, dLst, dLstM, dRet, dRetN, dNext, dDrop, dIfS, dTst, dAnd, dOr, dNot, dAndV, dOrV, dNotV, dIf, dPar, dPar3, dAsgG, gNm, gTp, gsCons, gsNil, dCB, dMt, dMt0, dSl, dPart, dNoPart, dKGet, dGet2, dDisp, dDispM, dpCons, dpNil, dFrz, dYes, rdSub, rdFdiv, rdMod, rdPow, rdLt, rdLe, rdGt, rdGe, rdAbs, rdMax, rdMin, rdI, rdI1, rdI2, rdNeg, rdInt, List.set_cons_zero, List.set_cons_succ, List.getElem?_cons_zero, List.getElem?_cons_succ, e0, e2, if_true]
    refine ⟨n, 26, rfl, by decide, by decide, hn, fun r r0 r1 => ?_⟩
    show rdIx (.str letters) (.int r) st _
    rw [rdIx_nf]
    obtain ⟨c, hc, ec⟩ := atI_nat (xs := letters.cps.toList) r0 (by rw [letters_len]; exact r1)
    simp only [look, ec, onS_some]
    refine ⟨by rw [len_cps, letters_len, sizeLine_eq]; decide, by rw [List.length_map, sizeLine_eq]; omega, ?_⟩
    have := stem_comp hn h0 h2 k (i + 1) (acc ++ [c]) (fun x hx => by
      rcases List.mem_append.mp hx with hx | hx
      · exact ha x hx
      · rw [List.mem_singleton.mp hx]; exact low_letters c hc) (by rw [List.length_append, List.length_singleton]; omega) (fun cs h1 h2 => h cs h1 (by rw [h2, List.length_append, List.length_singleton]; omega))
    rw [List.map_append] at this
    exact this
/-- a word of the stem and a letter -/
def wordOf (stem : Str) (a : Int) (c : Nat) : Str := cutS stem none (some a) ++ ⟨#[c]⟩ ++ cutS stem (some a) none
theorem wordOf_cps {stem : Str} {a : Int} (h0 : 0 ≤ a) (h1 : a ≤ stem.length) (c : Nat) : (wordOf stem a c).cps.toList = stem.cps.toList.take a.toNat ++ [c] ++ stem.cps.toList.drop a.toNat := by
  unfold wordOf
  rw [cps_app, cps_app, cut_lo _ _ h0 h1, cut_hi _ _ h0 h1]
theorem wordOf_inj {stem : Str} {a : Int} (h0 : 0 ≤ a) (h1 : a ≤ stem.length) {c d : Nat} (h : wordOf stem a c = wordOf stem a d) : c = d := by
  have e := congrArg (fun z : Str => z.cps.toList) h
  simp only [wordOf_cps h0 h1, List.append_assoc] at e
  have := List.append_cancel_left e
  simpa using this
theorem wordOf_len {stem : Str} {a : Int} (h0 : 0 ≤ a) (h1 : a ≤ stem.length) (c : Nat) : (wordOf stem a c).length = stem.length + 1 := by
  rw [len_cps, wordOf_cps h0 h1, len_cps]
  simp only [List.length_append, List.length_take, List.length_drop, List.length_singleton]
  rw [len_cps] at h1
  omega
theorem wordOf_low {stem : Str} {a : Int} (h0 : 0 ≤ a) (h1 : a ≤ stem.length) (hs : ∀ c ∈ stem.cps.toList, isLow c = true) {c : Nat} (hc : isLow c = true) : ∀ x ∈ (wordOf stem a c).cps.toList, isLow x = true := fun x hx => by
  rw [wordOf_cps h0 h1] at hx
  simp only [List.mem_append, List.mem_singleton] at hx
  rcases hx with (hx | hx) | hx
  · exact hs x (List.mem_of_mem_take hx)
  · rw [hx]; exact hc
  · exact hs x (List.mem_of_mem_drop hx)
theorem word_comp {env : DSt} {st : Sto} {stem : Str} {a : Int} {Q : List D → Sto → Prop} (hl : env.length = 11) (h5 : env[5]? = some (some (.str stem))) (h6 : env[6]? = some (some (.int a))) (hz : stem.length ≤ 1000) : ∀ (cs : List Nat) (acc : List Str), acc.length + cs.length < 1000 →
    Q ((acc ++ cs.map (wordOf stem a)).map D.str) st →
    dLcGo (gNm 10) dYes (dOp rdAdd (dOp rdAdd (dSl (dVar 5) dNoPart (dPart (dVar 6))) (dVar 10)) (dSl (dVar 5) (dPart (dVar 6)) dNoPart)) env (cs.map fun c => .str ⟨#[c]⟩) (acc.map D.str) st Q
  | [], acc, _, h => by simpa [dLcGo] using h
  | c :: cs, acc, hz2, h => by
    have e5 : ∀ d : D, (env.set 10 (some d))[5]? = some (some (.str stem)) := fun d => by rw [List.getElem?_set_ne (by decide)]; exact h5
    have e6 : ∀ d : D, (env.set 10 (some d))[6]? = some (some (.int a)) := fun d => by rw [List.getElem?_set_ne (by decide)]; exact h6
    have e10 : ∀ d : D, (env.set 10 (some d))[10]? = some (some d) := fun d => by rw [List.getElem?_set_self (by omega)]
    have hsz : stem.length ≤ sizeLine := by rw [sizeLine_eq]; omega
    have hcl : ∀ lo hi, (cutS stem lo hi).length ≤ 1000 := fun lo hi => by
      rw [len_cps]
      show (((stem.cps.toList.drop _).take _).toArray.toList).length ≤ _
      simp only [List.length_take, List.length_drop]
      rw [len_cps] at hz
      omega
    simp only [List.map_cons, dLcGo, dSeq, dAsg, dVar, dC, dCall, dCons, dNil, dOp, dUn, dTup, dLst, dLstM, dRet, dRetN, dNext, dDrop, dIfS, dTst, dAnd, dOr, dNot, dAndV, dOrV, dNotV, dIf, dPar, dPar3, dAsgG, gNm, gTp, gsCons, gsNil, dCB, dMt, dMt0, dSl, dPart, dNoPart, dKGet, dGet2, dDisp, dDispM, dpCons, dpNil, dFrz, dYes, rdSub, rdFdiv, rdMod, rdPow, rdLt, rdLe, rdGt, rdGe, rdAbs, rdMax, rdMin, rdI, rdI1, rdI2, rdNeg, rdInt, List.set_cons_zero, List.set_cons_succ, List.getElem?_cons_zero, List.getElem?_cons_succ, e5, e6, e10, rdSl, rdAdd, look, if_true]
    have o1 : ((⟨#[c]⟩ : Str)).length = 1 := rfl
    have q1 := hcl none (some a)
    have q2 := hcl (some a) none
    refine ⟨hsz, by rw [o1, sizeLine_eq]; omega, hsz, by rw [Str.length_append, o1, sizeLine_eq]; omega, by rw [List.length_map, sizeLine_eq]; omega, ?_⟩
    have := word_comp hl h5 h6 hz cs (acc ++ [wordOf stem a c]) (by rw [List.length_cons] at hz2; rw [List.length_append, List.length_singleton]; omega) (by simpa using h)
    rw [List.map_append] at this
    exact this
theorem cutD_lo {α : Type} (xs : List α) (k : Nat) (h : k ≤ xs.length) : cutD xs none (some (k : Int)) = xs.take k := by
  unfold cutD
  rw [HT.sIx_none, HT.sIx_nat]
  simp only [List.drop_zero, Nat.sub_zero]
  rw [Nat.min_eq_left h]
theorem cutD_hi {α : Type} (xs : List α) (k : Nat) (h : k ≤ xs.length) : cutD xs (some (k : Int)) none = xs.drop k := by
  unfold cutD
  rw [HT.sIx_none, HT.sIx_nat, Nat.min_eq_left h, List.take_of_length_le]
  rw [List.length_drop]; exact Nat.le_refl _
theorem cutD_lo' {α : Type} (xs : List α) (k : Int) (h0 : 0 ≤ k) : cutD xs none (some k) = xs.take k.toNat := by
  obtain ⟨n, rfl⟩ := Int.eq_ofNat_of_zero_le h0
  unfold cutD
  rw [HT.sIx_none, HT.sIx_nat]
  simp only [List.drop_zero, Nat.sub_zero, Int.toNat_natCast]
  by_cases h : n ≤ xs.length
  · rw [Nat.min_eq_left h]
  · rw [Nat.min_eq_right (by omega), List.take_of_length_le (Nat.le_refl _), List.take_of_length_le (by omega)]
theorem cutD_hi' {α : Type} (xs : List α) (k : Int) (h0 : 0 ≤ k) : cutD xs (some k) none = xs.drop k.toNat := by
  obtain ⟨n, rfl⟩ := Int.eq_ofNat_of_zero_le h0
  unfold cutD
  rw [HT.sIx_none, HT.sIx_nat]
  simp only [Int.toNat_natCast]
  rw [List.take_of_length_le (by rw [List.length_drop]; exact Nat.le_refl _)]
  by_cases h : n ≤ xs.length
  · rw [Nat.min_eq_left h]
  · rw [Nat.min_eq_right (by omega), List.drop_eq_nil_of_le (Nat.le_refl _), List.drop_eq_nil_of_le (by omega)]
theorem dd_comp {env : DSt} {st : Sto} {W B : List Str} {Q : List D → Sto → Prop} (hl : env.length = 11) (h3 : env[3]? = some (some (.lst (W.map D.str)))) (h7 : env[7]? = some (some (.lst (B.map D.str)))) (hW : ∀ y ∈ W, okS y = true) (hB : ∀ y ∈ B, okS y = true) (hz : W.length < 1000) : ∀ (ws pre acc : List Str), W = pre ++ ws → acc.length ≤ pre.length →
    Q ((acc ++ dd B pre ws).map D.str) st →
    dLcGo (gTp 2 (gsCons (gNm 8) (gsCons (gNm 9) gsNil))) (dAnd (dTst (dOp (rdIn true) (dVar 9) (dVar 7))) (dTst (dOp (rdIn true) (dVar 9) (dSl (dVar 3) dNoPart (dPart (dVar 8)))))) (dVar 9) env (enumD (pre.length : Int) (ws.map D.str)) (acc.map D.str) st Q
  | [], pre, acc, _, _, h => by simpa [dLcGo, enumD, dd] using h
  | x :: ws, pre, acc, e, ha, h => by
    have g3 : ∀ c d : D, ((env.set 8 (some c)).set 9 (some d))[3]? = some (some (.lst (W.map D.str))) := fun c d => by rw [List.getElem?_set_ne (by decide), List.getElem?_set_ne (by decide)]; exact h3
    have g7 : ∀ c d : D, ((env.set 8 (some c)).set 9 (some d))[7]? = some (some (.lst (B.map D.str))) := fun c d => by rw [List.getElem?_set_ne (by decide), List.getElem?_set_ne (by decide)]; exact h7
    have g8 : ∀ c d : D, ((env.set 8 (some c)).set 9 (some d))[8]? = some (some c) := fun c d => by rw [List.getElem?_set_ne (by decide), List.getElem?_set_self (by omega)]
    have g9 : ∀ c d : D, ((env.set 8 (some c)).set 9 (some d))[9]? = some (some d) := fun c d => by rw [List.getElem?_set_self (by rw [List.length_set]; omega)]
    have hx : okS x = true := hW x (by rw [e]; simp)
    have hpre : W.take pre.length = pre := by rw [e]; simp
    have hpl : pre.length ≤ W.length := by rw [e, List.length_append]; omega
    have rec1 : Q ((acc ++ dd B (pre ++ [x]) ws).map D.str) st → dLcGo (gTp 2 (gsCons (gNm 8) (gsCons (gNm 9) gsNil))) (dAnd (dTst (dOp (rdIn true) (dVar 9) (dVar 7))) (dTst (dOp (rdIn true) (dVar 9) (dSl (dVar 3) dNoPart (dPart (dVar 8)))))) (dVar 9) env (enumD ((pre.length : Int) + 1) (ws.map D.str)) (acc.map D.str) st Q := fun hq => by
      have := dd_comp hl h3 h7 hW hB hz ws (pre ++ [x]) acc (by rw [e]; simp) (by rw [List.length_append]; omega) hq
      rw [List.length_append, List.length_singleton] at this
      exact this
    simp only [List.map_cons, enumD, dLcGo, dSeq, dAsg, dVar, dC, dCall, dCons, dNil, dOp, dUn, dTup, dLst, dLstM, dRet, dRetN, dNext, dDrop, dIfS, dTst, dAnd, dOr, dNot, dAndV, dOrV, dNotV, dIf, dPar, dPar3, dAsgG, gNm, gTp, gsCons, gsNil, dCB, dMt, dMt0, dSl, dPart, dNoPart, dKGet, dGet2, dDisp, dDispM, dpCons, dpNil, dFrz, dYes, rdSub, rdFdiv, rdMod, rdPow, rdLt, rdLe, rdGt, rdGe, rdAbs, rdMax, rdMin, rdI, rdI1, rdI2, rdNeg, rdInt, List.set_cons_zero, List.set_cons_succ, List.getElem?_cons_zero, List.getElem?_cons_succ, g3, g7, g8, g9]
    refine ⟨rfl, ?_⟩
    refine in_strs (ys := B) rfl hx hB ?_
    by_cases c1 : x ∈ B
    · simp only [c1, decide_true, bne_self_eq_false, Bool.false_eq_true, if_false]
      exact rec1 (by unfold dd at h; rw [if_pos (by simp [c1])] at h; exact h)
    · simp only [c1, decide_false, Bool.false_bne, if_true, rdSl, look]
      refine in_strs (ys := pre) (by show D.lst (cutD (W.map D.str) none (some (pre.length : Int))) = _; rw [cutD_lo _ _ (by rw [List.length_map]; exact hpl), ← List.map_take, hpre]) hx (fun y hy => hW y (by rw [e]; exact List.mem_append_left _ hy)) ?_
      by_cases c2 : x ∈ pre
      · simp only [c2, decide_true, bne_self_eq_false, Bool.false_eq_true, if_false]
        exact rec1 (by unfold dd at h; rw [if_pos (by simp [c2])] at h; exact h)
      · simp only [c2, decide_false, Bool.false_bne, if_true]
        refine ⟨by rw [List.length_map, sizeLine_eq]; omega, ?_⟩
        unfold dd at h
        rw [if_neg (by simp [c1, c2])] at h
        have := dd_comp hl h3 h7 hW hB hz ws (pre ++ [x]) (acc ++ [x]) (by rw [e]; simp) (by rw [List.length_append, List.length_append]; exact Nat.add_le_add_right ha _) (by simpa using h)
        rw [List.length_append, List.length_singleton, List.map_append] at this
        exact this
def spNames : DSp := fun ds st Q _ => ∃ (n : Nat) (many : Int), ds = [.ref n, .int many] ∧ st n = some .box ∧ 0 ≤ many ∧ many ≤ 4 ∧ ∀ ys : List Str, ys.Nodup → (ys.length : Int) = many → (∀ y ∈ ys, Nm y) → Q (.lst (ys.map D.str)) st
theorem badW_ok : ∀ y ∈ badW, okS y = true := by decide +kernel
theorem oneW_ok : ∀ y ∈ oneW, 1 ≤ y.length ∧ y.length ≤ 8 ∧ ∀ c ∈ y.cps.toList, isLow c = true := by decide +kernel
theorem perm_map_str {ys : List D} {xs : List Str} (h : ys.Perm (xs.map D.str)) : ∃ zs : List Str, ys = zs.map D.str ∧ zs.Perm xs := by
  have hall : ∀ y ∈ ys, ∃ s : Str, y = .str s := fun y hy => by
    obtain ⟨s, _, e⟩ := List.mem_map.mp (h.mem_iff.mp hy)
    exact ⟨s, e.symm⟩
  let f : D → Str := fun d => match d with | .str s => s | _ => ""
  refine ⟨ys.map f, ?_, ?_⟩
  · rw [List.map_map]
    conv => lhs; rw [← List.map_id ys]
    apply List.map_congr_left
    intro y hy
    obtain ⟨s, rfl⟩ := hall y hy
    rfl
  · have := h.map f
    rw [List.map_map] at this
    have e : (f ∘ D.str) = id := rfl
    rw [e, List.map_id] at this
    exact this
theorem seq_letters (st : Sto) : seqOf st (.str letters) = some (signsD letters) := by
  unfold seqOf
  simp only [look]
  rw [if_pos (by rw [len_cps, letters_len, sizeLine_eq]; decide)]
theorem rd_names {n : Nat} {many : Int} {st : Sto} {Q : QD} (hn : st n = some .box) (h0 : 0 ≤ many) (h4 : many ≤ 4) (q : ∀ ys : List Str, ys.Nodup → (ys.length : Int) = many → (∀ y ∈ ys, Nm y) → Q (.lst (ys.map D.str)) st) :
    t__law_names spTake spMixed (ends Q) [some (.ref n), some (.int many), none, none, none, none, none, none, none, none, none] st := by
  simp only [t__law_names, dSeq, dAsg, dVar, dC, dCall, dCons, dNil, dOp, dUn, dTup, dLst, dLstM, dRet, dRetN, dNext, dDrop, dIfS, dTst, dAnd, dOr, dNot, dAndV, dOrV, dNotV, dIf, dPar, dPar3, dAsgG, gNm, gTp, gsCons, gsNil, dCB, dMt, dMt0, dSl, dPart, dNoPart, dKGet, dGet2, dDisp, dDispM, dpCons, dpNil, dFrz, dYes, rdSub, rdFdiv, rdMod, rdPow, rdLt, rdLe, rdGt, rdGe, rdAbs, rdMax, rdMin, rdI, rdI1, rdI2, rdNeg, rdInt, List.set_cons_zero, List.set_cons_succ, List.getElem?_cons_zero, List.getElem?_cons_succ]
  refine ⟨Nat.zero_le _, n, 4, rfl, by decide, by decide, hn, fun form f0 f1 => ⟨by simp [sizeLine_eq], rfl, ?_⟩⟩
  -- the stem
  have s1 : ∀ (stem : Str), (∀ c ∈ stem.cps.toList, isLow c = true) → stem.length ≤ 7 → t__law_names_r2 spTake spMixed (ends Q) [some (.ref n), some (.int many), some (.str letters), some (.lst []), some (.int form), some (.str stem), none, none, none, none, none] st := by
    intro stem hs hs7
    have hss : stem.length ≤ sizeLine := by rw [sizeLine_eq]; omega
    simp only [t__law_names_r2, dSeq, dAsg, dVar, dC, dCall, dCons, dNil, dOp, dUn, dTup, dLst, dLstM, dRet, dRetN, dNext, dDrop, dIfS, dTst, dAnd, dOr, dNot, dAndV, dOrV, dNotV, dIf, dPar, dPar3, dAsgG, gNm, gTp, gsCons, gsNil, dCB, dMt, dMt0, dSl, dPart, dNoPart, dKGet, dGet2, dDisp, dDispM, dpCons, dpNil, dFrz, dYes, rdSub, rdFdiv, rdMod, rdPow, rdLt, rdLe, rdGt, rdGe, rdAbs, rdMax, rdMin, rdI, rdI1, rdI2, rdNeg, rdInt, List.set_cons_zero, List.set_cons_succ, List.getElem?_cons_zero, List.getElem?_cons_succ, rdLen, rdAdd, look]
    refine ⟨hss, n, _, rfl, by omega, by omega, hn, fun a a0 a1 => ?_⟩
    have a2 : a ≤ stem.length := by omega
    -- the words
    have s3 : ∀ (base : List Str), (∀ y ∈ base, 1 ≤ y.length ∧ y.length ≤ 8 ∧ ∀ c ∈ y.cps.toList, isLow c = true) → base.length ≤ 100 → t__law_names_r4 spTake spMixed (ends Q) [some (.ref n), some (.int many), some (.str letters), some (.lst (base.map D.str)), some (.int form), some (.str stem), some (.int a), none, none, none, none] st := by
      intro base hb hbl
      simp only [t__law_names_r4, dSeq, dAsg, dVar, dC, dCall, dCons, dNil, dOp, dUn, dTup, dLst, dLstM, dRet, dRetN, dNext, dDrop, dIfS, dTst, dAnd, dOr, dNot, dAndV, dOrV, dNotV, dIf, dPar, dPar3, dAsgG, gNm, gTp, gsCons, gsNil, dCB, dMt, dMt0, dSl, dPart, dNoPart, dKGet, dGet2, dDisp, dDispM, dpCons, dpNil, dFrz, dYes, rdSub, rdFdiv, rdMod, rdPow, rdLt, rdLe, rdGt, rdGe, rdAbs, rdMax, rdMin, rdI, rdI1, rdI2, rdNeg, rdInt, List.set_cons_zero, List.set_cons_succ, List.getElem?_cons_zero, List.getElem?_cons_succ, dLc, dIt]
      refine ⟨n, .str letters, signsD letters, rfl, hn, seq_letters st, by unfold signsD; rw [List.length_map, letters_len]; decide, fun ys hp => ?_⟩
      -- ys: the letters in some order
      obtain ⟨zs, rfl, hz⟩ : ∃ zs : List Nat, ys = zs.map (fun c => D.str ⟨#[c]⟩) ∧ zs.Perm letters.cps.toList := by
        have hall : ∀ y ∈ ys, ∃ c : Nat, y = .str ⟨#[c]⟩ := fun y hy => by
          obtain ⟨c, _, e⟩ := List.mem_map.mp (hp.mem_iff.mp hy)
          exact ⟨c, e.symm⟩
        let f : D → Nat := fun d => match d with | .str s => s.cps.toList.headD 0 | _ => 0
        refine ⟨ys.map f, ?_, ?_⟩
        · rw [List.map_map]
          conv => lhs; rw [← List.map_id ys]
          apply List.map_congr_left
          intro y hy
          obtain ⟨c, rfl⟩ := hall y hy
          rfl
        · have := hp.map f
          unfold signsD at this
          rw [List.map_map] at this
          have e : (f ∘ fun c : Nat => D.str ⟨#[c]⟩) = id := rfl
          rw [e, List.map_id] at this
          exact this
      have hz26 : zs.length = 26 := hz.length_eq.trans letters_len
      have hznd : zs.Nodup := hz.nodup_iff.mpr letters_nd
      have hzlow : ∀ c ∈ zs, isLow c = true := fun c hc => low_letters c (hz.mem_iff.mp hc)
      simp only [itemsOf]
      refine word_comp (acc := []) (stem := stem) (a := a) (wipeD_len _ _) rfl rfl (by omega) zs (by rw [hz26]; decide) ?_
      -- the whole list
      let W : List Str := base ++ zs.map (wordOf stem a)
      have hWl : W.length ≤ 126 := by show (base ++ zs.map (wordOf stem a)).length ≤ _; rw [List.length_append, List.length_map, hz26]; omega
      have hWn : ∀ y ∈ W, 1 ≤ y.length ∧ y.length ≤ 8 ∧ ∀ c ∈ y.cps.toList, isLow c = true := fun y hy => by
        rcases List.mem_append.mp hy with hy | hy
        · exact hb y hy
        · obtain ⟨c, hc, rfl⟩ := List.mem_map.mp hy
          have := wordOf_len a0 a2 c
          exact ⟨by omega, by omega, wordOf_low a0 a2 hs (hzlow c hc)⟩
      have hWok : ∀ y ∈ W, okS y = true := fun y hy => low_okS (hWn y hy).2.2
      have hF4 : 4 ≤ (dd badW [] W).length := by
        have hnd : (zs.map (wordOf stem a)).Nodup := List.pairwise_map.mpr (hznd.imp fun h e => h (wordOf_inj a0 a2 e))
        have k1 := nd_split (zs.map (wordOf stem a)) badW hnd
        rw [List.length_map, hz26] at k1
        have k2 := nd_le ((zs.map (wordOf stem a)).filter fun x => !badW.contains x) (dd badW [] W) (hnd.filter _) fun x hx => by
          obtain ⟨x1, x2⟩ := List.mem_filter.mp hx
          exact dd_all badW W [] x (List.mem_append_right _ x1) (by simpa using x2) (by simp)
        have k3 : badW.length = 22 := rfl
        omega
      simp only [rdAdd, look, List.nil_append]
      refine ⟨by rw [List.length_map, List.length_map, List.length_map, hz26, sizeLine_eq]; omega, ?_⟩
      rw [← List.map_append]
      show t__law_names_r5 spTake spMixed (ends Q) [some (.ref n), some (.int many), some (.str letters), some (.lst (W.map D.str)), some (.int form), some (.str stem), some (.int a), none, none, none, none] st
      simp only [t__law_names_r5, t__law_names_r6, dSeq, dAsg, dVar, dC, dCall, dCons, dNil, dOp, dUn, dTup, dLst, dLstM, dRet, dRetN, dNext, dDrop, dIfS, dTst, dAnd, dOr, dNot, dAndV, dOrV, dNotV, dIf, dPar, dPar3, dAsgG, gNm, gTp, gsCons, gsNil, dCB, dMt, dMt0, dSl, dPart, dNoPart, dKGet, dGet2, dDisp, dDispM, dpCons, dpNil, dFrz, dYes, rdSub, rdFdiv, rdMod, rdPow, rdLt, rdLe, rdGt, rdGe, rdAbs, rdMax, rdMin, rdI, rdI1, rdI2, rdNeg, rdInt, List.set_cons_zero, List.set_cons_succ, List.getElem?_cons_zero, List.getElem?_cons_succ, rdAdd, look, dSplit, badW_split]
      refine ⟨by decide +kernel, by decide +kernel, ?_⟩
      simp only [t__law_names_r7, dSeq, dAsg, dVar, dC, dCall, dCons, dNil, dOp, dUn, dTup, dLst, dLstM, dRet, dRetN, dNext, dDrop, dIfS, dTst, dAnd, dOr, dNot, dAndV, dOrV, dNotV, dIf, dPar, dPar3, dAsgG, gNm, gTp, gsCons, gsNil, dCB, dMt, dMt0, dSl, dPart, dNoPart, dKGet, dGet2, dDisp, dDispM, dpCons, dpNil, dFrz, dYes, rdSub, rdFdiv, rdMod, rdPow, rdLt, rdLe, rdGt, rdGe, rdAbs, rdMax, rdMin, rdI, rdI1, rdI2, rdNeg, rdInt, List.set_cons_zero, List.set_cons_succ, List.getElem?_cons_zero, List.getElem?_cons_succ, dLc, dEn, itemsOf]
      refine dd_comp (W := W) (B := badW) (acc := []) (pre := []) (wipeD_len _ _) rfl rfl hWok badW_ok (by omega) W rfl (Nat.le_refl _) ?_
      simp only [List.nil_append, t__law_names_r8, dSeq, dAsg, dVar, dC, dCall, dCons, dNil, dOp, dUn, dTup, dLst, dLstM, dRet, dRetN, dNext, dDrop, dIfS, dTst, dAnd, dOr, dNot, dAndV, dOrV, dNotV, dIf, dPar, dPar3, dAsgG, gNm, gTp, gsCons, gsNil, dCB, dMt, dMt0, dSl, dPart, dNoPart, dKGet, dGet2, dDisp, dDispM, dpCons, dpNil, dFrz, dYes, rdSub, rdFdiv, rdMod, rdPow, rdLt, rdLe, rdGt, rdGe, rdAbs, rdMax, rdMin, rdI, rdI1, rdI2, rdNeg, rdInt, List.set_cons_zero, List.set_cons_succ, List.getElem?_cons_zero, List.getElem?_cons_succ, rdSl, look]
      rw [cutD_lo' _ _ h0, ← List.map_take]
      refine ⟨n, _, ((dd badW [] W).take many.toNat).map D.str, rfl, hn, rfl, by rw [List.length_map, List.length_take]; omega, fun ys hp => ?_⟩
      obtain ⟨us, rfl, hu⟩ := perm_map_str hp
      refine sb (q us (hu.nodup_iff.mpr ((dd_nodup badW W []).sublist (List.take_sublist _ _))) ?_ fun y hy => ?_)
      · rw [hu.length_eq, List.length_take]; omega
      · have hy2 := List.mem_of_mem_take (hu.mem_iff.mp hy)
        obtain ⟨y1, y2, _⟩ := dd_mem badW W [] y hy2
        have := hWn y y1
        exact ⟨this.1, this.2.1, this.2.2, y2⟩
    simp only [t__law_names_r3, dSeq, dAsg, dVar, dC, dCall, dCons, dNil, dOp, dUn, dTup, dLst, dLstM, dRet, dRetN, dNext, dDrop, dIfS, dTst, dAnd, dOr, dNot, dAndV, dOrV, dNotV, dIf, dPar, dPar3, dAsgG, gNm, gTp, gsCons, gsNil, dCB, dMt, dMt0, dSl, dPart, dNoPart, dKGet, dGet2, dDisp, dDispM, dpCons, dpNil, dFrz, dYes, rdSub, rdFdiv, rdMod, rdPow, rdLt, rdLe, rdGt, rdGe, rdAbs, rdMax, rdMin, rdI, rdI1, rdI2, rdNeg, rdInt, List.set_cons_zero, List.set_cons_succ, List.getElem?_cons_zero, List.getElem?_cons_succ, rdEq, dSplit, oneW_split]
    by_cases c : form = 0
    · simp only [c, decide_true, Bool.true_bne, Bool.not_false, if_true]
      refine ⟨by decide +kernel, ?_⟩
      have := s3 oneW oneW_ok (by decide +kernel)
      rw [c] at this
      exact this
    · simp only [c, decide_false, bne_self_eq_false, Bool.false_eq_true, if_false]
      exact s3 [] (fun y hy => by cases hy) (by decide)
  show t__law_names_r1 spTake spMixed (ends Q) [some (.ref n), some (.int many), some (.str letters), some (.lst []), some (.int form), none, none, none, none, none, none] st
  simp only [t__law_names_r1, dSeq, dAsg, dVar, dC, dCall, dCons, dNil, dOp, dUn, dTup, dLst, dLstM, dRet, dRetN, dNext, dDrop, dIfS, dTst, dAnd, dOr, dNot, dAndV, dOrV, dNotV, dIf, dPar, dPar3, dAsgG, gNm, gTp, gsCons, gsNil, dCB, dMt, dMt0, dSl, dPart, dNoPart, dKGet, dGet2, dDisp, dDispM, dpCons, dpNil, dFrz, dYes, rdSub, rdFdiv, rdMod, rdPow, rdLt, rdLe, rdGt, rdGe, rdAbs, rdMax, rdMin, rdI, rdI1, rdI2, rdNeg, rdInt, List.set_cons_zero, List.set_cons_succ, List.getElem?_cons_zero, List.getElem?_cons_succ, dJoin, dLc, dRg1]
  refine ⟨by simp [sizeLine_eq], n, 4, rfl, by decide, by decide, hn, fun r r0 r1 => ?_⟩
  have hk : ∃ k : Nat, k ≤ 7 ∧ atI [D.int 0, D.int 1, D.int 3, D.int 7] r = some (.int k) := by
    have : r = 0 ∨ r = 1 ∨ r = 2 ∨ r = 3 := by omega
    rcases this with rfl | rfl | rfl | rfl
    · exact ⟨0, by decide, rfl⟩
    · exact ⟨1, by decide, rfl⟩
    · exact ⟨3, by decide, rfl⟩
    · exact ⟨7, by decide, rfl⟩
  obtain ⟨k, k7, ek⟩ := hk
  show rdIx (.lst [.int 0, .int 1, .int 3, .int 7]) (.int r) st _
  rw [rdIx_nf]
  simp only [look, ek, onS_some, Int.toNat_natCast]
  refine ⟨⟨by omega, by omega⟩, ?_⟩
  refine stem_comp (acc := []) hn rfl rfl k 0 (fun c hc => by cases hc) (by rw [List.length_nil]; omega) fun cs hcs hcl => ?_
  have e : (cs.map fun c => D.str ⟨#[c]⟩) = (cs.map fun c => (⟨#[c]⟩ : Str)).map D.str := by rw [List.map_map]; rfl
  simp only [seqL, look, e, strsOf_map]
  refine ⟨_, rfl, ?_, ?_⟩
  · rw [sum_ones, List.length_map]
    have : (("" : Str)).length = 0 := rfl
    rw [this, hcl, List.length_nil]; omega
  · refine s1 _ (by rw [join_ones]; exact hcs) (by rw [len_cps, join_ones, hcl, List.length_nil]; omega)
end TL
namespace TL
open PySem PySem.Spec PyProof.Rows L2
def t__law_value_r1 (_law_pick : DSp) (_law_take : DSp) : TDS :=
  (dRet (dOp rdIx (dLst (dCons (dOp rdSub (dCall _law_take (dCons (dVar 0) (dCons (dC (.int 10)) dNil))) (dC (.int 4))) (dCons (dOp rdSub (dCall _law_take (dCons (dVar 0) (dCons (dC (.int 10)) dNil))) (dC (.int 4))) (dCons (dOp rdSub (dCall _law_take (dCons (dVar 0) (dCons (dC (.int 1999)) dNil))) (dC (.int 999))) dNil)))) (dOp rdFdiv (dCall _law_take (dCons (dVar 0) (dCons (dC (.int 9)) dNil))) (dC (.int 4)))))
def t__law_value (_law_pick : DSp) (_law_take : DSp) : TDS :=
  (dSeq (dIfS (dTst (dOp (rdEq false) (dVar 1) (dC (.str "word"))))
  (dRet (dCall _law_pick (dCons (dVar 0) (dCons (dLst (dCons (dC (.str "red")) (dCons (dC (.str "soft")) (dCons (dC (.str "a")) (dCons (dC (.str "red")) (dCons (dC (.str "none")) (dCons (dC (.str "abcdefgh")) dNil))))))) dNil))))
  dNext)
  (t__law_value_r1 _law_pick _law_take))
theorem st__law_value (ds : List D) : startD ["_law_box_here", "_law_sort"] ds = ds.map some ++ List.replicate (2 - ds.length) none := rfl
def t__law_number (_law_take : DSp) : TDS :=
  (dRet (dIf (dTst (dOp rdGt (dCall _law_take (dCons (dVar 0) (dCons (dC (.int 8)) dNil))) (dC (.int 0)))) (dOp rdSub (dCall _law_take (dCons (dVar 0) (dCons (dC (.int 9)) dNil))) (dC (.int 3))) (dOp rdSub (dCall _law_take (dCons (dVar 0) (dCons (dC (.int 2001)) dNil))) (dC (.int 1000)))))
theorem st__law_number (ds : List D) : startD ["_law_box_here"] ds = ds.map some ++ List.replicate (1 - ds.length) none := rfl
def t__law_hook_b1 (_law_names : DSp) (_law_take : DSp) (_law_pick : DSp) (_law_value : DSp) : TDS :=
  (dSeq (dAsg 10 (dCall _law_pick (dCons (dVar 0) (dCons (dVar 4) dNil))))
  (dSeq (dAsg 8 (dOrV (dAndV (dVar 8) (dOp rdLt (dVar 9) (dVar 6))) (dOp (rdEq false) (dCall _law_take (dCons (dVar 0) (dCons (dC (.int 3)) dNil))) (dC (.int 0)))))
  (dSeq (dAsg 8 (dAndV (dVar 8) (dNotV (dAndV (dOp (rdEq false) (dVar 2) (dC (.str "through"))) (dOp (rdEq false) (dVar 9) (dC (.int 0)))))))
  (dDrop (dMt rdAppend (dVar 7) (dCons (dTup (dCons (dOp rdIx (dVar 3) (dVar 9)) (dCons (dVar 10) (dCons (dIf (dTst (dVar 8)) (dCall _law_value (dCons (dVar 0) (dCons (dVar 10) dNil))) (dC .non)) dNil)))) dNil))))))
def t__law_hook_r8 (_law_names : DSp) (_law_take : DSp) (_law_pick : DSp) (_law_value : DSp) : TDS :=
  (dRet (dTup (dCons (dVar 1) (dCons (dVar 2) (dCons (dSl (dVar 7) dNoPart (dPart (dVar 6))) (dCons (dSl (dVar 7) (dPart (dVar 6)) dNoPart) (dCons (dVar 11) dNil)))))))
def t__law_hook_r7 (_law_names : DSp) (_law_take : DSp) (_law_pick : DSp) (_law_value : DSp) : TDS :=
  (dSeq (dAsg 11 (dIf (dTst (dOp (rdEq false) (dVar 2) (dC (.str "through")))) (dOp rdIx (dOp rdIx (dVar 7) (dC (.int 0))) (dC (.int 1))) (dCall _law_pick (dCons (dVar 0) (dCons (dVar 4) dNil)))))
  (t__law_hook_r8 _law_names _law_take _law_pick _law_value))
def t__law_hook_r6 (_law_names : DSp) (_law_take : DSp) (_law_pick : DSp) (_law_value : DSp) : TDS :=
  (dSeq (dFor (dRg1 (dVar 5)) (gNm 9)
  (t__law_hook_b1 _law_names _law_take _law_pick _law_value))
  (t__law_hook_r7 _law_names _law_take _law_pick _law_value))
def t__law_hook_r5 (_law_names : DSp) (_law_take : DSp) (_law_pick : DSp) (_law_value : DSp) : TDS :=
  (dSeq (dPar 7 8 (dCons (dLstM dNil) (dCons (dC (.bl false)) dNil)))
  (t__law_hook_r6 _law_names _law_take _law_pick _law_value))
def t__law_hook_r4 (_law_names : DSp) (_law_take : DSp) (_law_pick : DSp) (_law_value : DSp) : TDS :=
  (dSeq (dAsg 6 (dIf (dTst (dOp (rdEq false) (dVar 2) (dC (.str "through")))) (dCB rdMax (dCons (dVar 6) (dCons (dC (.int 1)) dNil))) (dVar 6)))
  (t__law_hook_r5 _law_names _law_take _law_pick _law_value))
def t__law_hook_r3 (_law_names : DSp) (_law_take : DSp) (_law_pick : DSp) (_law_value : DSp) : TDS :=
  (dSeq (dAsg 6 (dOp rdSub (dVar 5) (dCall _law_take (dCons (dVar 0) (dCons (dOp rdAdd (dVar 5) (dC (.int 1))) dNil)))))
  (t__law_hook_r4 _law_names _law_take _law_pick _law_value))
def t__law_hook_r2 (_law_names : DSp) (_law_take : DSp) (_law_pick : DSp) (_law_value : DSp) : TDS :=
  (dSeq (dAsg 5 (dIf (dTst (dOp (rdEq false) (dVar 2) (dC (.str "through")))) (dCB rdMax (dCons (dVar 5) (dCons (dC (.int 1)) dNil))) (dVar 5)))
  (t__law_hook_r3 _law_names _law_take _law_pick _law_value))
def t__law_hook_r1 (_law_names : DSp) (_law_take : DSp) (_law_pick : DSp) (_law_value : DSp) : TDS :=
  (dSeq (dAsg 5 (dCall _law_take (dCons (dVar 0) (dCons (dC (.int 4)) dNil))))
  (t__law_hook_r2 _law_names _law_take _law_pick _law_value))
def t__law_hook (_law_names : DSp) (_law_take : DSp) (_law_pick : DSp) (_law_value : DSp) : TDS :=
  (dSeq (dPar 3 4 (dCons (dCall _law_names (dCons (dVar 0) (dCons (dC (.int 3)) dNil))) (dCons (dLst (dCons (dC (.str "number")) (dCons (dC (.str "number")) (dCons (dC (.str "word")) dNil)))) dNil)))
  (t__law_hook_r1 _law_names _law_take _law_pick _law_value))
theorem st__law_hook (ds : List D) : startD ["_law_box_here", "_law_name", "_law_kind", "_law_names_here", "_law_sorts", "_law_many", "_law_wide", "_law_some", "_law_late", "_law_k", "_law_sort", "_law_outs"] ds = ds.map some ++ List.replicate (12 - ds.length) none := rfl
def t__law_world_r1 : TDS :=
  (dRet (dDispM (dpCons (.inr "params") (dVar 1) (dpCons (.inr "gives") (dOp rdIx (dVar 0) (dC (.int 4))) (dpCons (.inr "tests") (dC (.int 10)) (dpCons (.inr "plus") (dC (.int 4)) dpNil))))))
def t__law_world : TDS :=
  (dSeq (dAsg 1 (dLc (dIt (dOp rdAdd (dOp rdIx (dVar 0) (dC (.int 2))) (dOp rdIx (dVar 0) (dC (.int 3))))) (gTp 3 (gsCons (gNm 2) (gsCons (gNm 3) (gsCons (gNm 4) gsNil)))) dYes (dTup (dCons (dVar 2) (dCons (dVar 3) dNil))) [2, 3, 4]))
  (t__law_world_r1))
theorem st__law_world (ds : List D) : startD ["_law_hook_here", "_law_params", "_law_name", "_law_sort", "_law_default"] ds = ds.map some ++ List.replicate (5 - ds.length) none := rfl
def t__law_can_test : TDS :=
  (dRet (dAndV (dOp rdGt (dOp rdIx (dVar 0) (dC (.str "tests"))) (dC (.int 0))) (dOrV (dOp (rdEq true) (dOp rdIx (dVar 0) (dC (.str "params"))) (dLst dNil)) (dOp (rdIsN true) (dVar 1) (dC .non)))))
theorem st__law_can_test (ds : List D) : startD ["_law_world_here", "_law_inner"] ds = ds.map some ++ List.replicate (2 - ds.length) none := rfl
def isSort (s : Str) : Prop := s = "number" ∨ s = "word"
def wordsV : List Str := ["red", "soft", "a", "red", "none", "abcdefgh"]
def VOk (sort : Str) (d : D) : Prop := (sort = "word" ∧ ∃ w ∈ wordsV, d = .str w) ∨ (sort = "number" ∧ ∃ k : Int, -999 ≤ k ∧ k ≤ 999 ∧ d = .int k)
def spValue : DSp := fun ds st Q _ => ∃ n sort, ds = [.ref n, .str sort] ∧ isSort sort ∧ st n = some .box ∧ ∀ d, VOk sort d → Q d st
def spNumber : DSp := fun ds st Q _ => ∃ n, ds = [.ref n] ∧ st n = some .box ∧ ∀ k : Int, -1000 ≤ k → k ≤ 1000 → Q (.int k) st
theorem nw : ¬ (("number" : Str) = "word") := by decide +kernel
theorem wn : ¬ (("word" : Str) = "number") := by decide +kernel
theorem rd_number {n : Nat} {st : Sto} {Q : QD} (hn : st n = some .box) (q : ∀ k : Int, -1000 ≤ k → k ≤ 1000 → Q (.int k) st) : t__law_number spTake (ends Q) [some (.ref n)] st := by
  simp only [t__law_number, dSeq, dAsg, dVar, dC, dCall, dCons, dNil, dOp, dUn, dTup, dLst, dLstM, dRet, dRetN, dNext, dDrop, dIfS, dTst, dAnd, dOr, dNot, dAndV, dOrV, dNotV, dIf, dPar, dPar3, dAsgG, gNm, gTp, gsCons, gsNil, dCB, dMt, dMt0, dSl, dPart, dNoPart, dKGet, dGet2, dDisp, dDispM, dpCons, dpNil, dFrz, dYes, rdSub, rdFdiv, rdMod, rdPow, rdLt, rdLe, rdGt, rdGe, rdAbs, rdMax, rdMin, rdI, rdI1, rdI2, rdNeg, rdInt, List.set_cons_zero, List.set_cons_succ, List.getElem?_cons_zero, List.getElem?_cons_succ, true_and]
  refine ⟨n, _, rfl, by decide, by decide, hn, fun r r0 r1 => ?_⟩
  show if _ then _ else _
  refine ite2 (fun _ => ⟨n, _, rfl, by decide, by decide, hn, fun r r0 r1 => ?_⟩) (fun _ => ⟨n, _, rfl, by decide, by decide, hn, fun r r0 r1 => ?_⟩)
  · exact sb (q (r - 3) (by omega) (by omega))
  · exact sb (q (r - 1000) (by omega) (by omega))
theorem rd_value {n : Nat} {sort : Str} {st : Sto} {Q : QD} (hs : isSort sort) (hn : st n = some .box) (q : ∀ d, VOk sort d → Q d st) : t__law_value spPick spTake (ends Q) [some (.ref n), some (.str sort)] st := by
  simp only [t__law_value, dSeq, dAsg, dVar, dC, dCall, dCons, dNil, dOp, dUn, dTup, dLst, dLstM, dRet, dRetN, dNext, dDrop, dIfS, dTst, dAnd, dOr, dNot, dAndV, dOrV, dNotV, dIf, dPar, dPar3, dAsgG, gNm, gTp, gsCons, gsNil, dCB, dMt, dMt0, dSl, dPart, dNoPart, dKGet, dGet2, dDisp, dDispM, dpCons, dpNil, dFrz, dYes, rdSub, rdFdiv, rdMod, rdPow, rdLt, rdLe, rdGt, rdGe, rdAbs, rdMax, rdMin, rdI, rdI1, rdI2, rdNeg, rdInt, List.set_cons_zero, List.set_cons_succ, List.getElem?_cons_zero, List.getElem?_cons_succ, rdEq]
  rcases hs with rfl | rfl
  · rw [if_neg (by simp [nw])]
    simp only [t__law_value_r1, dSeq, dAsg, dVar, dC, dCall, dCons, dNil, dOp, dUn, dTup, dLst, dLstM, dRet, dRetN, dNext, dDrop, dIfS, dTst, dAnd, dOr, dNot, dAndV, dOrV, dNotV, dIf, dPar, dPar3, dAsgG, gNm, gTp, gsCons, gsNil, dCB, dMt, dMt0, dSl, dPart, dNoPart, dKGet, dGet2, dDisp, dDispM, dpCons, dpNil, dFrz, dYes, rdSub, rdFdiv, rdMod, rdPow, rdLt, rdLe, rdGt, rdGe, rdAbs, rdMax, rdMin, rdI, rdI1, rdI2, rdNeg, rdInt, List.set_cons_zero, List.set_cons_succ, List.getElem?_cons_zero, List.getElem?_cons_succ]
    refine ⟨n, _, rfl, by decide, by decide, hn, fun r1 a1 b1 => ⟨trivial, n, _, rfl, by decide, by decide, hn, fun r2 a2 b2 => ⟨trivial, n, _, rfl, by decide, by decide, hn, fun r3 a3 b3 => ⟨trivial, by simp [sizeLine_eq], n, _, rfl, by decide, by decide, hn, fun r4 a4 b4 => ⟨⟨by decide, by decide⟩, ?_⟩⟩⟩⟩⟩
    have key : ∃ k : Int, -999 ≤ k ∧ k ≤ 999 ∧ atI [D.int (r1 - 4), D.int (r2 - 4), D.int (r3 - 999)] (r4 / 4) = some (.int k) := by
      have : r4 / 4 = 0 ∨ r4 / 4 = 1 ∨ r4 / 4 = 2 := by omega
      rcases this with e | e | e <;> rw [e]
      · exact ⟨r1 - 4, by omega, by omega, rfl⟩
      · exact ⟨r2 - 4, by omega, by omega, rfl⟩
      · exact ⟨r3 - 999, by omega, by omega, rfl⟩
    obtain ⟨k, k1, k2, ek⟩ := key
    rw [rdIx_nf]
    simp only [look, ek, onS_some]
    exact sb (q _ (.inr ⟨rfl, k, k1, k2, rfl⟩))
  · rw [if_pos (by simp)]
    refine ⟨by simp [sizeLine_eq], n, _, wordsV.map D.str, rfl, hn, rfl, by simp [wordsV], by simp [wordsV], fun x hx => ?_⟩
    obtain ⟨w, hw, rfl⟩ := List.mem_map.mp hx
    exact sb (q _ (.inl ⟨rfl, w, hw, rfl⟩))
/-! ### hooks -/
abbrev Prm := Str × Str × D
def Prm.d (p : Prm) : D := .tup [.str p.1, .str p.2.1, p.2.2]
def Prm.ok (p : Prm) : Prop := Nm p.1 ∧ isSort p.2.1 ∧ (p.2.2 = .non ∨ VOk p.2.1 p.2.2)
def hookD (name kind : Str) (es ls : List Prm) (outs : Str) : D := .tup [.str name, .str kind, .lst (es.map Prm.d), .lst (ls.map Prm.d), .str outs]
structure HookOk (es ls : List Prm) (outs : Str) : Prop where
  ok : ∀ p ∈ es ++ ls, p.ok
  few : (es ++ ls).length ≤ 3
  nd : ((es ++ ls).map (·.1)).Nodup
  outs : isSort outs
def spHook : DSp := fun ds st Q _ => ∃ n name kind, ds = [.ref n, .str name, .str kind] ∧ st n = some .box ∧ ∀ es ls outs, HookOk es ls outs → Q (hookD name kind es ls outs) st
theorem sorts_mem {x : D} (h : x ∈ [D.str "number", D.str "number", D.str "word"]) : ∃ s, isSort s ∧ x = .str s := by
  simp only [List.mem_cons, List.not_mem_nil, or_false] at h
  rcases h with rfl | rfl | rfl
  · exact ⟨_, .inl rfl, rfl⟩
  · exact ⟨_, .inl rfl, rfl⟩
  · exact ⟨_, .inr rfl, rfl⟩
theorem hook_loop {n f : Nat} {name kind : Str} {ys : List Str} {many wide : Int} {R : DEnds} {st0 : Sto} {c11 : Option D} (hn : st0 n = some .box) (hf : st0 f = none) (hyl : ys.length = 3) (hy : ∀ y ∈ ys, Nm y) : ∀ (k : Nat) (i : Nat) (ps : List Prm) (late : Bool) (c9 c10 : Option D), i + k ≤ 3 → ps.length = i → ps.map (·.1) = ys.take i → (∀ p ∈ ps, p.ok) →
    (∀ (ps : List Prm) (late : Bool) (c9 c10 : Option D), ps.length = i + k → ps.map (·.1) = ys.take (i + k) → (∀ p ∈ ps, p.ok) → R.nx [some (.ref n), some (.str name), some (.str kind), some (.lst (ys.map D.str)), some (.lst [.str "number", .str "number", .str "word"]), some (.int many), some (.int wide), some (.ref f), some (.bl late), c9, c10, c11] (sup st0 f (.lst (ps.map Prm.d)))) →
    dLoop (gNm 9) (t__law_hook_b1 spNames spTake spPick spValue) R (rangeD (i : Int) k) [some (.ref n), some (.str name), some (.str kind), some (.lst (ys.map D.str)), some (.lst [.str "number", .str "number", .str "word"]), some (.int many), some (.int wide), some (.ref f), some (.bl late), c9, c10, c11] (sup st0 f (.lst (ps.map Prm.d)))
  | 0, i, ps, late, c9, c10, _, h1, h2, h3, h => h ps late c9 c10 h1 h2 h3
  | k + 1, i, ps, late, c9, c10, hi, h1, h2, h3, h => by
    have nf : n ≠ f := by rintro rfl; rw [hn] at hf; cases hf
    have hn' : ∀ m, sup st0 f m n = some .box := fun m => by rw [sup_ne nf]; exact hn
    simp only [rangeD_succ, dLoop, t__law_hook_b1, dSeq, dAsg, dVar, dC, dCall, dCons, dNil, dOp, dUn, dTup, dLst, dLstM, dRet, dRetN, dNext, dDrop, dIfS, dTst, dAnd, dOr, dNot, dAndV, dOrV, dNotV, dIf, dPar, dPar3, dAsgG, gNm, gTp, gsCons, gsNil, dCB, dMt, dMt0, dSl, dPart, dNoPart, dKGet, dGet2, dDisp, dDispM, dpCons, dpNil, dFrz, dYes, rdSub, rdFdiv, rdMod, rdPow, rdLt, rdLe, rdGt, rdGe, rdAbs, rdMax, rdMin, rdI, rdI1, rdI2, rdNeg, rdInt, List.set_cons_zero, List.set_cons_succ, List.getElem?_cons_zero, List.getElem?_cons_succ, true_and]
    refine ⟨n, _, [.str "number", .str "number", .str "word"], rfl, hn' _, rfl, by simp, by simp, fun x hx => ?_⟩
    obtain ⟨s, hs, rfl⟩ := sorts_mem hx
    -- the rest of the body, for any bool
    have hil : i < ys.length := by omega
    have rest : ∀ (late2 : Bool), (dDrop (dMt rdAppend (dVar 7) (dCons (dTup (dCons (dOp rdIx (dVar 3) (dVar 9)) (dCons (dVar 10) (dCons (dIf (dTst (dVar 8)) (dCall spValue (dCons (dVar 0) (dCons (dVar 10) dNil))) (dC .non)) dNil)))) dNil))) { R with nx := dLoop (gNm 9) (t__law_hook_b1 spNames spTake spPick spValue) R (rangeD ((i : Int) + 1) k), ct := dLoop (gNm 9) (t__law_hook_b1 spNames spTake spPick spValue) R (rangeD ((i : Int) + 1) k), bk := R.nx } [some (.ref n), some (.str name), some (.str kind), some (.lst (ys.map D.str)), some (.lst [.str "number", .str "number", .str "word"]), some (.int many), some (.int wide), some (.ref f), some (.bl late2), some (.int i), some (.str s), c11] (sup st0 f (.lst (ps.map Prm.d))) := by
      intro late2
      have ei : atI (ys.map D.str) (i : Int) = some (.str ys[i]) := by
        unfold atI ixN
        rw [if_pos (by omega), if_pos (by rw [List.length_map]; omega)]
        show (ys.map D.str)[(i : Int).toNat]? = _
        rw [Int.toNat_natCast, List.getElem?_map, List.getElem?_eq_getElem hil]; rfl
      have fin : ∀ dft : D, (dft = .non ∨ VOk s dft) → rdAppend (.ref f) [.tup [.str ys[i], .str s, dft]] (sup st0 f (.lst (ps.map Prm.d))) fun _ st1 => dLoop (gNm 9) (t__law_hook_b1 spNames spTake spPick spValue) R (rangeD ((i : Int) + 1) k) [some (.ref n), some (.str name), some (.str kind), some (.lst (ys.map D.str)), some (.lst [.str "number", .str "number", .str "word"]), some (.int many), some (.int wide), some (.ref f), some (.bl late2), some (.int i), some (.str s), c11] st1 := by
        intro dft hd
        refine append_of sup_same (by rw [List.length_map, sizeLine_eq]; omega) ?_
        rw [sup_sup]
        have := hook_loop (name := name) (kind := kind) (many := many) (wide := wide) (R := R) (c11 := c11) hn hf hyl hy k (i + 1) (ps ++ [(ys[i], s, dft)]) late2 (some (.int i)) (some (.str s)) (by omega) (by rw [List.length_append, h1]; rfl) (by rw [List.map_append, h2, List.take_add_one, List.getElem?_eq_getElem hil]; rfl) (fun p hp => by
          rcases List.mem_append.mp hp with hp | hp
          · exact h3 p hp
          · rw [List.mem_singleton.mp hp]; exact ⟨hy _ (List.getElem_mem hil), hs, hd⟩) (fun ps' l a b e1 e2 e3 => h ps' l a b (by omega) (by rw [e2]; congr 1; omega) e3)
        rw [List.map_append] at this
        exact this
      simp only [dSeq, dAsg, dVar, dC, dCall, dCons, dNil, dOp, dUn, dTup, dLst, dLstM, dRet, dRetN, dNext, dDrop, dIfS, dTst, dAnd, dOr, dNot, dAndV, dOrV, dNotV, dIf, dPar, dPar3, dAsgG, gNm, gTp, gsCons, gsNil, dCB, dMt, dMt0, dSl, dPart, dNoPart, dKGet, dGet2, dDisp, dDispM, dpCons, dpNil, dFrz, dYes, rdSub, rdFdiv, rdMod, rdPow, rdLt, rdLe, rdGt, rdGe, rdAbs, rdMax, rdMin, rdI, rdI1, rdI2, rdNeg, rdInt, List.set_cons_zero, List.set_cons_succ, List.getElem?_cons_zero, List.getElem?_cons_succ, rdIx_nf, look, ei, onS_some]
      refine ⟨isL_ref sup_same, ?_⟩
      refine ite2 (fun _ => ?_) (fun _ => ?_)
      · refine ⟨n, s, rfl, hs, hn' _, fun d hd => ⟨by simp [sizeLine_eq], fin d (.inr hd)⟩⟩
      · exact ⟨by simp [sizeLine_eq], fin .non (.inl rfl)⟩
    -- what late becomes
    have two : ∀ (l : Bool), (dAsg 8 (dAndV (dVar 8) (dNotV (dAndV (dOp (rdEq false) (dVar 2) (dC (.str "through"))) (dOp (rdEq false) (dVar 9) (dC (.int 0))))))) { R with nx := fun env st => (dDrop (dMt rdAppend (dVar 7) (dCons (dTup (dCons (dOp rdIx (dVar 3) (dVar 9)) (dCons (dVar 10) (dCons (dIf (dTst (dVar 8)) (dCall spValue (dCons (dVar 0) (dCons (dVar 10) dNil))) (dC .non)) dNil)))) dNil))) { R with nx := dLoop (gNm 9) (t__law_hook_b1 spNames spTake spPick spValue) R (rangeD ((i : Int) + 1) k), ct := dLoop (gNm 9) (t__law_hook_b1 spNames spTake spPick spValue) R (rangeD ((i : Int) + 1) k), bk := R.nx } env st } [some (.ref n), some (.str name), some (.str kind), some (.lst (ys.map D.str)), some (.lst [.str "number", .str "number", .str "word"]), some (.int many), some (.int wide), some (.ref f), some (.bl l), some (.int i), some (.str s), c11] (sup st0 f (.lst (ps.map Prm.d))) := by
      intro l
      have r := rest
      cases l with
      | false => exact r false
      | true =>
        simp only [dAsg, dAndV, dVar, dNotV, dOp, dC, rdEq, List.set_cons_zero, List.set_cons_succ, List.getElem?_cons_zero, List.getElem?_cons_succ]
        cases hq : (decide (kind = "through") != false) with
        | false => exact r true
        | true =>
          cases hq2 : (decide ((i : Int) = 0) != false) with
          | false => exact r true
          | true => exact r false
    have take2 : ∀ (r : Int), (decide (r = 0) != false) = true ∨ (decide (r = 0) != false) = false := fun r => by cases (decide (r = 0) != false) <;> simp
    cases late with
    | false =>
      refine ⟨n, _, rfl, by decide, by decide, hn' _, fun r _ _ => ?_⟩
      exact two _
    | true =>
      simp only [true_and]
      cases hq : decide ((i : Int) < wide) with
      | true => exact two true
      | false =>
        refine ⟨n, _, rfl, by decide, by decide, hn' _, fun r _ _ => ?_⟩
        exact two _
theorem atI_zero {α : Type} {x : α} {xs : List α} : atI (x :: xs) 0 = some x := by
  unfold atI ixN
  rw [if_pos (by decide), if_pos (by rw [List.length_cons]; omega)]
  rfl
theorem nm_nd {ys : List Str} (h : ys.Nodup) (k : Nat) : (ys.take k).Nodup := h.sublist (List.take_sublist _ _)
theorem rd_hook {n : Nat} {name kind : Str} {st : Sto} {Q : QD} (hn : st n = some .box) (q : ∀ es ls outs, HookOk es ls outs → Q (hookD name kind es ls outs) st) :
    t__law_hook spNames spTake spPick spValue (ends Q) [some (.ref n), some (.str name), some (.str kind), none, none, none, none, none, none, none, none, none] st := by
  simp only [t__law_hook, dSeq, dAsg, dVar, dC, dCall, dCons, dNil, dOp, dUn, dTup, dLst, dLstM, dRet, dRetN, dNext, dDrop, dIfS, dTst, dAnd, dOr, dNot, dAndV, dOrV, dNotV, dIf, dPar, dPar3, dAsgG, gNm, gTp, gsCons, gsNil, dCB, dMt, dMt0, dSl, dPart, dNoPart, dKGet, dGet2, dDisp, dDispM, dpCons, dpNil, dFrz, dYes, rdSub, rdFdiv, rdMod, rdPow, rdLt, rdLe, rdGt, rdGe, rdAbs, rdMax, rdMin, rdI, rdI1, rdI2, rdNeg, rdInt, List.set_cons_zero, List.set_cons_succ, List.getElem?_cons_zero, List.getElem?_cons_succ]
  refine ⟨n, 3, rfl, hn, by decide, by decide, fun ys hnd hyl hy => ⟨by simp [sizeLine_eq], ?_⟩⟩
  have hyl : ys.length = 3 := by omega
  -- from many and wide on
  have main : ∀ (many wide : Int), 0 ≤ many → many ≤ 3 → 0 ≤ wide → (kind = "through" → 1 ≤ many) → t__law_hook_r5 spNames spTake spPick spValue (ends Q) [some (.ref n), some (.str name), some (.str kind), some (.lst (ys.map D.str)), some (.lst [.str "number", .str "number", .str "word"]), some (.int many), some (.int wide), none, none, none, none, none] st := by
    intro many wide m0 m3 w0 mt
    simp only [t__law_hook_r5, dSeq, dAsg, dVar, dC, dCall, dCons, dNil, dOp, dUn, dTup, dLst, dLstM, dRet, dRetN, dNext, dDrop, dIfS, dTst, dAnd, dOr, dNot, dAndV, dOrV, dNotV, dIf, dPar, dPar3, dAsgG, gNm, gTp, gsCons, gsNil, dCB, dMt, dMt0, dSl, dPart, dNoPart, dKGet, dGet2, dDisp, dDispM, dpCons, dpNil, dFrz, dYes, rdSub, rdFdiv, rdMod, rdPow, rdLt, rdLe, rdGt, rdGe, rdAbs, rdMax, rdMin, rdI, rdI1, rdI2, rdNeg, rdInt, List.set_cons_zero, List.set_cons_succ, List.getElem?_cons_zero, List.getElem?_cons_succ]
    refine ⟨Nat.zero_le _, fun f hf => ?_⟩
    have nf : n ≠ f := by rintro rfl; rw [hn] at hf; cases hf
    simp only [t__law_hook_r6, dSeq, dAsg, dVar, dC, dCall, dCons, dNil, dOp, dUn, dTup, dLst, dLstM, dRet, dRetN, dNext, dDrop, dIfS, dTst, dAnd, dOr, dNot, dAndV, dOrV, dNotV, dIf, dPar, dPar3, dAsgG, gNm, gTp, gsCons, gsNil, dCB, dMt, dMt0, dSl, dPart, dNoPart, dKGet, dGet2, dDisp, dDispM, dpCons, dpNil, dFrz, dYes, rdSub, rdFdiv, rdMod, rdPow, rdLt, rdLe, rdGt, rdGe, rdAbs, rdMax, rdMin, rdI, rdI1, rdI2, rdNeg, rdInt, List.set_cons_zero, List.set_cons_succ, List.getElem?_cons_zero, List.getElem?_cons_succ, dFor, dRg1]
    refine ⟨⟨by omega, by omega⟩, ?_⟩
    refine hook_loop (ps := []) (i := 0) (st0 := st) hn hf hyl hy many.toNat false none none (by omega) rfl rfl (fun p hp => by cases hp) fun ps late c9 c10 e1 e2 e3 => ?_
    have e1 : ps.length = many.toNat := by omega
    have fin : ∀ outs, isSort outs → t__law_hook_r8 spNames spTake spPick spValue (ends Q) [some (.ref n), some (.str name), some (.str kind), some (.lst (ys.map D.str)), some (.lst [.str "number", .str "number", .str "word"]), some (.int many), some (.int wide), some (.ref f), some (.bl late), c9, c10, some (.str outs)] (sup st f (.lst (ps.map Prm.d))) := by
      intro outs ho
      simp only [t__law_hook_r8, dSeq, dAsg, dVar, dC, dCall, dCons, dNil, dOp, dUn, dTup, dLst, dLstM, dRet, dRetN, dNext, dDrop, dIfS, dTst, dAnd, dOr, dNot, dAndV, dOrV, dNotV, dIf, dPar, dPar3, dAsgG, gNm, gTp, gsCons, gsNil, dCB, dMt, dMt0, dSl, dPart, dNoPart, dKGet, dGet2, dDisp, dDispM, dpCons, dpNil, dFrz, dYes, rdSub, rdFdiv, rdMod, rdPow, rdLt, rdLe, rdGt, rdGe, rdAbs, rdMax, rdMin, rdI, rdI1, rdI2, rdNeg, rdInt, List.set_cons_zero, List.set_cons_succ, List.getElem?_cons_zero, List.getElem?_cons_succ, rdSl, look_lst (sup_same (st := st) (n := f) (m := .lst (ps.map Prm.d)))]
      rw [cutD_lo' _ _ w0, cutD_hi' _ _ w0, ← List.map_take, ← List.map_drop]
      refine ⟨by simp [sizeLine_eq], st, Sub.new hf, q (ps.take wide.toNat) (ps.drop wide.toNat) outs ⟨?_, ?_, ?_, ho⟩⟩
      · rw [List.take_append_drop]; exact e3
      · rw [List.take_append_drop, e1]; omega
      · rw [List.take_append_drop, e2]; exact nm_nd hnd _
    simp only [t__law_hook_r7, dSeq, dAsg, dVar, dC, dCall, dCons, dNil, dOp, dUn, dTup, dLst, dLstM, dRet, dRetN, dNext, dDrop, dIfS, dTst, dAnd, dOr, dNot, dAndV, dOrV, dNotV, dIf, dPar, dPar3, dAsgG, gNm, gTp, gsCons, gsNil, dCB, dMt, dMt0, dSl, dPart, dNoPart, dKGet, dGet2, dDisp, dDispM, dpCons, dpNil, dFrz, dYes, rdSub, rdFdiv, rdMod, rdPow, rdLt, rdLe, rdGt, rdGe, rdAbs, rdMax, rdMin, rdI, rdI1, rdI2, rdNeg, rdInt, List.set_cons_zero, List.set_cons_succ, List.getElem?_cons_zero, List.getElem?_cons_succ, rdEq]
    by_cases c : kind = "through"
    · rw [if_pos (by simp [c])]
      have : 1 ≤ many := mt c
      cases ps with
      | nil => simp at e1; omega
      | cons p r =>
        rw [rdIx_nf]
        simp only [look_lst (sup_same (st := st) (n := f) (m := .lst ((p :: r).map Prm.d)))]
        refine onS_of (d := Prm.d p) atI_zero ?_
        rw [rdIx_nf]
        simp only [look, Prm.d]
        refine onS_of (d := .str p.2.1) rfl ?_
        exact fin p.2.1 (e3 p (List.mem_cons_self ..)).2.1
    · rw [if_neg (by simp [c])]
      refine ⟨n, _, [.str "number", .str "number", .str "word"], rfl, by rw [sup_ne nf]; exact hn, rfl, by simp, by simp, fun x hx => ?_⟩
      obtain ⟨s, hs, rfl⟩ := sorts_mem hx
      exact fin s hs
  simp only [t__law_hook_r1, dSeq, dAsg, dVar, dC, dCall, dCons, dNil, dOp, dUn, dTup, dLst, dLstM, dRet, dRetN, dNext, dDrop, dIfS, dTst, dAnd, dOr, dNot, dAndV, dOrV, dNotV, dIf, dPar, dPar3, dAsgG, gNm, gTp, gsCons, gsNil, dCB, dMt, dMt0, dSl, dPart, dNoPart, dKGet, dGet2, dDisp, dDispM, dpCons, dpNil, dFrz, dYes, rdSub, rdFdiv, rdMod, rdPow, rdLt, rdLe, rdGt, rdGe, rdAbs, rdMax, rdMin, rdI, rdI1, rdI2, rdNeg, rdInt, List.set_cons_zero, List.set_cons_succ, List.getElem?_cons_zero, List.getElem?_cons_succ]
  refine ⟨n, _, rfl, by decide, by decide, hn, fun m0 a0 a1 => ?_⟩
  have two : ∀ many : Int, 0 ≤ many → many ≤ 3 → (kind = "through" → 1 ≤ many) → t__law_hook_r3 spNames spTake spPick spValue (ends Q) [some (.ref n), some (.str name), some (.str kind), some (.lst (ys.map D.str)), some (.lst [.str "number", .str "number", .str "word"]), some (.int many), none, none, none, none, none, none] st := by
    intro many b0 b1 bt
    simp only [t__law_hook_r3, dSeq, dAsg, dVar, dC, dCall, dCons, dNil, dOp, dUn, dTup, dLst, dLstM, dRet, dRetN, dNext, dDrop, dIfS, dTst, dAnd, dOr, dNot, dAndV, dOrV, dNotV, dIf, dPar, dPar3, dAsgG, gNm, gTp, gsCons, gsNil, dCB, dMt, dMt0, dSl, dPart, dNoPart, dKGet, dGet2, dDisp, dDispM, dpCons, dpNil, dFrz, dYes, rdSub, rdFdiv, rdMod, rdPow, rdLt, rdLe, rdGt, rdGe, rdAbs, rdMax, rdMin, rdI, rdI1, rdI2, rdNeg, rdInt, List.set_cons_zero, List.set_cons_succ, List.getElem?_cons_zero, List.getElem?_cons_succ, rdAdd, look, true_and]
    refine ⟨n, _, rfl, by omega, by omega, hn, fun r r0 r1 => ?_⟩
    simp only [t__law_hook_r4, dSeq, dAsg, dVar, dC, dCall, dCons, dNil, dOp, dUn, dTup, dLst, dLstM, dRet, dRetN, dNext, dDrop, dIfS, dTst, dAnd, dOr, dNot, dAndV, dOrV, dNotV, dIf, dPar, dPar3, dAsgG, gNm, gTp, gsCons, gsNil, dCB, dMt, dMt0, dSl, dPart, dNoPart, dKGet, dGet2, dDisp, dDispM, dpCons, dpNil, dFrz, dYes, rdSub, rdFdiv, rdMod, rdPow, rdLt, rdLe, rdGt, rdGe, rdAbs, rdMax, rdMin, rdI, rdI1, rdI2, rdNeg, rdInt, List.set_cons_zero, List.set_cons_succ, List.getElem?_cons_zero, List.getElem?_cons_succ, rdEq]
    by_cases c : kind = "through"
    · rw [if_pos (by simp [c])]
      exact main _ _ b0 b1 (by split <;> omega) bt
    · rw [if_neg (by simp [c])]
      exact main _ _ b0 b1 (by omega) bt
  show t__law_hook_r2 spNames spTake spPick spValue (ends Q) [some (.ref n), some (.str name), some (.str kind), some (.lst (ys.map D.str)), some (.lst [.str "number", .str "number", .str "word"]), some (.int m0), none, none, none, none, none, none] st
  simp only [t__law_hook_r2, dSeq, dAsg, dVar, dC, dCall, dCons, dNil, dOp, dUn, dTup, dLst, dLstM, dRet, dRetN, dNext, dDrop, dIfS, dTst, dAnd, dOr, dNot, dAndV, dOrV, dNotV, dIf, dPar, dPar3, dAsgG, gNm, gTp, gsCons, gsNil, dCB, dMt, dMt0, dSl, dPart, dNoPart, dKGet, dGet2, dDisp, dDispM, dpCons, dpNil, dFrz, dYes, rdSub, rdFdiv, rdMod, rdPow, rdLt, rdLe, rdGt, rdGe, rdAbs, rdMax, rdMin, rdI, rdI1, rdI2, rdNeg, rdInt, List.set_cons_zero, List.set_cons_succ, List.getElem?_cons_zero, List.getElem?_cons_succ, rdEq]
  by_cases c : kind = "through"
  · rw [if_pos (by simp [c])]
    exact two _ (by split <;> omega) (by split <;> omega) (fun _ => by split <;> omega)
  · rw [if_neg (by simp [c])]
    exact two _ a0 (by omega) (fun h => absurd h c)
/-! ### worlds -/
abbrev Prs := List (Str × Str)
def pD (p : Str × Str) : D := .tup [.str p.1, .str p.2]
def wD (ps : Prs) (gv : Str) (t p : Int) : MO := .dct [(.inr "params", .lst (ps.map pD)), (.inr "gives", .str gv), (.inr "tests", .int t), (.inr "plus", .int p)]
structure PsOk (ps : Prs) : Prop where
  ok : ∀ p ∈ ps, Nm p.1 ∧ isSort p.2
  few : ps.length ≤ 3
  nd : (ps.map (·.1)).Nodup
section
variable {a b c d e : D}
theorem wx1 : getK [(.inr "params", a), (.inr "gives", b), (.inr "tests", c), (.inr "plus", d)] (.inr "params") = some a := by rfl
theorem wx2 : getK [(.inr "params", a), (.inr "gives", b), (.inr "tests", c), (.inr "plus", d)] (.inr "gives") = some b := by rfl
theorem wx3 : getK [(.inr "params", a), (.inr "gives", b), (.inr "tests", c), (.inr "plus", d)] (.inr "tests") = some c := by rfl
theorem wx4 : getK [(.inr "params", a), (.inr "gives", b), (.inr "tests", c), (.inr "plus", d)] (.inr "plus") = some d := by rfl
theorem wy3 : setK [(.inr "params", a), (.inr "gives", b), (.inr "tests", c), (.inr "plus", d)] (.inr "tests") e = [(.inr "params", a), (.inr "gives", b), (.inr "tests", e), (.inr "plus", d)] := by rfl
theorem wy4 : setK [(.inr "params", a), (.inr "gives", b), (.inr "tests", c), (.inr "plus", d)] (.inr "plus") e = [(.inr "params", a), (.inr "gives", b), (.inr "tests", c), (.inr "plus", e)] := by rfl
theorem wf : foldK [] [(.inr "params", a), (.inr "gives", b), (.inr "tests", c), (.inr "plus", d)] = [(.inr "params", a), (.inr "gives", b), (.inr "tests", c), (.inr "plus", d)] := by rfl
end
def Prm.p (p : Prm) : Str × Str := (p.1, p.2.1)
def spWorld : DSp := fun ds st Q _ => ∃ name kind es ls outs, ds = [hookD name kind es ls outs] ∧ HookOk es ls outs ∧ ∀ w ps, PsOk ps → ps = (es ++ ls).map Prm.p → st w = none → Q (.ref w) (sup st w (wD ps outs 10 4))
theorem world_comp {env : DSt} {st : Sto} {Q : List D → Sto → Prop} (hl : env.length = 5) : ∀ (l : List Prm) (acc : Prs), acc.length + l.length < 1000 → Q ((acc ++ l.map Prm.p).map pD) st →
    dLcGo (gTp 3 (gsCons (gNm 2) (gsCons (gNm 3) (gsCons (gNm 4) gsNil)))) dYes (dTup (dCons (dVar 2) (dCons (dVar 3) dNil))) env (l.map Prm.d) (acc.map pD) st Q
  | [], acc, _, h => by simpa [dLcGo] using h
  | p :: l, acc, hz, h => by
    have g2 : ∀ a b c : D, (((env.set 2 (some a)).set 3 (some b)).set 4 (some c))[2]? = some (some a) := fun a b c => by rw [List.getElem?_set_ne (by decide), List.getElem?_set_ne (by decide), List.getElem?_set_self (by omega)]
    have g3 : ∀ a b c : D, (((env.set 2 (some a)).set 3 (some b)).set 4 (some c))[3]? = some (some b) := fun a b c => by rw [List.getElem?_set_ne (by decide), List.getElem?_set_self (by rw [List.length_set]; omega)]
    simp only [List.map_cons, dLcGo, Prm.d, dSeq, dAsg, dVar, dC, dCall, dCons, dNil, dOp, dUn, dTup, dLst, dLstM, dRet, dRetN, dNext, dDrop, dIfS, dTst, dAnd, dOr, dNot, dAndV, dOrV, dNotV, dIf, dPar, dPar3, dAsgG, gNm, gTp, gsCons, gsNil, dCB, dMt, dMt0, dSl, dPart, dNoPart, dKGet, dGet2, dDisp, dDispM, dpCons, dpNil, dFrz, dYes, rdSub, rdFdiv, rdMod, rdPow, rdLt, rdLe, rdGt, rdGe, rdAbs, rdMax, rdMin, rdI, rdI1, rdI2, rdNeg, rdInt, List.set_cons_zero, List.set_cons_succ, List.getElem?_cons_zero, List.getElem?_cons_succ, g2, g3, if_true]
    refine ⟨rfl, by simp [sizeLine_eq], by rw [List.length_map, sizeLine_eq]; omega, ?_⟩
    have := world_comp hl (Q := Q) l (acc ++ [Prm.p p]) (by rw [List.length_cons] at hz; rw [List.length_append, List.length_singleton]; omega) (by simpa using h)
    rw [List.map_append] at this
    exact this
theorem rd_world {name kind outs : Str} {es ls : List Prm} {st : Sto} {Q : QD} (hk : HookOk es ls outs) (q : ∀ w ps, PsOk ps → ps = (es ++ ls).map Prm.p → st w = none → Q (.ref w) (sup st w (wD ps outs 10 4))) :
    t__law_world (ends Q) [some (hookD name kind es ls outs), none, none, none, none] st := by
  simp only [t__law_world, hookD, dSeq, dAsg, dVar, dC, dCall, dCons, dNil, dOp, dUn, dTup, dLst, dLstM, dRet, dRetN, dNext, dDrop, dIfS, dTst, dAnd, dOr, dNot, dAndV, dOrV, dNotV, dIf, dPar, dPar3, dAsgG, gNm, gTp, gsCons, gsNil, dCB, dMt, dMt0, dSl, dPart, dNoPart, dKGet, dGet2, dDisp, dDispM, dpCons, dpNil, dFrz, dYes, rdSub, rdFdiv, rdMod, rdPow, rdLt, rdLe, rdGt, rdGe, rdAbs, rdMax, rdMin, rdI, rdI1, rdI2, rdNeg, rdInt, List.set_cons_zero, List.set_cons_succ, List.getElem?_cons_zero, List.getElem?_cons_succ, dLc, dIt, rdIx_nf, look]
  refine onS_of (d := .lst (es.map Prm.d)) rfl (onS_of (d := .lst (ls.map Prm.d)) rfl ?_)
  simp only [rdAdd, look, ← List.map_append, itemsOf]
  have hf := hk.few
  rw [List.length_append] at hf
  refine ⟨by rw [List.length_map, List.length_map, sizeLine_eq]; omega, ?_⟩
  refine world_comp (acc := []) (wipeD_len _ _) _ (by rw [List.length_append, List.length_nil]; omega) ?_
  simp only [List.nil_append, t__law_world_r1, dSeq, dAsg, dVar, dC, dCall, dCons, dNil, dOp, dUn, dTup, dLst, dLstM, dRet, dRetN, dNext, dDrop, dIfS, dTst, dAnd, dOr, dNot, dAndV, dOrV, dNotV, dIf, dPar, dPar3, dAsgG, gNm, gTp, gsCons, gsNil, dCB, dMt, dMt0, dSl, dPart, dNoPart, dKGet, dGet2, dDisp, dDispM, dpCons, dpNil, dFrz, dYes, rdSub, rdFdiv, rdMod, rdPow, rdLt, rdLe, rdGt, rdGe, rdAbs, rdMax, rdMin, rdI, rdI1, rdI2, rdNeg, rdInt, List.set_cons_zero, List.set_cons_succ, List.getElem?_cons_zero, List.getElem?_cons_succ, rdIx_nf, look]
  refine onS_of (d := .str outs) rfl ⟨by show 4 ≤ 15; decide, fun w hw => sb ?_⟩
  have ok : PsOk ((es ++ ls).map Prm.p) := by
    refine ⟨fun p hp => ?_, by rw [List.length_map]; exact hk.few, by rw [List.map_map]; exact hk.nd⟩
    obtain ⟨x, hx, rfl⟩ := List.mem_map.mp hp
    exact ⟨(hk.ok x hx).1, (hk.ok x hx).2.1⟩
  exact q w _ ok rfl hw
end TL
namespace TL
open PySem PySem.Spec PyProof.Rows L2
def t__law_leaf_r6 (_law_take : DSp) (_law_pick : DSp) (_law_number : DSp) (_law_value : DSp) : TDS :=
  (dRet (dIf (dTst (dOp (rdEq false) (dVar 2) (dC (.str "number")))) (dTup (dCons (dC (.str "number")) (dCons (dCall _law_number (dCons (dVar 0) dNil)) dNil))) (dTup (dCons (dC (.str "word")) (dCons (dCall _law_value (dCons (dVar 0) (dCons (dC (.str "word")) dNil))) dNil)))))
def t__law_leaf_r5 (_law_take : DSp) (_law_pick : DSp) (_law_number : DSp) (_law_value : DSp) : TDS :=
  (dSeq (dIfS (dAnd (dTst (dOp rdLt (dVar 6) (dC (.int 6)))) (dTst (dOp (rdEq true) (dVar 5) (dLst dNil))))
  (dRet (dTup (dCons (dC (.str "param")) (dCons (dCall _law_pick (dCons (dVar 0) (dCons (dVar 5) dNil))) dNil))))
  dNext)
  (t__law_leaf_r6 _law_take _law_pick _law_number _law_value))
def t__law_leaf_r4 (_law_take : DSp) (_law_pick : DSp) (_law_number : DSp) (_law_value : DSp) : TDS :=
  (dSeq (dIfS (dAnd (dTst (dOp rdLt (dVar 6) (dC (.int 4)))) (dAnd (dTst (dOp (rdEq true) (dVar 5) (dLst dNil))) (dAnd (dTst (dOp (rdEq false) (dVar 2) (dC (.str "number")))) (dTst (dOp rdGt (dOp rdIx (dVar 1) (dC (.str "plus"))) (dC (.int 0)))))))
  (dSeq (dPutS (dVar 1) (dC (.str "plus")) (dOp rdSub (dOp rdIx (dVar 1) (dC (.str "plus"))) (dC (.int 1))))
  (dRet (dTup (dCons (dC (.str "plus")) (dCons (dCall _law_pick (dCons (dVar 0) (dCons (dVar 5) dNil))) (dCons (dCall _law_number (dCons (dVar 0) dNil)) dNil))))))
  dNext)
  (t__law_leaf_r5 _law_take _law_pick _law_number _law_value))
def t__law_leaf_r3 (_law_take : DSp) (_law_pick : DSp) (_law_number : DSp) (_law_value : DSp) : TDS :=
  (dSeq (dIfS (dAnd (dTst (dOp (rdEq false) (dVar 6) (dC (.int 1)))) (dAnd (dNot (dTst (dVar 4))) (dTst (dOp (rdEq false) (dCall _law_take (dCons (dVar 0) (dCons (dC (.int 3)) dNil))) (dC (.int 0))))))
  (dRet (dTup (dCons (dC (.str "fail")) (dCons (dCall _law_pick (dCons (dVar 0) (dCons (dLst (dCons (dC (.str "lost")) (dCons (dC (.str "red")) (dCons (dC (.str "toolate")) dNil)))) dNil))) dNil))))
  dNext)
  (t__law_leaf_r4 _law_take _law_pick _law_number _law_value))
def t__law_leaf_r2 (_law_take : DSp) (_law_pick : DSp) (_law_number : DSp) (_law_value : DSp) : TDS :=
  (dSeq (dIfS (dAnd (dTst (dOp (rdEq false) (dVar 6) (dC (.int 0)))) (dNot (dTst (dVar 4))))
  (dRet (dTup (dCons (dC (.str "none")) dNil)))
  dNext)
  (t__law_leaf_r3 _law_take _law_pick _law_number _law_value))
def t__law_leaf_r1 (_law_take : DSp) (_law_pick : DSp) (_law_number : DSp) (_law_value : DSp) : TDS :=
  (dSeq (dAsg 6 (dCall _law_take (dCons (dVar 0) (dCons (dC (.int 8)) dNil))))
  (t__law_leaf_r2 _law_take _law_pick _law_number _law_value))
def t__law_leaf (_law_take : DSp) (_law_pick : DSp) (_law_number : DSp) (_law_value : DSp) : TDS :=
  (dSeq (dAsg 5 (dOp rdAdd (dLc (dIt (dOp rdIx (dVar 1) (dC (.str "params")))) (gTp 2 (gsCons (gNm 7) (gsCons (gNm 8) gsNil))) (dTst (dOp (rdEq false) (dVar 8) (dVar 2))) (dVar 7) [7, 8]) (dOp rdMul (dLst (dCons (dC (.str "inner")) dNil)) (dOp rdMul (dC (.int 2)) (dCB rdInt (dCons (dOp (rdEq false) (dVar 3) (dVar 2)) dNil))))))
  (t__law_leaf_r1 _law_take _law_pick _law_number _law_value))
theorem st__law_leaf (ds : List D) : startD ["_law_box_here", "_law_world_here", "_law_sort", "_law_inner", "_law_sent", "_law_some", "_law_form", "_law_name", "_law_own"] ds = ds.map some ++ List.replicate (9 - ds.length) none := rfl
def t__law_test_r8 (_law_take : DSp) (_law_test : DSp) (_law_pick : DSp) (_law_number : DSp) (_law_value : DSp) : TDS :=
  (dRet (dTup (dCons (dC (.str "is")) (dCons (dVar 7) (dCons (dCall _law_value (dCons (dVar 0) (dCons (dC (.str "word")) dNil))) dNil)))))
def t__law_test_r7 (_law_take : DSp) (_law_test : DSp) (_law_pick : DSp) (_law_number : DSp) (_law_value : DSp) : TDS :=
  (dSeq (dIfS (dTst (dOp (rdEq false) (dVar 8) (dC (.str "number"))))
  (dRet (dTup (dCons (dC (.str "most")) (dCons (dVar 7) (dCons (dCall _law_number (dCons (dVar 0) dNil)) dNil)))))
  dNext)
  (t__law_test_r8 _law_take _law_test _law_pick _law_number _law_value))
def t__law_test_r6 (_law_take : DSp) (_law_test : DSp) (_law_pick : DSp) (_law_number : DSp) (_law_value : DSp) : TDS :=
  (dSeq (dAsgG (dCall _law_pick (dCons (dVar 0) (dCons (dVar 6) dNil))) (gTp 2 (gsCons (gNm 7) (gsCons (gNm 8) gsNil))))
  (t__law_test_r7 _law_take _law_test _law_pick _law_number _law_value))
def t__law_test_r5 (_law_take : DSp) (_law_test : DSp) (_law_pick : DSp) (_law_number : DSp) (_law_value : DSp) : TDS :=
  (dSeq (dIfS (dAnd (dTst (dOp (rdIsN true) (dVar 2) (dC .non))) (dTst (dOp (rdEq false) (dVar 4) (dC (.int 5)))))
  (dRet (dTup (dCons (dC (.str "lacks")) dNil)))
  dNext)
  (t__law_test_r6 _law_take _law_test _law_pick _law_number _law_value))
def t__law_test_r4 (_law_take : DSp) (_law_test : DSp) (_law_pick : DSp) (_law_number : DSp) (_law_value : DSp) : TDS :=
  (dSeq (dAsg 6 (dOp rdAdd (dOp rdIx (dVar 1) (dC (.str "params"))) (dOp rdMul (dLst (dCons (dTup (dCons (dC (.str "inner")) (dCons (dVar 2) dNil))) dNil)) (dOp rdMul (dC (.int 2)) (dCB rdInt (dCons (dOp (rdIsN true) (dVar 2) (dC .non)) dNil))))))
  (t__law_test_r5 _law_take _law_test _law_pick _law_number _law_value))
def t__law_test_r3 (_law_take : DSp) (_law_test : DSp) (_law_pick : DSp) (_law_number : DSp) (_law_value : DSp) : TDS :=
  (dSeq (dIfS (dAnd (dTst (dOp rdGt (dVar 3) (dC (.int 0)))) (dAnd (dTst (dOp rdLt (dVar 4) (dC (.int 3)))) (dTst (dOp rdGt (dOp rdIx (dVar 1) (dC (.str "tests"))) (dC (.int 0))))))
  (dSeq (dAsg 5 (dCall _law_test (dCons (dVar 0) (dCons (dVar 1) (dCons (dVar 2) (dCons (dC (.int 0)) dNil))))))
  (dSeq (dPutS (dVar 1) (dC (.str "tests")) (dOp rdAdd (dOp rdIx (dVar 1) (dC (.str "tests"))) (dC (.int 1))))
  (dRet (dTup (dCons (dOp rdIx (dLst (dCons (dC (.str "both")) (dCons (dC (.str "either")) dNil))) (dOp rdSub (dVar 4) (dC (.int 1)))) (dCons (dVar 5) (dCons (dCall _law_test (dCons (dVar 0) (dCons (dVar 1) (dCons (dVar 2) (dCons (dC (.int 0)) dNil))))) dNil)))))))
  dNext)
  (t__law_test_r4 _law_take _law_test _law_pick _law_number _law_value))
def t__law_test_r2 (_law_take : DSp) (_law_test : DSp) (_law_pick : DSp) (_law_number : DSp) (_law_value : DSp) : TDS :=
  (dSeq (dIfS (dAnd (dTst (dOp rdGt (dVar 3) (dC (.int 0)))) (dTst (dOp (rdEq false) (dVar 4) (dC (.int 0)))))
  (dSeq (dPutS (dVar 1) (dC (.str "tests")) (dOp rdAdd (dOp rdIx (dVar 1) (dC (.str "tests"))) (dC (.int 1))))
  (dRet (dTup (dCons (dC (.str "not")) (dCons (dCall _law_test (dCons (dVar 0) (dCons (dVar 1) (dCons (dVar 2) (dCons (dOp rdSub (dVar 3) (dC (.int 1))) dNil))))) dNil)))))
  dNext)
  (t__law_test_r3 _law_take _law_test _law_pick _law_number _law_value))
def t__law_test_r1 (_law_take : DSp) (_law_test : DSp) (_law_pick : DSp) (_law_number : DSp) (_law_value : DSp) : TDS :=
  (dSeq (dAsg 4 (dCall _law_take (dCons (dVar 0) (dCons (dC (.int 6)) dNil))))
  (t__law_test_r2 _law_take _law_test _law_pick _law_number _law_value))
def t__law_test (_law_take : DSp) (_law_test : DSp) (_law_pick : DSp) (_law_number : DSp) (_law_value : DSp) : TDS :=
  (dSeq (dPutS (dVar 1) (dC (.str "tests")) (dOp rdSub (dOp rdIx (dVar 1) (dC (.str "tests"))) (dC (.int 1))))
  (t__law_test_r1 _law_take _law_test _law_pick _law_number _law_value))
theorem st__law_test (ds : List D) : startD ["_law_box_here", "_law_world_here", "_law_inner", "_law_deep", "_law_form", "_law_first", "_law_some", "_law_name", "_law_sort"] ds = ds.map some ++ List.replicate (9 - ds.length) none := rfl
/-! ### the trees that are drawn -/
def inD : Option Str → D
  | none => .non
  | some s => .str s
def vars (ps : Prs) (inner : Option Str) : Prs := ps ++ (match inner with
  | none => []
  | some s => [("inner", s), ("inner", s)])
def failW : List Str := ["lost", "red", "toolate"]
/-- a test; the number: how deep at most -/
inductive Tst (ps : Prs) (inner : Option Str) : Nat → D → Prop
  | lacks {n : Nat} : inner ≠ none → Tst ps inner n (.tup [.str "lacks"])
  | most {n : Nat} {x : Str} {k : Int} : (x, ("number" : Str)) ∈ vars ps inner → -1000 ≤ k → k ≤ 1000 → Tst ps inner n (.tup [.str "most", .str x, .int k])
  | is {n : Nat} {x w : Str} : (x, ("word" : Str)) ∈ vars ps inner → w ∈ wordsV → Tst ps inner n (.tup [.str "is", .str x, .str w])
  | not {n : Nat} {a : D} : Tst ps inner n a → Tst ps inner (n + 1) (.tup [.str "not", a])
  | both {n : Nat} {a b : D} : Tst ps inner n a → Tst ps inner n b → Tst ps inner (n + 1) (.tup [.str "both", a, b])
  | either {n : Nat} {a b : D} : Tst ps inner n a → Tst ps inner n b → Tst ps inner (n + 1) (.tup [.str "either", a, b])
/-- an expression without an ask -/
inductive Ex (ps : Prs) (sort : Str) (inner : Option Str) (sent : Bool) : Nat → D → Prop
  | none {n : Nat} : sent = false → Ex ps sort inner sent n (.tup [.str "none"])
  | fail {n : Nat} {w : Str} : sent = false → w ∈ failW → Ex ps sort inner sent n (.tup [.str "fail", .str w])
  | plus {n : Nat} {x : Str} {k : Int} : sort = "number" → (x, sort) ∈ vars ps inner → -1000 ≤ k → k ≤ 1000 → Ex ps sort inner sent n (.tup [.str "plus", .str x, .int k])
  | param {n : Nat} {x : Str} : (x, sort) ∈ vars ps inner → Ex ps sort inner sent n (.tup [.str "param", .str x])
  | number {n : Nat} {k : Int} : sort = "number" → -1000 ≤ k → k ≤ 1000 → Ex ps sort inner sent n (.tup [.str "number", .int k])
  | word {n : Nat} {w : Str} : sort = "word" → w ∈ wordsV → Ex ps sort inner sent n (.tup [.str "word", .str w])
  | cond {n : Nat} {t a b : D} : Tst ps inner 1 t → Ex ps sort inner sent n a → Ex ps sort inner sent n b → Ex ps sort inner sent (n + 1) (.tup [.str "if", t, a, b])
theorem Tst.mono {ps : Prs} {inner : Option Str} {n m : Nat} {d : D} (h : Tst ps inner n d) (hm : n ≤ m) : Tst ps inner m d := by
  induction h generalizing m with
  | lacks h => exact .lacks h
  | most h a b => exact .most h a b
  | is h a => exact .is h a
  | not _ ih =>
    obtain ⟨m, rfl⟩ : ∃ k, m = k + 1 := ⟨m - 1, by omega⟩
    exact .not (ih (by omega))
  | both _ _ i1 i2 =>
    obtain ⟨m, rfl⟩ : ∃ k, m = k + 1 := ⟨m - 1, by omega⟩
    exact .both (i1 (by omega)) (i2 (by omega))
  | either _ _ i1 i2 =>
    obtain ⟨m, rfl⟩ : ∃ k, m = k + 1 := ⟨m - 1, by omega⟩
    exact .either (i1 (by omega)) (i2 (by omega))
theorem Ex.mono {ps : Prs} {sort : Str} {inner : Option Str} {sent : Bool} {n m : Nat} {d : D} (h : Ex ps sort inner sent n d) (hm : n ≤ m) : Ex ps sort inner sent m d := by
  induction h generalizing m with
  | none h => exact .none h
  | fail h a => exact .fail h a
  | plus h a b c => exact .plus h a b c
  | param h => exact .param h
  | number h a b => exact .number h a b
  | word h a => exact .word h a
  | cond t _ _ i1 i2 =>
    obtain ⟨m, rfl⟩ : ∃ k, m = k + 1 := ⟨m - 1, by omega⟩
    exact .cond t (i1 (by omega)) (i2 (by omega))
def innOk : Option Str → Prop
  | none => True
  | some s => isSort s
theorem vars_sort {ps : Prs} {inner : Option Str} (h : PsOk ps) (hi : innOk inner) : ∀ p ∈ vars ps inner, isSort p.2 := fun p hp => by
  rcases List.mem_append.mp hp with hp | hp
  · exact (h.ok p hp).2
  · cases inner with
    | none => cases hp
    | some s =>
      simp only [List.mem_cons, List.not_mem_nil, or_false] at hp
      rcases hp with rfl | rfl <;> exact hi
theorem vars_len {ps : Prs} {inner : Option Str} (h : PsOk ps) : (vars ps inner).length ≤ 5 := by
  unfold vars
  rw [List.length_append]
  have := h.few
  cases inner <;> simp <;> omega
theorem okNm {x : Str} (h : Nm x) : okS x = true := low_okS h.2.2.1
theorem inner_ok : okS "inner" = true := by decide +kernel
theorem vars_ok {ps : Prs} {inner : Option Str} (h : PsOk ps) : ∀ p ∈ vars ps inner, okS p.1 = true := fun p hp => by
  rcases List.mem_append.mp hp with hp | hp
  · exact okNm (h.ok p hp).1
  · cases inner with
    | none => cases hp
    | some s =>
      simp only [List.mem_cons, List.not_mem_nil, or_false] at hp
      rcases hp with rfl | rfl <;> exact inner_ok
theorem sort_ok {s : Str} (h : isSort s) : okS s = true := by rcases h with rfl | rfl <;> decide +kernel
/-! ### _law_can_test -/
def spCan : DSp := fun ds st Q _ => ∃ w inner ps gv t p, ds = [.ref w, inD inner] ∧ PsOk ps ∧ st w = some (wD ps gv t p) ∧ ∀ b : Bool, (b = true → ps ≠ [] ∨ inner ≠ none) → Q (.bl b) st
theorem pds_ok {ps : Prs} (h : ∀ p ∈ ps, okS p.1 = true ∧ okS p.2 = true) : D.oks (ps.map pD) = true ∧ D.dps (ps.map pD) ≤ 1 := by
  induction ps with
  | nil => exact ⟨by simp [D.oks], by simp [D.dps]⟩
  | cons p r ih =>
    obtain ⟨i1, i2⟩ := ih fun q hq => h q (List.mem_cons_of_mem _ hq)
    obtain ⟨h1, h2⟩ := h p (List.mem_cons_self ..)
    refine ⟨by simp [D.oks, D.ok, pD, h1, h2, i1], ?_⟩
    simp only [List.map_cons, D.dps, pD, D.dp]
    omega
theorem PsOk.oks {ps : Prs} (h : PsOk ps) : ∀ p ∈ ps, okS p.1 = true ∧ okS p.2 = true := fun p hp => ⟨okNm (h.ok p hp).1, sort_ok (h.ok p hp).2⟩
theorem rd_can {w : Nat} {inner : Option Str} {ps : Prs} {gv : Str} {t p : Int} {st : Sto} {Q : QD} (hp : PsOk ps) (hw : st w = some (wD ps gv t p)) (q : ∀ b : Bool, (b = true → ps ≠ [] ∨ inner ≠ none) → Q (.bl b) st) :
    t__law_can_test (ends Q) [some (.ref w), some (inD inner)] st := by
  obtain ⟨o1, o2⟩ := pds_ok hp.oks
  simp only [t__law_can_test, dSeq, dAsg, dVar, dC, dCall, dCons, dNil, dOp, dUn, dTup, dLst, dLstM, dRet, dRetN, dNext, dDrop, dIfS, dTst, dAnd, dOr, dNot, dAndV, dOrV, dNotV, dIf, dPar, dPar3, dAsgG, gNm, gTp, gsCons, gsNil, dCB, dMt, dMt0, dSl, dPart, dNoPart, dKGet, dGet2, dDisp, dDispM, dpCons, dpNil, dFrz, dYes, rdSub, rdFdiv, rdMod, rdPow, rdLt, rdLe, rdGt, rdGe, rdAbs, rdMax, rdMin, rdI, rdI1, rdI2, rdNeg, rdInt, List.set_cons_zero, List.set_cons_succ, List.getElem?_cons_zero, List.getElem?_cons_succ, rdIx_nf, look, hw, wD, keyOf, wx1, wx3, onS_some, true_and]
  cases decide (0 < t) with
  | false => exact sb (q false (fun h => by cases h))
  | true =>
    refine ⟨Nat.zero_le _, eq_nil o1 (by omega) ?_⟩
    by_cases c : ps = []
    · subst c
      simp only [List.map_nil, decide_true, bne_self_eq_false]
      cases inner with
      | none => exact sb (q false (fun h => by cases h))
      | some s => exact sb (q true (fun _ => .inr (by simp)))
    · simp only [List.map_eq_nil_iff, c, decide_false, Bool.false_bne]
      exact sb (q true (fun _ => .inl c))
/-! ### _law_leaf -/
def spLeaf : DSp := fun ds st Q _ => ∃ b w sort inner sent ps gv t p, ds = [.ref b, .ref w, .str sort, inD inner, .bl sent] ∧ isSort sort ∧ innOk inner ∧ PsOk ps ∧ st b = some .box ∧ st w = some (wD ps gv t p) ∧
  ∀ d p', Ex ps sort inner sent 0 d → Q d (sup st w (wD ps gv t p'))
theorem leaf_comp {env : DSt} {st : Sto} {sort : Str} {Q : List D → Sto → Prop} (hl : env.length = 9) (h2 : env[2]? = some (some (.str sort))) : ∀ (ps : Prs) (acc : List Str), acc.length + ps.length < 1000 →
    (∀ xs : List Str, xs.length ≤ acc.length + ps.length → (∀ x ∈ xs, x ∈ acc ∨ (x, sort) ∈ ps) → Q (xs.map D.str) st) →
    dLcGo (gTp 2 (gsCons (gNm 7) (gsCons (gNm 8) gsNil))) (dTst (dOp (rdEq false) (dVar 8) (dVar 2))) (dVar 7) env (ps.map pD) (acc.map D.str) st Q
  | [], acc, _, h => h acc (Nat.le_refl _) fun x hx => .inl hx
  | p :: ps, acc, hz, h => by
    have g2 : ∀ a b : D, ((env.set 7 (some a)).set 8 (some b))[2]? = some (some (.str sort)) := fun a b => by rw [List.getElem?_set_ne (by decide), List.getElem?_set_ne (by decide)]; exact h2
    have g7 : ∀ a b : D, ((env.set 7 (some a)).set 8 (some b))[7]? = some (some a) := fun a b => by rw [List.getElem?_set_ne (by decide), List.getElem?_set_self (by omega)]
    have g8 : ∀ a b : D, ((env.set 7 (some a)).set 8 (some b))[8]? = some (some b) := fun a b => by rw [List.getElem?_set_self (by rw [List.length_set]; omega)]
    rw [List.length_cons] at hz
    simp only [List.map_cons, dLcGo, pD, dSeq, dAsg, dVar, dC, dCall, dCons, dNil, dOp, dUn, dTup, dLst, dLstM, dRet, dRetN, dNext, dDrop, dIfS, dTst, dAnd, dOr, dNot, dAndV, dOrV, dNotV, dIf, dPar, dPar3, dAsgG, gNm, gTp, gsCons, gsNil, dCB, dMt, dMt0, dSl, dPart, dNoPart, dKGet, dGet2, dDisp, dDispM, dpCons, dpNil, dFrz, dYes, rdSub, rdFdiv, rdMod, rdPow, rdLt, rdLe, rdGt, rdGe, rdAbs, rdMax, rdMin, rdI, rdI1, rdI2, rdNeg, rdInt, List.set_cons_zero, List.set_cons_succ, List.getElem?_cons_zero, List.getElem?_cons_succ, rdEq, g2, g7, g8]
    refine ⟨rfl, ?_⟩
    refine ite2 (fun c => ⟨by rw [List.length_map, sizeLine_eq]; omega, ?_⟩) (fun _ => ?_)
    · have := leaf_comp hl h2 (Q := Q) ps (acc ++ [p.1]) (by rw [List.length_append, List.length_singleton]; omega) fun xs h1 h3 => h xs (by rw [List.length_append, List.length_singleton] at h1; rw [List.length_cons]; omega) fun x hx => by
        rcases h3 x hx with h4 | h4
        · rcases List.mem_append.mp h4 with h5 | h5
          · exact .inl h5
          · have e : p.2 = sort := by simpa using c
            rw [List.mem_singleton.mp h5]
            exact .inr (by rw [← e]; exact List.mem_cons_self ..)
        · exact .inr (List.mem_cons_of_mem _ h4)
      rw [List.map_append] at this
      exact this
    · exact leaf_comp hl h2 ps acc (by omega) fun xs h1 h3 => h xs (by rw [List.length_cons]; omega) fun x hx => (h3 x hx).imp_right fun h4 => List.mem_cons_of_mem _ h4
theorem eqv_inner {inner : Option Str} {sort : Str} {st : Sto} {Q : QD} (hi : innOk inner) (hs : isSort sort) (q : Q (.bl (decide (inner = some sort))) st) : rdEq false (inD inner) (.str sort) st Q := by
  cases inner with
  | none =>
    refine ⟨.none, .str sort, by unfold pyv; simp [look, D.py, inD], by unfold pyv; simp [look, D.py], by decide +kernel, ?_, ?_⟩
    · unfold SeqAt.shaped
      simp [PyData.canLay0, PyData.depth, okS_strOk (sort_ok hs)]
    · have : PyData.eqv .none (.str sort) = false := by simp [PyData.eqv]
      rw [this]
      simpa using q
  | some s => simpa [inD, rdEq] using q
theorem rd_leaf {b w : Nat} {sort : Str} {inner : Option Str} {sent : Bool} {ps : Prs} {gv : Str} {t p : Int} {st : Sto} {Q : QD} (hs : isSort sort) (hi : innOk inner) (hp : PsOk ps) (hb : st b = some .box) (hw : st w = some (wD ps gv t p))
    (q : ∀ d p', Ex ps sort inner sent 0 d → Q d (sup st w (wD ps gv t p'))) :
    t__law_leaf spTake spPick spNumber spValue (ends Q) [some (.ref b), some (.ref w), some (.str sort), some (inD inner), some (.bl sent), none, none, none, none] st := by
  have q0 : ∀ d, Ex ps sort inner sent 0 d → Q d st := fun d hd => by
    have := q d p hd
    rw [sup_id hw] at this
    exact this
  have hbw : b ≠ w := by rintro rfl; rw [hb] at hw; cases hw
  -- behind the names
  have main : ∀ (xs : List Str), xs.length ≤ 1000 → (∀ x ∈ xs, (x, sort) ∈ vars ps inner) → t__law_leaf_r1 spTake spPick spNumber spValue (ends Q) [some (.ref b), some (.ref w), some (.str sort), some (inD inner), some (.bl sent), some (.lst (xs.map D.str)), none, none, none] st := by
    intro xs hxl hx
    have hxo : ∀ x ∈ xs, okS x = true := fun x hx' => vars_ok hp (x, sort) (hx x hx')
    obtain ⟨o1, o2, _⟩ := strs_pys xs hxo
    have o3 : D.dps (xs.map D.str) < 64 := by rw [o2]; decide
    simp only [t__law_leaf_r1, dSeq, dAsg, dVar, dC, dCall, dCons, dNil, dOp, dUn, dTup, dLst, dLstM, dRet, dRetN, dNext, dDrop, dIfS, dTst, dAnd, dOr, dNot, dAndV, dOrV, dNotV, dIf, dPar, dPar3, dAsgG, gNm, gTp, gsCons, gsNil, dCB, dMt, dMt0, dSl, dPart, dNoPart, dKGet, dGet2, dDisp, dDispM, dpCons, dpNil, dFrz, dYes, rdSub, rdFdiv, rdMod, rdPow, rdLt, rdLe, rdGt, rdGe, rdAbs, rdMax, rdMin, rdI, rdI1, rdI2, rdNeg, rdInt, List.set_cons_zero, List.set_cons_succ, List.getElem?_cons_zero, List.getElem?_cons_succ]
    refine ⟨b, _, rfl, by decide, by decide, hb, fun form f0 f1 => ?_⟩
    have r6 : t__law_leaf_r6 spTake spPick spNumber spValue (ends Q) [some (.ref b), some (.ref w), some (.str sort), some (inD inner), some (.bl sent), some (.lst (xs.map D.str)), some (.int form), none, none] st := by
      simp only [t__law_leaf_r6, dSeq, dAsg, dVar, dC, dCall, dCons, dNil, dOp, dUn, dTup, dLst, dLstM, dRet, dRetN, dNext, dDrop, dIfS, dTst, dAnd, dOr, dNot, dAndV, dOrV, dNotV, dIf, dPar, dPar3, dAsgG, gNm, gTp, gsCons, gsNil, dCB, dMt, dMt0, dSl, dPart, dNoPart, dKGet, dGet2, dDisp, dDispM, dpCons, dpNil, dFrz, dYes, rdSub, rdFdiv, rdMod, rdPow, rdLt, rdLe, rdGt, rdGe, rdAbs, rdMax, rdMin, rdI, rdI1, rdI2, rdNeg, rdInt, List.set_cons_zero, List.set_cons_succ, List.getElem?_cons_zero, List.getElem?_cons_succ, rdEq]
      rcases hs with rfl | rfl
      · rw [if_pos (by simp)]
        exact ⟨b, rfl, hb, fun k k1 k2 => ⟨by simp [sizeLine_eq], sb (q0 _ (.number rfl k1 k2))⟩⟩
      · rw [if_neg (by simp [wn])]
        refine ⟨b, "word", rfl, .inr rfl, hb, fun d hd => ⟨by simp [sizeLine_eq], sb (q0 _ ?_)⟩⟩
        rcases hd with ⟨_, x, hx, rfl⟩ | ⟨e, _⟩
        · exact .word rfl hx
        · exact absurd e wn
    have r5 : t__law_leaf_r5 spTake spPick spNumber spValue (ends Q) [some (.ref b), some (.ref w), some (.str sort), some (inD inner), some (.bl sent), some (.lst (xs.map D.str)), some (.int form), none, none] st := by
      simp only [t__law_leaf_r5, dSeq, dAsg, dVar, dC, dCall, dCons, dNil, dOp, dUn, dTup, dLst, dLstM, dRet, dRetN, dNext, dDrop, dIfS, dTst, dAnd, dOr, dNot, dAndV, dOrV, dNotV, dIf, dPar, dPar3, dAsgG, gNm, gTp, gsCons, gsNil, dCB, dMt, dMt0, dSl, dPart, dNoPart, dKGet, dGet2, dDisp, dDispM, dpCons, dpNil, dFrz, dYes, rdSub, rdFdiv, rdMod, rdPow, rdLt, rdLe, rdGt, rdGe, rdAbs, rdMax, rdMin, rdI, rdI1, rdI2, rdNeg, rdInt, List.set_cons_zero, List.set_cons_succ, List.getElem?_cons_zero, List.getElem?_cons_succ, true_and]
      refine ite2 (fun _ => ⟨Nat.zero_le _, eq_nil o1 o3 ?_⟩) (fun _ => ?_)
      · by_cases c : xs = []
        · simp only [c, List.map_nil, decide_true, bne_self_eq_false, Bool.false_eq_true, if_false]
          rw [c] at r6; exact r6
        · simp only [List.map_eq_nil_iff, c, decide_false, Bool.false_bne, if_true]
          refine ⟨b, _, xs.map D.str, rfl, hb, rfl, by simpa using c, by rw [List.length_map]; omega, fun x hx' => ?_⟩
          obtain ⟨z, hz, rfl⟩ := List.mem_map.mp hx'
          exact ⟨by simp [sizeLine_eq], sb (q0 _ (.param (hx z hz)))⟩
      · simpa using r6
    have r4 : t__law_leaf_r4 spTake spPick spNumber spValue (ends Q) [some (.ref b), some (.ref w), some (.str sort), some (inD inner), some (.bl sent), some (.lst (xs.map D.str)), some (.int form), none, none] st := by
      simp only [t__law_leaf_r4, dSeq, dAsg, dVar, dC, dCall, dCons, dNil, dOp, dUn, dTup, dLst, dLstM, dRet, dRetN, dNext, dDrop, dIfS, dTst, dAnd, dOr, dNot, dAndV, dOrV, dNotV, dIf, dPar, dPar3, dAsgG, gNm, gTp, gsCons, gsNil, dCB, dMt, dMt0, dSl, dPart, dNoPart, dKGet, dGet2, dDisp, dDispM, dpCons, dpNil, dFrz, dYes, rdSub, rdFdiv, rdMod, rdPow, rdLt, rdLe, rdGt, rdGe, rdAbs, rdMax, rdMin, rdI, rdI1, rdI2, rdNeg, rdInt, List.set_cons_zero, List.set_cons_succ, List.getElem?_cons_zero, List.getElem?_cons_succ, true_and]
      refine ite2 (fun _ => ⟨Nat.zero_le _, eq_nil o1 o3 ?_⟩) (fun _ => by simpa using r5)
      by_cases c : xs = []
      · simp only [c, List.map_nil, decide_true, bne_self_eq_false, Bool.false_eq_true, if_false]
        rw [c] at r5; exact r5
      · simp only [List.map_eq_nil_iff, c, decide_false, Bool.false_bne, if_true, rdEq]
        by_cases c2 : sort = "number"
        · rw [if_pos (by simp [c2])]
          simp only [rdIx_nf, look, hw, wD, keyOf, wx4, onS_some]
          refine ite2 (fun _ => ?_) (fun _ => by simpa using r5)
          simp only [dSeq, dAsg, dVar, dC, dCall, dCons, dNil, dOp, dUn, dTup, dLst, dLstM, dRet, dRetN, dNext, dDrop, dIfS, dTst, dAnd, dOr, dNot, dAndV, dOrV, dNotV, dIf, dPar, dPar3, dAsgG, gNm, gTp, gsCons, gsNil, dCB, dMt, dMt0, dSl, dPart, dNoPart, dKGet, dGet2, dDisp, dDispM, dpCons, dpNil, dFrz, dYes, rdSub, rdFdiv, rdMod, rdPow, rdLt, rdLe, rdGt, rdGe, rdAbs, rdMax, rdMin, rdI, rdI1, rdI2, rdNeg, rdInt, List.set_cons_zero, List.set_cons_succ, List.getElem?_cons_zero, List.getElem?_cons_succ, dPutS_nf, rdIx_nf, look, hw, wD, keyOf, wx4, wy4, onS_some, true_and]
          refine ⟨small1000 (by show 4 ≤ 1000; decide), b, _, xs.map D.str, rfl, by rw [sup_ne hbw]; exact hb, rfl, by simpa using c, by rw [List.length_map]; omega, fun x hx' => ?_⟩
          obtain ⟨z, hz, rfl⟩ := List.mem_map.mp hx'
          exact ⟨b, rfl, by rw [sup_ne hbw]; exact hb, fun k k1 k2 => ⟨by simp [sizeLine_eq], sb (q _ _ (.plus c2 (hx z hz) k1 k2))⟩⟩
        · rw [if_neg (by simp [c2])]
          simpa using r5
    have r3 : t__law_leaf_r3 spTake spPick spNumber spValue (ends Q) [some (.ref b), some (.ref w), some (.str sort), some (inD inner), some (.bl sent), some (.lst (xs.map D.str)), some (.int form), none, none] st := by
      simp only [t__law_leaf_r3, dSeq, dAsg, dVar, dC, dCall, dCons, dNil, dOp, dUn, dTup, dLst, dLstM, dRet, dRetN, dNext, dDrop, dIfS, dTst, dAnd, dOr, dNot, dAndV, dOrV, dNotV, dIf, dPar, dPar3, dAsgG, gNm, gTp, gsCons, gsNil, dCB, dMt, dMt0, dSl, dPart, dNoPart, dKGet, dGet2, dDisp, dDispM, dpCons, dpNil, dFrz, dYes, rdSub, rdFdiv, rdMod, rdPow, rdLt, rdLe, rdGt, rdGe, rdAbs, rdMax, rdMin, rdI, rdI1, rdI2, rdNeg, rdInt, List.set_cons_zero, List.set_cons_succ, List.getElem?_cons_zero, List.getElem?_cons_succ, rdEq]
      refine ite2 (fun _ => ?_) (fun _ => by simpa using r4)
      cases sent with
      | true => simpa using r4
      | false =>
        simp only [Bool.not_false, if_true]
        refine ⟨b, _, rfl, by decide, by decide, hb, fun r _ _ => ?_⟩
        show if _ then _ else _
        refine ite2 (fun _ => ⟨by simp [sizeLine_eq], b, _, failW.map D.str, rfl, hb, rfl, by simp [failW], by simp [failW], fun x hx' => ?_⟩) (fun _ => r4)
        obtain ⟨z, hz, rfl⟩ := List.mem_map.mp hx'
        exact ⟨by simp [sizeLine_eq], sb (q0 _ (.fail rfl hz))⟩
    show t__law_leaf_r2 spTake spPick spNumber spValue (ends Q) [some (.ref b), some (.ref w), some (.str sort), some (inD inner), some (.bl sent), some (.lst (xs.map D.str)), some (.int form), none, none] st
    simp only [t__law_leaf_r2, dSeq, dAsg, dVar, dC, dCall, dCons, dNil, dOp, dUn, dTup, dLst, dLstM, dRet, dRetN, dNext, dDrop, dIfS, dTst, dAnd, dOr, dNot, dAndV, dOrV, dNotV, dIf, dPar, dPar3, dAsgG, gNm, gTp, gsCons, gsNil, dCB, dMt, dMt0, dSl, dPart, dNoPart, dKGet, dGet2, dDisp, dDispM, dpCons, dpNil, dFrz, dYes, rdSub, rdFdiv, rdMod, rdPow, rdLt, rdLe, rdGt, rdGe, rdAbs, rdMax, rdMin, rdI, rdI1, rdI2, rdNeg, rdInt, List.set_cons_zero, List.set_cons_succ, List.getElem?_cons_zero, List.getElem?_cons_succ, rdEq]
    refine ite2 (fun _ => ?_) (fun _ => by simpa using r3)
    cases sent with
    | true => simpa using r3
    | false => exact ⟨by simp [sizeLine_eq], sb (q0 _ (.none rfl))⟩
  simp only [t__law_leaf, dSeq, dAsg, dVar, dC, dCall, dCons, dNil, dOp, dUn, dTup, dLst, dLstM, dRet, dRetN, dNext, dDrop, dIfS, dTst, dAnd, dOr, dNot, dAndV, dOrV, dNotV, dIf, dPar, dPar3, dAsgG, gNm, gTp, gsCons, gsNil, dCB, dMt, dMt0, dSl, dPart, dNoPart, dKGet, dGet2, dDisp, dDispM, dpCons, dpNil, dFrz, dYes, rdSub, rdFdiv, rdMod, rdPow, rdLt, rdLe, rdGt, rdGe, rdAbs, rdMax, rdMin, rdI, rdI1, rdI2, rdNeg, rdInt, List.set_cons_zero, List.set_cons_succ, List.getElem?_cons_zero, List.getElem?_cons_succ, dLc, dIt, rdIx_nf, look, hw, wD, keyOf, wx1, onS_some, itemsOf]
  have hf := hp.few
  refine leaf_comp (acc := []) (sort := sort) (wipeD_len _ _) rfl ps (by rw [List.length_nil]; omega) fun xs hxl hx => ?_
  refine ⟨by simp [sizeLine_eq], ?_⟩
  refine eqv_inner hi hs ?_
  simp only [rdMul, look, rdAdd]
  have hx' : ∀ x ∈ xs, (x, sort) ∈ ps := fun x h => (hx x h).resolve_left (by simp)
  rw [List.length_nil, Nat.zero_add] at hxl
  by_cases c : inner = some sort
  · subst c
    simp only [decide_true, if_true]
    refine ⟨.inl (by decide), ⟨by decide, by decide, by simp [sizeLine_eq]⟩, by rw [List.length_map]; simp [sizeLine_eq]; omega, ?_⟩
    have := main (xs ++ (["inner", "inner"] : List Str)) (by rw [List.length_append]; simp; omega) fun x h => by
      rcases List.mem_append.mp h with h | h
      · exact List.mem_append_left _ (hx' x h)
      · simp only [List.mem_cons, List.not_mem_nil, or_false, or_self] at h
        rw [h]; exact List.mem_append_right _ (List.mem_cons_self ..)
    rw [List.map_append] at this
    exact this
  · simp only [c, decide_false, Bool.false_eq_true, if_false]
    refine ⟨.inl (by decide), ⟨by decide, by decide, by simp [sizeLine_eq]⟩, by rw [List.length_map]; simp [sizeLine_eq]; omega, ?_⟩
    have := main xs (by omega) fun x h => List.mem_append_left _ (hx' x h)
    simpa using this
/-! ### _law_test -/
def spTest (m : Nat) : DSp := fun ds st Q _ => ∃ b w inner deep ps gv t p, ds = [.ref b, .ref w, inD inner, .int deep] ∧ innOk inner ∧ PsOk ps ∧ (ps ≠ [] ∨ inner ≠ none) ∧ 0 ≤ deep ∧ deep < (m : Int) ∧ st b = some .box ∧ st w = some (wD ps gv t p) ∧
  ∀ d t', Tst ps inner deep.toNat d → Q d (sup st w (wD ps gv t' p))
theorem rd_test {m b w : Nat} {inner : Option Str} {deep : Int} {ps : Prs} {gv : Str} {t p : Int} {st : Sto} {Q : QD} (hi : innOk inner) (hp : PsOk ps) (hne : ps ≠ [] ∨ inner ≠ none) (d0 : 0 ≤ deep) (dm : deep < (m : Int) + 1) (hb : st b = some .box) (hw : st w = some (wD ps gv t p))
    (q : ∀ d t', Tst ps inner deep.toNat d → Q d (sup st w (wD ps gv t' p))) :
    t__law_test spTake (spTest m) spPick spNumber spValue (ends Q) [some (.ref b), some (.ref w), some (inD inner), some (.int deep), none, none, none, none, none] st := by
  have hbw : b ≠ w := by rintro rfl; rw [hb] at hw; cases hw
  have s4 : ∀ (a : List (Key × D)), a.length ≤ 4 → a.length < sizeLine := fun a h => small1000 (by omega)
  simp only [t__law_test, dSeq, dAsg, dVar, dC, dCall, dCons, dNil, dOp, dUn, dTup, dLst, dLstM, dRet, dRetN, dNext, dDrop, dIfS, dTst, dAnd, dOr, dNot, dAndV, dOrV, dNotV, dIf, dPar, dPar3, dAsgG, gNm, gTp, gsCons, gsNil, dCB, dMt, dMt0, dSl, dPart, dNoPart, dKGet, dGet2, dDisp, dDispM, dpCons, dpNil, dFrz, dYes, rdSub, rdFdiv, rdMod, rdPow, rdLt, rdLe, rdGt, rdGe, rdAbs, rdMax, rdMin, rdI, rdI1, rdI2, rdNeg, rdInt, List.set_cons_zero, List.set_cons_succ, List.getElem?_cons_zero, List.getElem?_cons_succ, dPutS_nf, rdIx_nf, look, hw, wD, keyOf, wx3, wy3, onS_some, true_and]
  refine ⟨s4 _ (by show 4 ≤ 4; decide), ?_⟩
  -- from now on: the store with another count of tests
  have main : ∀ (t : Int) (st : Sto), st b = some .box → st w = some (wD ps gv t p) → (∀ d t', Tst ps inner deep.toNat d → Q d (sup st w (wD ps gv t' p))) → t__law_test_r1 spTake (spTest m) spPick spNumber spValue (ends Q) [some (.ref b), some (.ref w), some (inD inner), some (.int deep), none, none, none, none, none] st := by
    clear q hw hb
    intro t st hb hw q
    have q0 : ∀ d, Tst ps inner deep.toNat d → Q d st := fun d hd => by
      have := q d t hd
      rw [sup_id hw] at this
      exact this
    simp only [t__law_test_r1, dSeq, dAsg, dVar, dC, dCall, dCons, dNil, dOp, dUn, dTup, dLst, dLstM, dRet, dRetN, dNext, dDrop, dIfS, dTst, dAnd, dOr, dNot, dAndV, dOrV, dNotV, dIf, dPar, dPar3, dAsgG, gNm, gTp, gsCons, gsNil, dCB, dMt, dMt0, dSl, dPart, dNoPart, dKGet, dGet2, dDisp, dDispM, dpCons, dpNil, dFrz, dYes, rdSub, rdFdiv, rdMod, rdPow, rdLt, rdLe, rdGt, rdGe, rdAbs, rdMax, rdMin, rdI, rdI1, rdI2, rdNeg, rdInt, List.set_cons_zero, List.set_cons_succ, List.getElem?_cons_zero, List.getElem?_cons_succ]
    refine ⟨b, _, rfl, by decide, by decide, hb, fun form f0 f1 => ?_⟩
    -- the plain test
    have r4 : t__law_test_r4 spTake (spTest m) spPick spNumber spValue (ends Q) [some (.ref b), some (.ref w), some (inD inner), some (.int deep), some (.int form), none, none, none, none] st := by
      have cont : t__law_test_r5 spTake (spTest m) spPick spNumber spValue (ends Q) [some (.ref b), some (.ref w), some (inD inner), some (.int deep), some (.int form), none, some (.lst ((vars ps inner).map pD)), none, none] st := by
        have r6 : t__law_test_r6 spTake (spTest m) spPick spNumber spValue (ends Q) [some (.ref b), some (.ref w), some (inD inner), some (.int deep), some (.int form), none, some (.lst ((vars ps inner).map pD)), none, none] st := by
          simp only [t__law_test_r6, dSeq, dAsg, dVar, dC, dCall, dCons, dNil, dOp, dUn, dTup, dLst, dLstM, dRet, dRetN, dNext, dDrop, dIfS, dTst, dAnd, dOr, dNot, dAndV, dOrV, dNotV, dIf, dPar, dPar3, dAsgG, gNm, gTp, gsCons, gsNil, dCB, dMt, dMt0, dSl, dPart, dNoPart, dKGet, dGet2, dDisp, dDispM, dpCons, dpNil, dFrz, dYes, rdSub, rdFdiv, rdMod, rdPow, rdLt, rdLe, rdGt, rdGe, rdAbs, rdMax, rdMin, rdI, rdI1, rdI2, rdNeg, rdInt, List.set_cons_zero, List.set_cons_succ, List.getElem?_cons_zero, List.getElem?_cons_succ]
          have hvn : vars ps inner ≠ [] := by
            rcases hne with h | h
            · intro z; exact h (List.append_eq_nil_iff.mp z).1
            · cases inner with
              | none => exact absurd rfl h
              | some s => intro z; exact absurd (List.append_eq_nil_iff.mp z).2 (by simp)
          refine ⟨b, _, (vars ps inner).map pD, rfl, hb, rfl, by simpa using hvn, by rw [List.length_map]; have := vars_len (inner := inner) hp; omega, fun x hx => ?_⟩
          obtain ⟨v, hv, rfl⟩ := List.mem_map.mp hx
          refine ⟨rfl, ?_⟩
          show t__law_test_r7 spTake (spTest m) spPick spNumber spValue (ends Q) [some (.ref b), some (.ref w), some (inD inner), some (.int deep), some (.int form), none, some (.lst ((vars ps inner).map pD)), some (.str v.1), some (.str v.2)] st
          simp only [t__law_test_r7, dSeq, dAsg, dVar, dC, dCall, dCons, dNil, dOp, dUn, dTup, dLst, dLstM, dRet, dRetN, dNext, dDrop, dIfS, dTst, dAnd, dOr, dNot, dAndV, dOrV, dNotV, dIf, dPar, dPar3, dAsgG, gNm, gTp, gsCons, gsNil, dCB, dMt, dMt0, dSl, dPart, dNoPart, dKGet, dGet2, dDisp, dDispM, dpCons, dpNil, dFrz, dYes, rdSub, rdFdiv, rdMod, rdPow, rdLt, rdLe, rdGt, rdGe, rdAbs, rdMax, rdMin, rdI, rdI1, rdI2, rdNeg, rdInt, List.set_cons_zero, List.set_cons_succ, List.getElem?_cons_zero, List.getElem?_cons_succ, rdEq]
          obtain ⟨x, s⟩ := v
          rcases vars_sort hp hi _ hv with e | e
          · have e : s = "number" := e
            subst e
            rw [if_pos (by simp)]
            exact ⟨b, rfl, hb, fun k k1 k2 => ⟨by simp [sizeLine_eq], sb (q0 _ (.most hv k1 k2))⟩⟩
          · have e : s = "word" := e
            subst e
            rw [if_neg (by simp [wn])]
            simp only [t__law_test_r8, dSeq, dAsg, dVar, dC, dCall, dCons, dNil, dOp, dUn, dTup, dLst, dLstM, dRet, dRetN, dNext, dDrop, dIfS, dTst, dAnd, dOr, dNot, dAndV, dOrV, dNotV, dIf, dPar, dPar3, dAsgG, gNm, gTp, gsCons, gsNil, dCB, dMt, dMt0, dSl, dPart, dNoPart, dKGet, dGet2, dDisp, dDispM, dpCons, dpNil, dFrz, dYes, rdSub, rdFdiv, rdMod, rdPow, rdLt, rdLe, rdGt, rdGe, rdAbs, rdMax, rdMin, rdI, rdI1, rdI2, rdNeg, rdInt, List.set_cons_zero, List.set_cons_succ, List.getElem?_cons_zero, List.getElem?_cons_succ]
            refine ⟨b, "word", rfl, .inr rfl, hb, fun d hd => ⟨by simp [sizeLine_eq], sb (q0 _ ?_)⟩⟩
            rcases hd with ⟨_, z, hz, rfl⟩ | ⟨e, _⟩
            · exact .is hv hz
            · exact absurd e wn
        simp only [t__law_test_r5, dSeq, dAsg, dVar, dC, dCall, dCons, dNil, dOp, dUn, dTup, dLst, dLstM, dRet, dRetN, dNext, dDrop, dIfS, dTst, dAnd, dOr, dNot, dAndV, dOrV, dNotV, dIf, dPar, dPar3, dAsgG, gNm, gTp, gsCons, gsNil, dCB, dMt, dMt0, dSl, dPart, dNoPart, dKGet, dGet2, dDisp, dDispM, dpCons, dpNil, dFrz, dYes, rdSub, rdFdiv, rdMod, rdPow, rdLt, rdLe, rdGt, rdGe, rdAbs, rdMax, rdMin, rdI, rdI1, rdI2, rdNeg, rdInt, List.set_cons_zero, List.set_cons_succ, List.getElem?_cons_zero, List.getElem?_cons_succ, rdEq]
        cases inner with
        | none =>
          simp only [inD, rdIsN, Bool.false_eq_true, if_false, Bool.not_true]
          exact r6
        | some s =>
          simp only [inD, rdIsN, if_true]
          refine ite2 (fun _ => ⟨by simp [sizeLine_eq], sb (q0 _ (.lacks (by simp)))⟩) (fun _ => r6)
      simp only [t__law_test_r4, dSeq, dAsg, dVar, dC, dCall, dCons, dNil, dOp, dUn, dTup, dLst, dLstM, dRet, dRetN, dNext, dDrop, dIfS, dTst, dAnd, dOr, dNot, dAndV, dOrV, dNotV, dIf, dPar, dPar3, dAsgG, gNm, gTp, gsCons, gsNil, dCB, dMt, dMt0, dSl, dPart, dNoPart, dKGet, dGet2, dDisp, dDispM, dpCons, dpNil, dFrz, dYes, rdSub, rdFdiv, rdMod, rdPow, rdLt, rdLe, rdGt, rdGe, rdAbs, rdMax, rdMin, rdI, rdI1, rdI2, rdNeg, rdInt, List.set_cons_zero, List.set_cons_succ, List.getElem?_cons_zero, List.getElem?_cons_succ, rdIx_nf, look, hw, wD, keyOf, wx1, onS_some]
      have hf := hp.few
      cases inner with
      | none =>
        simp only [inD, rdIsN, rdMul, rdAdd, look, if_false, Bool.false_eq_true, Bool.not_true]
        refine ⟨by simp [sizeLine_eq], by simp [sizeLine_eq], .inl (by decide), ⟨by decide, by decide, by simp [sizeLine_eq]⟩, by rw [List.length_map]; simp [sizeLine_eq]; omega, ?_⟩
        simpa [vars, inD] using cont
      | some s =>
        simp only [inD, rdIsN, rdMul, rdAdd, look, if_true]
        refine ⟨by simp [sizeLine_eq], by simp [sizeLine_eq], .inl (by decide), ⟨by decide, by decide, by simp [sizeLine_eq]⟩, by rw [List.length_map]; simp [sizeLine_eq]; omega, ?_⟩
        have := cont
        unfold vars at this
        rw [List.map_append] at this
        exact this
    have r3 : (0 < deep → form ≠ 0) → t__law_test_r3 spTake (spTest m) spPick spNumber spValue (ends Q) [some (.ref b), some (.ref w), some (inD inner), some (.int deep), some (.int form), none, none, none, none] st := by
      intro hform
      simp only [t__law_test_r3, dSeq, dAsg, dVar, dC, dCall, dCons, dNil, dOp, dUn, dTup, dLst, dLstM, dRet, dRetN, dNext, dDrop, dIfS, dTst, dAnd, dOr, dNot, dAndV, dOrV, dNotV, dIf, dPar, dPar3, dAsgG, gNm, gTp, gsCons, gsNil, dCB, dMt, dMt0, dSl, dPart, dNoPart, dKGet, dGet2, dDisp, dDispM, dpCons, dpNil, dFrz, dYes, rdSub, rdFdiv, rdMod, rdPow, rdLt, rdLe, rdGt, rdGe, rdAbs, rdMax, rdMin, rdI, rdI1, rdI2, rdNeg, rdInt, List.set_cons_zero, List.set_cons_succ, List.getElem?_cons_zero, List.getElem?_cons_succ, rdIx_nf, look, hw, wD, keyOf, wx3, onS_some, true_and]
      refine ite2 (fun c1 => ?_) (fun _ => by simpa using r4)
      refine ite2 (fun c2 => ?_) (fun _ => by simpa using r4)
      refine ite2 (fun _ => ?_) (fun _ => by simpa using r4)
      have hd : 0 < deep := by simpa using c1
      have hf3 : form < 3 := by simpa using c2
      have hf0 := hform hd
      refine ⟨b, w, inner, 0, ps, gv, t, p, rfl, hi, hp, hne, by decide, by omega, hb, hw, fun d1 t1 hd1 => ?_⟩
      simp only [dSeq, dAsg, dVar, dC, dCall, dCons, dNil, dOp, dUn, dTup, dLst, dLstM, dRet, dRetN, dNext, dDrop, dIfS, dTst, dAnd, dOr, dNot, dAndV, dOrV, dNotV, dIf, dPar, dPar3, dAsgG, gNm, gTp, gsCons, gsNil, dCB, dMt, dMt0, dSl, dPart, dNoPart, dKGet, dGet2, dDisp, dDispM, dpCons, dpNil, dFrz, dYes, rdSub, rdFdiv, rdMod, rdPow, rdLt, rdLe, rdGt, rdGe, rdAbs, rdMax, rdMin, rdI, rdI1, rdI2, rdNeg, rdInt, List.set_cons_zero, List.set_cons_succ, List.getElem?_cons_zero, List.getElem?_cons_succ, dPutS_nf, rdIx_nf, rdAdd, look, sup_same, sup_sup, wD, keyOf, wx3, wy3, onS_some, true_and]
      refine ⟨s4 _ (by show 4 ≤ 4; decide), by simp [sizeLine_eq], ?_⟩
      have key : ∃ h : Str, (h = "both" ∨ h = "either") ∧ atI [D.str "both", D.str "either"] (form - 1) = some (.str h) := by
        have : form = 1 ∨ form = 2 := by omega
        rcases this with rfl | rfl
        · exact ⟨_, .inl rfl, rfl⟩
        · exact ⟨_, .inr rfl, rfl⟩
      obtain ⟨h, hh, eh⟩ := key
      simp only [eh, onS_some]
      refine ⟨b, w, inner, 0, ps, gv, t1 + 1, p, rfl, hi, hp, hne, by decide, by omega, by rw [sup_ne hbw]; exact hb, sup_same, fun d2 t2 hd2 => ⟨by simp [sizeLine_eq], sb ?_⟩⟩
      rw [sup_sup]
      have m1 : Tst ps inner (deep.toNat - 1) d1 := hd1.mono (by simp)
      have m2 : Tst ps inner (deep.toNat - 1) d2 := hd2.mono (by simp)
      have e : deep.toNat = (deep.toNat - 1) + 1 := by omega
      refine q _ t2 ?_
      rw [e]
      rcases hh with rfl | rfl
      · exact .both m1 m2
      · exact .either m1 m2
    show t__law_test_r2 spTake (spTest m) spPick spNumber spValue (ends Q) [some (.ref b), some (.ref w), some (inD inner), some (.int deep), some (.int form), none, none, none, none] st
    simp only [t__law_test_r2, dSeq, dAsg, dVar, dC, dCall, dCons, dNil, dOp, dUn, dTup, dLst, dLstM, dRet, dRetN, dNext, dDrop, dIfS, dTst, dAnd, dOr, dNot, dAndV, dOrV, dNotV, dIf, dPar, dPar3, dAsgG, gNm, gTp, gsCons, gsNil, dCB, dMt, dMt0, dSl, dPart, dNoPart, dKGet, dGet2, dDisp, dDispM, dpCons, dpNil, dFrz, dYes, rdSub, rdFdiv, rdMod, rdPow, rdLt, rdLe, rdGt, rdGe, rdAbs, rdMax, rdMin, rdI, rdI1, rdI2, rdNeg, rdInt, List.set_cons_zero, List.set_cons_succ, List.getElem?_cons_zero, List.getElem?_cons_succ, rdEq, true_and]
    refine ite2 (fun c1 => ?_) (fun c1 => by simpa using r3 (fun h => absurd (by simpa using h) c1))
    refine ite2 (fun _ => ?_) (fun c2 => r3 (fun _ h => c2 (by simp [h])))
    have hd : 0 < deep := by simpa using c1
    simp only [dSeq, dAsg, dVar, dC, dCall, dCons, dNil, dOp, dUn, dTup, dLst, dLstM, dRet, dRetN, dNext, dDrop, dIfS, dTst, dAnd, dOr, dNot, dAndV, dOrV, dNotV, dIf, dPar, dPar3, dAsgG, gNm, gTp, gsCons, gsNil, dCB, dMt, dMt0, dSl, dPart, dNoPart, dKGet, dGet2, dDisp, dDispM, dpCons, dpNil, dFrz, dYes, rdSub, rdFdiv, rdMod, rdPow, rdLt, rdLe, rdGt, rdGe, rdAbs, rdMax, rdMin, rdI, rdI1, rdI2, rdNeg, rdInt, List.set_cons_zero, List.set_cons_succ, List.getElem?_cons_zero, List.getElem?_cons_succ, dPutS_nf, rdIx_nf, rdAdd, look, hw, wD, keyOf, wx3, wy3, onS_some, true_and]
    refine ⟨s4 _ (by show 4 ≤ 4; decide), b, w, inner, deep - 1, ps, gv, t + 1, p, rfl, hi, hp, hne, by omega, by omega, by rw [sup_ne hbw]; exact hb, sup_same, fun d1 t1 hd1 => ⟨by simp [sizeLine_eq], sb ?_⟩⟩
    rw [sup_sup]
    refine q _ t1 ?_
    have e : deep.toNat = (deep - 1).toNat + 1 := by omega
    rw [e]
    exact .not hd1
  refine main _ _ (by rw [sup_ne hbw]; exact hb) sup_same fun d t' hd => ?_
  rw [sup_sup]
  exact q d t' hd
end TL
namespace TL
open PySem PySem.Spec PyProof.Rows L2
def t__law_expression_r4 (_law_can_test : DSp) (_law_take : DSp) (_law_leaf : DSp) (_law_test : DSp) (_law_expression : DSp) : TDS :=
  (dRet (dIf (dTst (dOp (rdEq false) (dCall _law_take (dCons (dVar 0) (dCons (dC (.int 2)) dNil))) (dC (.int 0)))) (dTup (dCons (dC (.str "if")) (dCons (dVar 6) (dCons (dVar 7) (dCons (dVar 8) dNil))))) (dTup (dCons (dC (.str "if")) (dCons (dVar 6) (dCons (dVar 8) (dCons (dVar 7) dNil)))))))
def t__law_expression_r3 (_law_can_test : DSp) (_law_take : DSp) (_law_leaf : DSp) (_law_test : DSp) (_law_expression : DSp) : TDS :=
  (dSeq (dAsg 8 (dCall _law_leaf (dCons (dVar 0) (dCons (dVar 1) (dCons (dVar 2) (dCons (dVar 3) (dCons (dVar 4) dNil)))))))
  (t__law_expression_r4 _law_can_test _law_take _law_leaf _law_test _law_expression))
def t__law_expression_r2 (_law_can_test : DSp) (_law_take : DSp) (_law_leaf : DSp) (_law_test : DSp) (_law_expression : DSp) : TDS :=
  (dSeq (dAsg 7 (dCall _law_expression (dCons (dVar 0) (dCons (dVar 1) (dCons (dVar 2) (dCons (dVar 3) (dCons (dVar 4) (dCons (dOp rdSub (dVar 5) (dC (.int 1))) dNil))))))))
  (t__law_expression_r3 _law_can_test _law_take _law_leaf _law_test _law_expression))
def t__law_expression_r1 (_law_can_test : DSp) (_law_take : DSp) (_law_leaf : DSp) (_law_test : DSp) (_law_expression : DSp) : TDS :=
  (dSeq (dAsg 6 (dCall _law_test (dCons (dVar 0) (dCons (dVar 1) (dCons (dVar 3) (dCons (dC (.int 1)) dNil))))))
  (t__law_expression_r2 _law_can_test _law_take _law_leaf _law_test _law_expression))
def t__law_expression (_law_can_test : DSp) (_law_take : DSp) (_law_leaf : DSp) (_law_test : DSp) (_law_expression : DSp) : TDS :=
  (dSeq (dIfS (dOr (dTst (dOp rdLt (dVar 5) (dC (.int 1)))) (dOr (dNot (dTst (dCall _law_can_test (dCons (dVar 1) (dCons (dVar 3) dNil))))) (dTst (dOp (rdEq false) (dCall _law_take (dCons (dVar 0) (dCons (dC (.int 3)) dNil))) (dC (.int 0))))))
  (dRet (dCall _law_leaf (dCons (dVar 0) (dCons (dVar 1) (dCons (dVar 2) (dCons (dVar 3) (dCons (dVar 4) dNil)))))))
  dNext)
  (t__law_expression_r1 _law_can_test _law_take _law_leaf _law_test _law_expression))
theorem st__law_expression (ds : List D) : startD ["_law_box_here", "_law_world_here", "_law_sort", "_law_inner", "_law_sent", "_law_deep", "_law_test_here", "_law_one", "_law_other"] ds = ds.map some ++ List.replicate (9 - ds.length) none := rfl
def t__law_ask_b1 (_law_mixed : DSp) (_law_take : DSp) (_law_expression : DSp) (_law_leaf : DSp) : TDS :=
  (dSeq (dAsg 6 (dOp rdMul (dVar 2) (dCB rdInt (dCons (dOp (rdEq false) (dCall _law_take (dCons (dVar 0) (dCons (dC (.int 5)) dNil))) (dC (.int 0))) dNil))))
  (dDrop (dMt rdAppend (dVar 3) (dCons (dTup (dCons (dVar 4) (dCons (dCall _law_expression (dCons (dVar 0) (dCons (dVar 1) (dCons (dVar 5) (dCons (dC .non) (dCons (dC (.bl true)) (dCons (dVar 6) dNil))))))) dNil))) dNil))))
def t__law_ask_r5 (_law_mixed : DSp) (_law_take : DSp) (_law_expression : DSp) (_law_leaf : DSp) : TDS :=
  (dRet (dTup (dCons (dC (.str "ask")) (dCons (dCB rdTuple (dCons (dVar 3) dNil)) (dCons (dVar 7) (dCons (dVar 8) dNil))))))
def t__law_ask_r4 (_law_mixed : DSp) (_law_take : DSp) (_law_expression : DSp) (_law_leaf : DSp) : TDS :=
  (dSeq (dAsg 8 (dIf (dTst (dOp (rdEq false) (dCall _law_take (dCons (dVar 0) (dCons (dC (.int 3)) dNil))) (dC (.int 0)))) (dCall _law_leaf (dCons (dVar 0) (dCons (dVar 1) (dCons (dOp rdIx (dVar 1) (dC (.str "gives"))) (dCons (dC .non) (dCons (dC (.bl false)) dNil)))))) (dC .non)))
  (t__law_ask_r5 _law_mixed _law_take _law_expression _law_leaf))
def t__law_ask_r3 (_law_mixed : DSp) (_law_take : DSp) (_law_expression : DSp) (_law_leaf : DSp) : TDS :=
  (dSeq (dIfS (dTst (dOp rdGt (dCall _law_take (dCons (dVar 0) (dCons (dC (.int 3)) dNil))) (dC (.int 0))))
  (dSeq (dPar 6 5 (dCons (dOp rdMul (dVar 2) (dCall _law_take (dCons (dVar 0) (dCons (dC (.int 2)) dNil)))) (dCons (dOp rdIx (dVar 1) (dC (.str "gives"))) dNil)))
  (dAsg 7 (dCall _law_expression (dCons (dVar 0) (dCons (dVar 1) (dCons (dVar 5) (dCons (dVar 5) (dCons (dC (.bl false)) (dCons (dVar 6) dNil)))))))))
  dNext)
  (t__law_ask_r4 _law_mixed _law_take _law_expression _law_leaf))
def t__law_ask_r2 (_law_mixed : DSp) (_law_take : DSp) (_law_expression : DSp) (_law_leaf : DSp) : TDS :=
  (dSeq (dAsg 7 (dTup (dCons (dC (.str "param")) (dCons (dC (.str "inner")) dNil))))
  (t__law_ask_r3 _law_mixed _law_take _law_expression _law_leaf))
def t__law_ask_r1 (_law_mixed : DSp) (_law_take : DSp) (_law_expression : DSp) (_law_leaf : DSp) : TDS :=
  (dSeq (dFor (dIt (dSl (dCall _law_mixed (dCons (dVar 0) (dCons (dOp rdIx (dVar 1) (dC (.str "params"))) dNil))) dNoPart (dPart (dCall _law_take (dCons (dVar 0) (dCons (dOp rdAdd (dC (.int 2)) (dVar 2)) dNil)))))) (gTp 2 (gsCons (gNm 4) (gsCons (gNm 5) gsNil)))
  (t__law_ask_b1 _law_mixed _law_take _law_expression _law_leaf))
  (t__law_ask_r2 _law_mixed _law_take _law_expression _law_leaf))
def t__law_ask (_law_mixed : DSp) (_law_take : DSp) (_law_expression : DSp) (_law_leaf : DSp) : TDS :=
  (dSeq (dAsg 3 (dLstM dNil))
  (t__law_ask_r1 _law_mixed _law_take _law_expression _law_leaf))
theorem st__law_ask (ds : List D) : startD ["_law_box_here", "_law_world_here", "_law_deep", "_law_sends", "_law_name", "_law_sort", "_law_few", "_law_turned", "_law_failing"] ds = ds.map some ++ List.replicate (9 - ds.length) none := rfl
def t__law_wrapping_r4 (_law_can_test : DSp) (_law_leaf : DSp) (_law_take : DSp) (_law_ask : DSp) (_law_test : DSp) (_law_wrapping : DSp) : TDS :=
  (dRet (dTup (dCons (dC (.str "if")) (dCons (dVar 4) (dCons (dOp rdIx (dVar 5) (dC (.int 0))) (dCons (dOp rdIx (dVar 5) (dC (.int 1))) dNil))))))
def t__law_wrapping_r3 (_law_can_test : DSp) (_law_leaf : DSp) (_law_take : DSp) (_law_ask : DSp) (_law_test : DSp) (_law_wrapping : DSp) : TDS :=
  (dSeq (dAsg 5 (dIf (dTst (dOp (rdEq false) (dCall _law_take (dCons (dVar 0) (dCons (dC (.int 2)) dNil))) (dC (.int 0)))) (dVar 5) (dUn rdRev (dVar 5))))
  (t__law_wrapping_r4 _law_can_test _law_leaf _law_take _law_ask _law_test _law_wrapping))
def t__law_wrapping_r2 (_law_can_test : DSp) (_law_leaf : DSp) (_law_take : DSp) (_law_ask : DSp) (_law_test : DSp) (_law_wrapping : DSp) : TDS :=
  (dSeq (dAsg 5 (dLst (dCons (dCall _law_wrapping (dCons (dVar 0) (dCons (dVar 1) (dCons (dOp rdSub (dVar 2) (dC (.int 1))) dNil)))) (dCons (dCall _law_wrapping (dCons (dVar 0) (dCons (dVar 1) (dCons (dC (.int 0)) dNil)))) dNil))))
  (t__law_wrapping_r3 _law_can_test _law_leaf _law_take _law_ask _law_test _law_wrapping))
def t__law_wrapping_r1 (_law_can_test : DSp) (_law_leaf : DSp) (_law_take : DSp) (_law_ask : DSp) (_law_test : DSp) (_law_wrapping : DSp) : TDS :=
  (dSeq (dAsg 4 (dCall _law_test (dCons (dVar 0) (dCons (dVar 1) (dCons (dC .non) (dCons (dC (.int 0)) dNil))))))
  (t__law_wrapping_r2 _law_can_test _law_leaf _law_take _law_ask _law_test _law_wrapping))
def t__law_wrapping (_law_can_test : DSp) (_law_leaf : DSp) (_law_take : DSp) (_law_ask : DSp) (_law_test : DSp) (_law_wrapping : DSp) : TDS :=
  (dSeq (dIfS (dOr (dTst (dOp rdLt (dVar 2) (dC (.int 1)))) (dNot (dTst (dCall _law_can_test (dCons (dVar 1) (dCons (dC .non) dNil))))))
  (dSeq (dAsg 3 (dCall _law_leaf (dCons (dVar 0) (dCons (dVar 1) (dCons (dOp rdIx (dVar 1) (dC (.str "gives"))) (dCons (dC .non) (dCons (dC (.bl false)) dNil)))))))
  (dRet (dIf (dTst (dOp rdGt (dCall _law_take (dCons (dVar 0) (dCons (dC (.int 4)) dNil))) (dC (.int 0)))) (dCall _law_ask (dCons (dVar 0) (dCons (dVar 1) (dCons (dC (.int 0)) dNil)))) (dVar 3))))
  dNext)
  (t__law_wrapping_r1 _law_can_test _law_leaf _law_take _law_ask _law_test _law_wrapping))
theorem st__law_wrapping (ds : List D) : startD ["_law_box_here", "_law_world_here", "_law_deep", "_law_leaf_here", "_law_test_here", "_law_some"] ds = ds.map some ++ List.replicate (6 - ds.length) none := rfl
def t__law_body_r2 (_law_expression : DSp) (_law_take : DSp) (_law_can_test : DSp) (_law_ask : DSp) (_law_wrapping : DSp) : TDS :=
  (dRet (dCall _law_wrapping (dCons (dVar 0) (dCons (dVar 1) (dCons (dOp rdAdd (dC (.int 1)) (dCall _law_take (dCons (dVar 0) (dCons (dC (.int 2)) dNil)))) dNil)))))
def t__law_body_r1 (_law_expression : DSp) (_law_take : DSp) (_law_can_test : DSp) (_law_ask : DSp) (_law_wrapping : DSp) : TDS :=
  (dSeq (dIfS (dOr (dTst (dOp (rdEq false) (dCall _law_take (dCons (dVar 0) (dCons (dC (.int 2)) dNil))) (dC (.int 0)))) (dNot (dTst (dCall _law_can_test (dCons (dVar 1) (dCons (dC .non) dNil))))))
  (dRet (dCall _law_ask (dCons (dVar 0) (dCons (dVar 1) (dCons (dC (.int 1)) dNil)))))
  dNext)
  (t__law_body_r2 _law_expression _law_take _law_can_test _law_ask _law_wrapping))
def t__law_body (_law_expression : DSp) (_law_take : DSp) (_law_can_test : DSp) (_law_ask : DSp) (_law_wrapping : DSp) : TDS :=
  (dSeq (dIfS (dNot (dTst (dVar 2)))
  (dRet (dCall _law_expression (dCons (dVar 0) (dCons (dVar 1) (dCons (dOp rdIx (dVar 1) (dC (.str "gives"))) (dCons (dC .non) (dCons (dC (.bl false)) (dCons (dCall _law_take (dCons (dVar 0) (dCons (dC (.int 3)) dNil))) dNil))))))))
  dNext)
  (t__law_body_r1 _law_expression _law_take _law_can_test _law_ask _law_wrapping))
theorem st__law_body (ds : List D) : startD ["_law_box_here", "_law_world_here", "_law_is_outer"] ds = ds.map some ++ List.replicate (3 - ds.length) none := rfl
def t__law_any_hook (_law_hook : DSp) (_law_pick : DSp) : TDS :=
  (dRet (dCall _law_hook (dCons (dVar 0) (dCons (dC (.str "shade")) (dCons (dCall _law_pick (dCons (dVar 0) (dCons (dLst (dCons (dC (.str "first")) (dCons (dC (.str "through")) (dCons (dC (.str "each")) dNil)))) dNil))) dNil)))))
theorem st__law_any_hook (ds : List D) : startD ["_law_box_here"] ds = ds.map some ++ List.replicate (1 - ds.length) none := rfl
section
variable {st : Sto} {w : Nat} {ps : Prs} {gv : Str} {t p : Int} {Q : QD}
theorem ixw1 (hw : st w = some (wD ps gv t p)) : rdIx (.ref w) (.str "params") st Q = Q (.lst (ps.map pD)) st := by rw [rdIx_nf]; simp only [look, hw, wD, keyOf, wx1, onS_some]
theorem ixw2 (hw : st w = some (wD ps gv t p)) : rdIx (.ref w) (.str "gives") st Q = Q (.str gv) st := by rw [rdIx_nf]; simp only [look, hw, wD, keyOf, wx2, onS_some]
theorem ixw3 (hw : st w = some (wD ps gv t p)) : rdIx (.ref w) (.str "tests") st Q = Q (.int t) st := by rw [rdIx_nf]; simp only [look, hw, wD, keyOf, wx3, onS_some]
theorem ixw4 (hw : st w = some (wD ps gv t p)) : rdIx (.ref w) (.str "plus") st Q = Q (.int p) st := by rw [rdIx_nf]; simp only [look, hw, wD, keyOf, wx4, onS_some]
end
def spExpr (m : Nat) : DSp := fun ds st Q _ => ∃ b w sort inner sent deep ps gv t p, ds = [.ref b, .ref w, .str sort, inD inner, .bl sent, .int deep] ∧ isSort sort ∧ innOk inner ∧ PsOk ps ∧ 0 ≤ deep ∧ deep < (m : Int) ∧ st b = some .box ∧ st w = some (wD ps gv t p) ∧
  ∀ d t' p', Ex ps sort inner sent deep.toNat d → Q d (sup st w (wD ps gv t' p'))
theorem rd_expr {m b w : Nat} {sort : Str} {inner : Option Str} {sent : Bool} {deep : Int} {ps : Prs} {gv : Str} {t p : Int} {st : Sto} {Q : QD} (hs : isSort sort) (hi : innOk inner) (hp : PsOk ps) (d0 : 0 ≤ deep) (dm : deep < (m : Int) + 1) (hb : st b = some .box) (hw : st w = some (wD ps gv t p))
    (q : ∀ d t' p', Ex ps sort inner sent deep.toNat d → Q d (sup st w (wD ps gv t' p'))) :
    t__law_expression spCan spTake spLeaf (spTest 2) (spExpr m) (ends Q) [some (.ref b), some (.ref w), some (.str sort), some (inD inner), some (.bl sent), some (.int deep), none, none, none] st := by
  have hbw : b ≠ w := by rintro rfl; rw [hb] at hw; cases hw
  have leaf : spLeaf [.ref b, .ref w, .str sort, inD inner, .bl sent] st (fun d st => ∃ st', Sub st' st ∧ Q d st') (fun _ _ _ => False) := ⟨b, w, sort, inner, sent, ps, gv, t, p, rfl, hs, hi, hp, hb, hw, fun d p' hd => sb (q d t p' (hd.mono (Nat.zero_le _)))⟩
  simp only [t__law_expression, dSeq, dAsg, dVar, dC, dCall, dCons, dNil, dOp, dUn, dTup, dLst, dLstM, dRet, dRetN, dNext, dDrop, dIfS, dTst, dAnd, dOr, dNot, dAndV, dOrV, dNotV, dIf, dPar, dPar3, dAsgG, gNm, gTp, gsCons, gsNil, dCB, dMt, dMt0, dSl, dPart, dNoPart, dKGet, dGet2, dDisp, dDispM, dpCons, dpNil, dFrz, dYes, rdSub, rdFdiv, rdMod, rdPow, rdLt, rdLe, rdGt, rdGe, rdAbs, rdMax, rdMin, rdI, rdI1, rdI2, rdNeg, rdInt, List.set_cons_zero, List.set_cons_succ, List.getElem?_cons_zero, List.getElem?_cons_succ, true_and, if_true, if_false, Bool.false_eq_true]
  refine ite2 (fun _ => leaf) (fun c1 => ?_)
  have hd1 : 1 ≤ deep := by simpa using c1
  refine ⟨w, inner, ps, gv, t, p, rfl, hp, hw, fun can hcan => ?_⟩
  cases can with
  | false => exact leaf
  | true =>
    refine ⟨b, _, rfl, by decide, by decide, hb, fun r _ _ => ?_⟩
    show if _ then _ else _
    refine ite2 (fun _ => leaf) (fun _ => ?_)
    simp only [t__law_expression_r1, dSeq, dAsg, dVar, dC, dCall, dCons, dNil, dOp, dUn, dTup, dLst, dLstM, dRet, dRetN, dNext, dDrop, dIfS, dTst, dAnd, dOr, dNot, dAndV, dOrV, dNotV, dIf, dPar, dPar3, dAsgG, gNm, gTp, gsCons, gsNil, dCB, dMt, dMt0, dSl, dPart, dNoPart, dKGet, dGet2, dDisp, dDispM, dpCons, dpNil, dFrz, dYes, rdSub, rdFdiv, rdMod, rdPow, rdLt, rdLe, rdGt, rdGe, rdAbs, rdMax, rdMin, rdI, rdI1, rdI2, rdNeg, rdInt, List.set_cons_zero, List.set_cons_succ, List.getElem?_cons_zero, List.getElem?_cons_succ, true_and, if_true, if_false, Bool.false_eq_true]
    refine ⟨b, w, inner, 1, ps, gv, t, p, rfl, hi, hp, hcan rfl, by decide, by decide, hb, hw, fun td t1 ht => ?_⟩
    simp only [t__law_expression_r2, dSeq, dAsg, dVar, dC, dCall, dCons, dNil, dOp, dUn, dTup, dLst, dLstM, dRet, dRetN, dNext, dDrop, dIfS, dTst, dAnd, dOr, dNot, dAndV, dOrV, dNotV, dIf, dPar, dPar3, dAsgG, gNm, gTp, gsCons, gsNil, dCB, dMt, dMt0, dSl, dPart, dNoPart, dKGet, dGet2, dDisp, dDispM, dpCons, dpNil, dFrz, dYes, rdSub, rdFdiv, rdMod, rdPow, rdLt, rdLe, rdGt, rdGe, rdAbs, rdMax, rdMin, rdI, rdI1, rdI2, rdNeg, rdInt, List.set_cons_zero, List.set_cons_succ, List.getElem?_cons_zero, List.getElem?_cons_succ, true_and, if_true, if_false, Bool.false_eq_true]
    refine ⟨b, w, sort, inner, sent, deep - 1, ps, gv, t1, p, rfl, hs, hi, hp, by omega, by omega, by rw [sup_ne hbw]; exact hb, sup_same, fun ad t2 p2 ha => ?_⟩
    simp only [t__law_expression_r3, dSeq, dAsg, dVar, dC, dCall, dCons, dNil, dOp, dUn, dTup, dLst, dLstM, dRet, dRetN, dNext, dDrop, dIfS, dTst, dAnd, dOr, dNot, dAndV, dOrV, dNotV, dIf, dPar, dPar3, dAsgG, gNm, gTp, gsCons, gsNil, dCB, dMt, dMt0, dSl, dPart, dNoPart, dKGet, dGet2, dDisp, dDispM, dpCons, dpNil, dFrz, dYes, rdSub, rdFdiv, rdMod, rdPow, rdLt, rdLe, rdGt, rdGe, rdAbs, rdMax, rdMin, rdI, rdI1, rdI2, rdNeg, rdInt, List.set_cons_zero, List.set_cons_succ, List.getElem?_cons_zero, List.getElem?_cons_succ, true_and, if_true, if_false, Bool.false_eq_true]
    refine ⟨b, w, sort, inner, sent, ps, gv, t2, p2, rfl, hs, hi, hp, by rw [sup_ne hbw, sup_ne hbw]; exact hb, sup_same, fun od p3 ho => ?_⟩
    simp only [t__law_expression_r4, dSeq, dAsg, dVar, dC, dCall, dCons, dNil, dOp, dUn, dTup, dLst, dLstM, dRet, dRetN, dNext, dDrop, dIfS, dTst, dAnd, dOr, dNot, dAndV, dOrV, dNotV, dIf, dPar, dPar3, dAsgG, gNm, gTp, gsCons, gsNil, dCB, dMt, dMt0, dSl, dPart, dNoPart, dKGet, dGet2, dDisp, dDispM, dpCons, dpNil, dFrz, dYes, rdSub, rdFdiv, rdMod, rdPow, rdLt, rdLe, rdGt, rdGe, rdAbs, rdMax, rdMin, rdI, rdI1, rdI2, rdNeg, rdInt, List.set_cons_zero, List.set_cons_succ, List.getElem?_cons_zero, List.getElem?_cons_succ, true_and, if_true, if_false, Bool.false_eq_true]
    refine ⟨b, _, rfl, by decide, by decide, by rw [sup_ne hbw, sup_ne hbw, sup_ne hbw]; exact hb, fun r _ _ => ?_⟩
    have e : deep.toNat = (deep - 1).toNat + 1 := by omega
    show if _ then _ else _
    refine ite2 (fun _ => ⟨by simp [sizeLine_eq], sb ?_⟩) (fun _ => ⟨by simp [sizeLine_eq], sb ?_⟩)
    · rw [sup_sup, sup_sup]
      refine q _ t2 p3 ?_
      rw [e]
      exact .cond ht ha (ho.mono (Nat.zero_le _))
    · rw [sup_sup, sup_sup]
      refine q _ t2 p3 ?_
      rw [e]
      exact .cond ht (ho.mono (Nat.zero_le _)) ha
/-! ### asks and bodies -/
def sD (s : Str × D) : D := .tup [.str s.1, s.2]
inductive Bd (ps : Prs) (gv : Str) : Nat → D → Prop
  | ex {n : Nat} {d : D} : Ex ps gv none false 2 d → Bd ps gv n d
  | ask {n : Nat} {sends : List (Str × D)} {turned failing : D} : (∀ s ∈ sends, ∃ srt, (s.1, srt) ∈ ps ∧ Ex ps srt none true 1 s.2) → (sends.map (·.1)).Nodup → sends.length ≤ 3 → Ex ps gv (some gv) false 1 turned → (failing = .non ∨ Ex ps gv none false 0 failing) →
      Bd ps gv n (.tup [.str "ask", .tup (sends.map sD), turned, failing])
  | cond {n : Nat} {t a b : D} : Tst ps none 1 t → Bd ps gv n a → Bd ps gv n b → Bd ps gv (n + 1) (.tup [.str "if", t, a, b])
theorem Bd.mono {ps : Prs} {gv : Str} {n m : Nat} {d : D} (h : Bd ps gv n d) (hm : n ≤ m) : Bd ps gv m d := by
  induction h generalizing m with
  | ex h => exact .ex h
  | ask a b c d e => exact .ask a b c d e
  | cond t _ _ i1 i2 =>
    obtain ⟨m, rfl⟩ : ∃ k, m = k + 1 := ⟨m - 1, by omega⟩
    exact .cond t (i1 (by omega)) (i2 (by omega))
def spAsk : DSp := fun ds st Q _ => ∃ b w deep ps gv t p, ds = [.ref b, .ref w, .int deep] ∧ isSort gv ∧ PsOk ps ∧ 0 ≤ deep ∧ deep ≤ 1 ∧ st b = some .box ∧ st w = some (wD ps gv t p) ∧
  ∀ d t' p', Bd ps gv 0 d → Q d (sup st w (wD ps gv t' p'))
theorem ask_loop {b w f : Nat} {deep : Int} {ps : Prs} {gv : Str} {R : DEnds} {st0 : Sto} {c7 c8 : Option D} (hp : PsOk ps) (d0 : 0 ≤ deep) (d1 : deep ≤ 1) (hb : st0 b = some .box) (hf : st0 f = none) (hbw : b ≠ w) (hfw : f ≠ w) : ∀ (l : Prs) (sends : List (Str × D)) (t p : Int) (c4 c5 c6 : Option D), (∀ x ∈ l, x ∈ ps) → sends.length + l.length ≤ 3 → (∀ s ∈ sends, ∃ srt, (s.1, srt) ∈ ps ∧ Ex ps srt none true 1 s.2) →
    (∀ (sends2 : List (Str × D)) (t p : Int) (c4 c5 c6 : Option D), sends2.map (·.1) = sends.map (·.1) ++ l.map (·.1) → (∀ s ∈ sends2, ∃ srt, (s.1, srt) ∈ ps ∧ Ex ps srt none true 1 s.2) → R.nx [some (.ref b), some (.ref w), some (.int deep), some (.ref f), c4, c5, c6, c7, c8] (sup (sup st0 w (wD ps gv t p)) f (.lst (sends2.map sD)))) →
    dLoop (gTp 2 (gsCons (gNm 4) (gsCons (gNm 5) gsNil))) (t__law_ask_b1 spMixed spTake (spExpr 3) spLeaf) R (l.map pD) [some (.ref b), some (.ref w), some (.int deep), some (.ref f), c4, c5, c6, c7, c8] (sup (sup st0 w (wD ps gv t p)) f (.lst (sends.map sD)))
  | [], sends, t, p, c4, c5, c6, _, _, h3, h => h sends t p c4 c5 c6 (by simp) h3
  | x :: l, sends, t, p, c4, c5, c6, h1, h2, h3, h => by
    have hbf : b ≠ f := by rintro rfl; rw [hb] at hf; cases hf
    have hb' : ∀ W L, sup (sup st0 w W) f L b = some .box := fun W L => by rw [sup_ne hbf, sup_ne hbw]; exact hb
    have hx := h1 x (List.mem_cons_self ..)
    simp only [List.map_cons, dLoop, pD, t__law_ask_b1, dSeq, dAsg, dVar, dC, dCall, dCons, dNil, dOp, dUn, dTup, dLst, dLstM, dRet, dRetN, dNext, dDrop, dIfS, dTst, dAnd, dOr, dNot, dAndV, dOrV, dNotV, dIf, dPar, dPar3, dAsgG, gNm, gTp, gsCons, gsNil, dCB, dMt, dMt0, dSl, dPart, dNoPart, dKGet, dGet2, dDisp, dDispM, dpCons, dpNil, dFrz, dYes, rdSub, rdFdiv, rdMod, rdPow, rdLt, rdLe, rdGt, rdGe, rdAbs, rdMax, rdMin, rdI, rdI1, rdI2, rdNeg, rdInt, List.set_cons_zero, List.set_cons_succ, List.getElem?_cons_zero, List.getElem?_cons_succ, true_and, if_true, if_false, Bool.false_eq_true]
    refine ⟨rfl, b, _, rfl, by decide, by decide, hb' _ _, fun r _ _ => ?_⟩
    have go : ∀ few : Int, 0 ≤ few → few ≤ 1 → (dDrop (dMt rdAppend (dVar 3) (dCons (dTup (dCons (dVar 4) (dCons (dCall (spExpr 3) (dCons (dVar 0) (dCons (dVar 1) (dCons (dVar 5) (dCons (dC .non) (dCons (dC (.bl true)) (dCons (dVar 6) dNil))))))) dNil))) dNil))) { R with nx := dLoop (gTp 2 (gsCons (gNm 4) (gsCons (gNm 5) gsNil))) (t__law_ask_b1 spMixed spTake (spExpr 3) spLeaf) R (l.map pD), ct := dLoop (gTp 2 (gsCons (gNm 4) (gsCons (gNm 5) gsNil))) (t__law_ask_b1 spMixed spTake (spExpr 3) spLeaf) R (l.map pD), bk := R.nx } [some (.ref b), some (.ref w), some (.int deep), some (.ref f), some (.str x.1), some (.str x.2), some (.int few), c7, c8] (sup (sup st0 w (wD ps gv t p)) f (.lst (sends.map sD))) := by
      intro few f0 f1
      simp only [dSeq, dAsg, dVar, dC, dCall, dCons, dNil, dOp, dUn, dTup, dLst, dLstM, dRet, dRetN, dNext, dDrop, dIfS, dTst, dAnd, dOr, dNot, dAndV, dOrV, dNotV, dIf, dPar, dPar3, dAsgG, gNm, gTp, gsCons, gsNil, dCB, dMt, dMt0, dSl, dPart, dNoPart, dKGet, dGet2, dDisp, dDispM, dpCons, dpNil, dFrz, dYes, rdSub, rdFdiv, rdMod, rdPow, rdLt, rdLe, rdGt, rdGe, rdAbs, rdMax, rdMin, rdI, rdI1, rdI2, rdNeg, rdInt, List.set_cons_zero, List.set_cons_succ, List.getElem?_cons_zero, List.getElem?_cons_succ, true_and, if_true, if_false, Bool.false_eq_true]
      refine ⟨isL_ref sup_same, b, w, x.2, none, true, few, ps, gv, t, p, rfl, (hp.ok x hx).2, trivial, hp, f0, by omega, hb' _ _, by rw [sup_ne (Ne.symm hfw), sup_same], fun d t' p' hd => ⟨by simp [sizeLine_eq], ?_⟩⟩
      rw [sup_comm (n := f) (m := w) hfw, sup_sup]
      refine append_of sup_same (by rw [List.length_map, sizeLine_eq]; omega) ?_
      rw [sup_sup]
      rw [List.length_cons] at h2
      have := ask_loop (R := R) (c7 := c7) (c8 := c8) (gv := gv) hp d0 d1 hb hf hbw hfw l (sends ++ [(x.1, d)]) t' p' (some (.str x.1)) (some (.str x.2)) (some (.int few)) (fun y hy => h1 y (List.mem_cons_of_mem _ hy)) (by rw [List.length_append, List.length_singleton]; omega) (fun s hs => by
        rcases List.mem_append.mp hs with hs | hs
        · exact h3 s hs
        · rw [List.mem_singleton.mp hs]
          exact ⟨x.2, hx, hd.mono (by omega)⟩) (fun s2 t p c4 c5 c6 e1 e2 => h s2 t p c4 c5 c6 (by rw [e1]; simp) e2)
      rw [List.map_append] at this
      exact this
    simp only [rdEq, rdMul, look]
    refine ⟨.inl ⟨by omega, by omega⟩, ?_⟩
    refine go _ ?_ ?_
    · split <;> omega
    · split <;> omega
theorem mixed_prs {ys : List D} {ps : Prs} (h : ys.Perm (ps.map pD)) : ∃ zs : Prs, ys = zs.map pD ∧ zs.Perm ps := by
  have hall : ∀ y ∈ ys, ∃ s, y = pD s := fun y hy => by
    obtain ⟨s, _, e⟩ := List.mem_map.mp (h.mem_iff.mp hy)
    exact ⟨s, e.symm⟩
  let f : D → Str × Str := fun d => match d with | .tup [.str a, .str b] => (a, b) | _ => ("", "")
  refine ⟨ys.map f, ?_, ?_⟩
  · rw [List.map_map]
    conv => lhs; rw [← List.map_id ys]
    apply List.map_congr_left
    intro y hy
    obtain ⟨s, rfl⟩ := hall y hy
    rfl
  · have := h.map f
    rw [List.map_map] at this
    have e : (f ∘ pD) = id := rfl
    rw [e, List.map_id] at this
    exact this
theorem rd_ask {b w : Nat} {deep : Int} {ps : Prs} {gv : Str} {t p : Int} {st : Sto} {Q : QD} (hg : isSort gv) (hp : PsOk ps) (d0 : 0 ≤ deep) (d1 : deep ≤ 1) (hb : st b = some .box) (hw : st w = some (wD ps gv t p))
    (q : ∀ d t' p', Bd ps gv 0 d → Q d (sup st w (wD ps gv t' p'))) :
    t__law_ask spMixed spTake (spExpr 3) spLeaf (ends Q) [some (.ref b), some (.ref w), some (.int deep), none, none, none, none, none, none] st := by
  have hbw : b ≠ w := by rintro rfl; rw [hb] at hw; cases hw
  simp only [t__law_ask, dSeq, dAsg, dVar, dC, dCall, dCons, dNil, dOp, dUn, dTup, dLst, dLstM, dRet, dRetN, dNext, dDrop, dIfS, dTst, dAnd, dOr, dNot, dAndV, dOrV, dNotV, dIf, dPar, dPar3, dAsgG, gNm, gTp, gsCons, gsNil, dCB, dMt, dMt0, dSl, dPart, dNoPart, dKGet, dGet2, dDisp, dDispM, dpCons, dpNil, dFrz, dYes, rdSub, rdFdiv, rdMod, rdPow, rdLt, rdLe, rdGt, rdGe, rdAbs, rdMax, rdMin, rdI, rdI1, rdI2, rdNeg, rdInt, List.set_cons_zero, List.set_cons_succ, List.getElem?_cons_zero, List.getElem?_cons_succ, true_and, if_true, if_false, Bool.false_eq_true]
  refine ⟨Nat.zero_le _, fun f hf => ?_⟩
  have hfw : f ≠ w := by rintro rfl; rw [hf] at hw; cases hw
  have hbf : b ≠ f := by rintro rfl; rw [hb] at hf; cases hf
  have hb' : ∀ W L, sup (sup st w W) f L b = some .box := fun W L => by rw [sup_ne hbf, sup_ne hbw]; exact hb
  have est : sup st f (.lst []) = sup (sup st w (wD ps gv t p)) f (.lst []) := by rw [sup_id hw]
  rw [est]
  have ew : ∀ W L, sup (sup st w W) f L w = some W := fun W L => by rw [sup_ne (Ne.symm hfw), sup_same]
  simp only [t__law_ask_r1, dSeq, dAsg, dVar, dC, dCall, dCons, dNil, dOp, dUn, dTup, dLst, dLstM, dRet, dRetN, dNext, dDrop, dIfS, dTst, dAnd, dOr, dNot, dAndV, dOrV, dNotV, dIf, dPar, dPar3, dAsgG, gNm, gTp, gsCons, gsNil, dCB, dMt, dMt0, dSl, dPart, dNoPart, dKGet, dGet2, dDisp, dDispM, dpCons, dpNil, dFrz, dYes, rdSub, rdFdiv, rdMod, rdPow, rdLt, rdLe, rdGt, rdGe, rdAbs, rdMax, rdMin, rdI, rdI1, rdI2, rdNeg, rdInt, List.set_cons_zero, List.set_cons_succ, List.getElem?_cons_zero, List.getElem?_cons_succ, true_and, if_true, if_false, Bool.false_eq_true, dFor, dIt, ixw1 (ew (wD ps gv t p) (.lst []))]
  refine ⟨b, _, ps.map pD, rfl, hb' _ _, rfl, by rw [List.length_map]; have := hp.few; omega, fun ys hperm => ?_⟩
  obtain ⟨zs, rfl, hz⟩ := mixed_prs hperm
  simp only [rdAdd, look]
  refine ⟨b, _, rfl, by omega, by omega, hb' _ _, fun r r0 r1 => ?_⟩
  show rdSl (.lst (zs.map pD)) none (some r) _ _
  simp only [rdSl, look, itemsOf]
  rw [cutD_lo' _ _ r0, ← List.map_take]
  have hzl : zs.length ≤ 3 := by rw [hz.length_eq]; exact hp.few
  refine ask_loop (sends := []) (gv := gv) hp d0 d1 hb hf hbw hfw (zs.take r.toNat) t p none none none (fun x hx => hz.mem_iff.mp (List.mem_of_mem_take hx)) (by rw [List.length_nil, List.length_take]; omega) (fun s hs => by cases hs) fun sends t2 p2 c4 c5 c6 e1 e2 => ?_
  have hsl : sends.length ≤ 3 := by
    have := congrArg List.length e1
    rw [List.map_nil, List.nil_append, List.length_map, List.length_map, List.length_take] at this
    omega
  have hnd : (sends.map (·.1)).Nodup := by
    rw [e1, List.map_nil, List.nil_append]
    have h1 : (zs.map (·.1)).Nodup := (hz.map _).nodup_iff.mpr hp.nd
    rw [List.map_take]
    exact nm_nd h1 _
  -- the failing, the end
  have fin : ∀ (t p : Int) (turned : D) (c5 c6 : Option D), Ex ps gv (some gv) false 1 turned → t__law_ask_r4 spMixed spTake (spExpr 3) spLeaf (ends Q) [some (.ref b), some (.ref w), some (.int deep), some (.ref f), c4, c5, c6, some turned, none] (sup (sup st w (wD ps gv t p)) f (.lst (sends.map sD))) := by
    intro t p turned c5 c6 ht
    have last : ∀ (p : Int) (failing : D), (failing = .non ∨ Ex ps gv none false 0 failing) → t__law_ask_r5 spMixed spTake (spExpr 3) spLeaf (ends Q) [some (.ref b), some (.ref w), some (.int deep), some (.ref f), c4, c5, c6, some turned, some failing] (sup (sup st w (wD ps gv t p)) f (.lst (sends.map sD))) := by
      intro p failing hfl
      simp only [t__law_ask_r5, dSeq, dAsg, dVar, dC, dCall, dCons, dNil, dOp, dUn, dTup, dLst, dLstM, dRet, dRetN, dNext, dDrop, dIfS, dTst, dAnd, dOr, dNot, dAndV, dOrV, dNotV, dIf, dPar, dPar3, dAsgG, gNm, gTp, gsCons, gsNil, dCB, dMt, dMt0, dSl, dPart, dNoPart, dKGet, dGet2, dDisp, dDispM, dpCons, dpNil, dFrz, dYes, rdSub, rdFdiv, rdMod, rdPow, rdLt, rdLe, rdGt, rdGe, rdAbs, rdMax, rdMin, rdI, rdI1, rdI2, rdNeg, rdInt, List.set_cons_zero, List.set_cons_succ, List.getElem?_cons_zero, List.getElem?_cons_succ, true_and, if_true, if_false, Bool.false_eq_true, rdTuple, look_lst (sup_same (st := sup st w (wD ps gv t p)) (n := f) (m := .lst (sends.map sD)))]
      refine ⟨by simp [sizeLine_eq], sup st w (wD ps gv t p), Sub.new (by rw [sup_ne hfw]; exact hf), q _ t p (.ask e2 hnd hsl ht hfl)⟩
    simp only [t__law_ask_r4, dSeq, dAsg, dVar, dC, dCall, dCons, dNil, dOp, dUn, dTup, dLst, dLstM, dRet, dRetN, dNext, dDrop, dIfS, dTst, dAnd, dOr, dNot, dAndV, dOrV, dNotV, dIf, dPar, dPar3, dAsgG, gNm, gTp, gsCons, gsNil, dCB, dMt, dMt0, dSl, dPart, dNoPart, dKGet, dGet2, dDisp, dDispM, dpCons, dpNil, dFrz, dYes, rdSub, rdFdiv, rdMod, rdPow, rdLt, rdLe, rdGt, rdGe, rdAbs, rdMax, rdMin, rdI, rdI1, rdI2, rdNeg, rdInt, List.set_cons_zero, List.set_cons_succ, List.getElem?_cons_zero, List.getElem?_cons_succ, true_and, if_true, if_false, Bool.false_eq_true]
    refine ⟨b, _, rfl, by decide, by decide, hb' _ _, fun r _ _ => ?_⟩
    show if _ then _ else _
    refine ite2 (fun _ => ?_) (fun _ => last p .non (.inl rfl))
    show rdIx _ _ _ _
    rw [ixw2 (ew (wD ps gv t p) (.lst (sends.map sD)))]
    refine ⟨b, w, gv, none, false, ps, gv, t, p, rfl, hg, trivial, hp, hb' _ _, ew _ _, fun d p' hd => ?_⟩
    rw [sup_comm (n := f) (m := w) hfw, sup_sup]
    exact last p' d (.inr hd)
  simp only [t__law_ask_r2, t__law_ask_r3, dSeq, dAsg, dVar, dC, dCall, dCons, dNil, dOp, dUn, dTup, dLst, dLstM, dRet, dRetN, dNext, dDrop, dIfS, dTst, dAnd, dOr, dNot, dAndV, dOrV, dNotV, dIf, dPar, dPar3, dAsgG, gNm, gTp, gsCons, gsNil, dCB, dMt, dMt0, dSl, dPart, dNoPart, dKGet, dGet2, dDisp, dDispM, dpCons, dpNil, dFrz, dYes, rdSub, rdFdiv, rdMod, rdPow, rdLt, rdLe, rdGt, rdGe, rdAbs, rdMax, rdMin, rdI, rdI1, rdI2, rdNeg, rdInt, List.set_cons_zero, List.set_cons_succ, List.getElem?_cons_zero, List.getElem?_cons_succ, true_and, if_true, if_false, Bool.false_eq_true]
  refine ⟨by simp [sizeLine_eq], b, _, rfl, by decide, by decide, hb' _ _, fun r _ _ => ?_⟩
  show if _ then _ else _
  refine ite2 (fun _ => ?_) (fun _ => fin t2 p2 _ _ _ (.param (List.mem_append_right _ (List.mem_cons_self ..))))
  refine ⟨b, _, rfl, by decide, by decide, hb' _ _, fun r2 s0 s1 => ?_⟩
  show rdMul (.int deep) (.int r2) _ _
  simp only [rdMul, look]
  refine ⟨.inl ⟨by omega, by omega⟩, ?_⟩
  rw [ixw2 (ew (wD ps gv t2 p2) (.lst (sends.map sD)))]
  have h01 : deep * r2 = 0 ∨ deep * r2 = 1 := by
    have : deep = 0 ∨ deep = 1 := by omega
    rcases this with rfl | rfl
    · exact .inl (Int.zero_mul _)
    · rw [Int.one_mul]; omega
  refine ⟨b, w, gv, some gv, false, deep * r2, ps, gv, t2, p2, rfl, hg, hg, hp, by omega, by omega, hb' _ _, ew _ _, fun d t' p' hd => ?_⟩
  rw [sup_comm (n := f) (m := w) hfw, sup_sup]
  exact fin t' p' d _ _ (hd.mono (by omega))
/-! ### wrapping, body, hook -/
def spWrap (m : Nat) : DSp := fun ds st Q _ => ∃ b w deep ps gv t p, ds = [.ref b, .ref w, .int deep] ∧ isSort gv ∧ PsOk ps ∧ 0 ≤ deep ∧ deep < (m : Int) ∧ st b = some .box ∧ st w = some (wD ps gv t p) ∧
  ∀ d t' p', Bd ps gv deep.toNat d → Q d (sup st w (wD ps gv t' p'))
theorem rd_wrap {m b w : Nat} {deep : Int} {ps : Prs} {gv : Str} {t p : Int} {st : Sto} {Q : QD} (hg : isSort gv) (hp : PsOk ps) (d0 : 0 ≤ deep) (dm : deep < (m : Int) + 1) (hb : st b = some .box) (hw : st w = some (wD ps gv t p))
    (q : ∀ d t' p', Bd ps gv deep.toNat d → Q d (sup st w (wD ps gv t' p'))) :
    t__law_wrapping spCan spLeaf spTake spAsk (spTest 2) (spWrap m) (ends Q) [some (.ref b), some (.ref w), some (.int deep), none, none, none] st := by
  have hbw : b ≠ w := by rintro rfl; rw [hb] at hw; cases hw
  have hb' : ∀ W, sup st w W b = some .box := fun W => by rw [sup_ne hbw]; exact hb
  simp only [t__law_wrapping, dSeq, dAsg, dVar, dC, dCall, dCons, dNil, dOp, dUn, dTup, dLst, dLstM, dRet, dRetN, dNext, dDrop, dIfS, dTst, dAnd, dOr, dNot, dAndV, dOrV, dNotV, dIf, dPar, dPar3, dAsgG, gNm, gTp, gsCons, gsNil, dCB, dMt, dMt0, dSl, dPart, dNoPart, dKGet, dGet2, dDisp, dDispM, dpCons, dpNil, dFrz, dYes, rdSub, rdFdiv, rdMod, rdPow, rdLt, rdLe, rdGt, rdGe, rdAbs, rdMax, rdMin, rdI, rdI1, rdI2, rdNeg, rdInt, List.set_cons_zero, List.set_cons_succ, List.getElem?_cons_zero, List.getElem?_cons_succ, true_and, if_true, if_false, Bool.false_eq_true]
  have first : (dSeq (dAsg 3 (dCall spLeaf (dCons (dVar 0) (dCons (dVar 1) (dCons (dOp rdIx (dVar 1) (dC (.str "gives"))) (dCons (dC .non) (dCons (dC (.bl false)) dNil)))))))
    (dRet (dIf (dTst (dOp rdGt (dCall spTake (dCons (dVar 0) (dCons (dC (.int 4)) dNil))) (dC (.int 0)))) (dCall spAsk (dCons (dVar 0) (dCons (dVar 1) (dCons (dC (.int 0)) dNil)))) (dVar 3)))) (ends Q) [some (.ref b), some (.ref w), some (.int deep), none, none, none] st := by
    simp only [dSeq, dAsg, dVar, dC, dCall, dCons, dNil, dOp, dUn, dTup, dLst, dLstM, dRet, dRetN, dNext, dDrop, dIfS, dTst, dAnd, dOr, dNot, dAndV, dOrV, dNotV, dIf, dPar, dPar3, dAsgG, gNm, gTp, gsCons, gsNil, dCB, dMt, dMt0, dSl, dPart, dNoPart, dKGet, dGet2, dDisp, dDispM, dpCons, dpNil, dFrz, dYes, rdSub, rdFdiv, rdMod, rdPow, rdLt, rdLe, rdGt, rdGe, rdAbs, rdMax, rdMin, rdI, rdI1, rdI2, rdNeg, rdInt, List.set_cons_zero, List.set_cons_succ, List.getElem?_cons_zero, List.getElem?_cons_succ, true_and, if_true, if_false, Bool.false_eq_true, ixw2 hw]
    refine ⟨b, w, gv, none, false, ps, gv, t, p, rfl, hg, trivial, hp, hb, hw, fun d p' hd => ⟨b, _, rfl, by decide, by decide, hb' _, fun r _ _ => ?_⟩⟩
    show if _ then _ else _
    refine ite2 (fun _ => ?_) (fun _ => ?_)
    · refine ⟨b, w, 0, ps, gv, t, p', rfl, hg, hp, by decide, by decide, hb' _, sup_same, fun d t2 p2 hd => sb ?_⟩
      rw [sup_sup]
      exact q _ _ _ (hd.mono (Nat.zero_le _))
    · exact sb (q _ _ _ (.ex (hd.mono (Nat.zero_le _))))
  simp only [dSeq, dAsg, dVar, dC, dCall, dCons, dNil, dOp, dUn, dTup, dLst, dLstM, dRet, dRetN, dNext, dDrop, dIfS, dTst, dAnd, dOr, dNot, dAndV, dOrV, dNotV, dIf, dPar, dPar3, dAsgG, gNm, gTp, gsCons, gsNil, dCB, dMt, dMt0, dSl, dPart, dNoPart, dKGet, dGet2, dDisp, dDispM, dpCons, dpNil, dFrz, dYes, rdSub, rdFdiv, rdMod, rdPow, rdLt, rdLe, rdGt, rdGe, rdAbs, rdMax, rdMin, rdI, rdI1, rdI2, rdNeg, rdInt, List.set_cons_zero, List.set_cons_succ, List.getElem?_cons_zero, List.getElem?_cons_succ, true_and, if_true, if_false, Bool.false_eq_true] at first
  refine ite2 (fun _ => first) (fun c1 => ?_)
  have hd1 : 1 ≤ deep := by simpa using c1
  refine ⟨w, none, ps, gv, t, p, rfl, hp, hw, fun can hcan => ?_⟩
  cases can with
  | false => exact first
  | true =>
    show t__law_wrapping_r1 spCan spLeaf spTake spAsk (spTest 2) (spWrap m) (ends Q) [some (.ref b), some (.ref w), some (.int deep), none, none, none] st
    simp only [t__law_wrapping_r1, dSeq, dAsg, dVar, dC, dCall, dCons, dNil, dOp, dUn, dTup, dLst, dLstM, dRet, dRetN, dNext, dDrop, dIfS, dTst, dAnd, dOr, dNot, dAndV, dOrV, dNotV, dIf, dPar, dPar3, dAsgG, gNm, gTp, gsCons, gsNil, dCB, dMt, dMt0, dSl, dPart, dNoPart, dKGet, dGet2, dDisp, dDispM, dpCons, dpNil, dFrz, dYes, rdSub, rdFdiv, rdMod, rdPow, rdLt, rdLe, rdGt, rdGe, rdAbs, rdMax, rdMin, rdI, rdI1, rdI2, rdNeg, rdInt, List.set_cons_zero, List.set_cons_succ, List.getElem?_cons_zero, List.getElem?_cons_succ, true_and, if_true, if_false, Bool.false_eq_true]
    refine ⟨b, w, none, 0, ps, gv, t, p, rfl, trivial, hp, hcan rfl, by decide, by decide, hb, hw, fun td t1 ht => ?_⟩
    simp only [t__law_wrapping_r2, dSeq, dAsg, dVar, dC, dCall, dCons, dNil, dOp, dUn, dTup, dLst, dLstM, dRet, dRetN, dNext, dDrop, dIfS, dTst, dAnd, dOr, dNot, dAndV, dOrV, dNotV, dIf, dPar, dPar3, dAsgG, gNm, gTp, gsCons, gsNil, dCB, dMt, dMt0, dSl, dPart, dNoPart, dKGet, dGet2, dDisp, dDispM, dpCons, dpNil, dFrz, dYes, rdSub, rdFdiv, rdMod, rdPow, rdLt, rdLe, rdGt, rdGe, rdAbs, rdMax, rdMin, rdI, rdI1, rdI2, rdNeg, rdInt, List.set_cons_zero, List.set_cons_succ, List.getElem?_cons_zero, List.getElem?_cons_succ, true_and, if_true, if_false, Bool.false_eq_true]
    refine ⟨b, w, deep - 1, ps, gv, t1, p, rfl, hg, hp, by omega, by omega, hb' _, sup_same, fun ad t2 p2 ha => ?_⟩
    refine ⟨b, w, 0, ps, gv, t2, p2, rfl, hg, hp, by decide, by omega, by rw [sup_ne hbw]; exact hb' _, sup_same, fun od t3 p3 ho => ⟨by simp [sizeLine_eq], ?_⟩⟩
    rw [sup_sup, sup_sup]
    simp only [t__law_wrapping_r3, dSeq, dAsg, dVar, dC, dCall, dCons, dNil, dOp, dUn, dTup, dLst, dLstM, dRet, dRetN, dNext, dDrop, dIfS, dTst, dAnd, dOr, dNot, dAndV, dOrV, dNotV, dIf, dPar, dPar3, dAsgG, gNm, gTp, gsCons, gsNil, dCB, dMt, dMt0, dSl, dPart, dNoPart, dKGet, dGet2, dDisp, dDispM, dpCons, dpNil, dFrz, dYes, rdSub, rdFdiv, rdMod, rdPow, rdLt, rdLe, rdGt, rdGe, rdAbs, rdMax, rdMin, rdI, rdI1, rdI2, rdNeg, rdInt, List.set_cons_zero, List.set_cons_succ, List.getElem?_cons_zero, List.getElem?_cons_succ, true_and, if_true, if_false, Bool.false_eq_true]
    refine ⟨b, _, rfl, by decide, by decide, hb' _, fun r _ _ => ?_⟩
    have e : deep.toNat = (deep - 1).toNat + 1 := by omega
    have ho' : Bd ps gv (deep - 1).toNat od := ho.mono (by simp)
    show if _ then _ else _
    refine ite2 (fun _ => ?_) (fun _ => ?_)
    · simp only [t__law_wrapping_r4, dSeq, dAsg, dVar, dC, dCall, dCons, dNil, dOp, dUn, dTup, dLst, dLstM, dRet, dRetN, dNext, dDrop, dIfS, dTst, dAnd, dOr, dNot, dAndV, dOrV, dNotV, dIf, dPar, dPar3, dAsgG, gNm, gTp, gsCons, gsNil, dCB, dMt, dMt0, dSl, dPart, dNoPart, dKGet, dGet2, dDisp, dDispM, dpCons, dpNil, dFrz, dYes, rdSub, rdFdiv, rdMod, rdPow, rdLt, rdLe, rdGt, rdGe, rdAbs, rdMax, rdMin, rdI, rdI1, rdI2, rdNeg, rdInt, List.set_cons_zero, List.set_cons_succ, List.getElem?_cons_zero, List.getElem?_cons_succ, true_and, if_true, if_false, Bool.false_eq_true, rdIx_nf, look]
      refine onS_of (d := ad) rfl (onS_of (d := od) rfl ⟨by simp [sizeLine_eq], sb (q _ _ _ ?_)⟩)
      rw [e]
      exact .cond (ht.mono (by decide)) ha ho'
    · show t__law_wrapping_r4 spCan spLeaf spTake spAsk (spTest 2) (spWrap m) (ends Q) [some (.ref b), some (.ref w), some (.int deep), none, some td, some (.lst [od, ad])] _
      simp only [t__law_wrapping_r4, dSeq, dAsg, dVar, dC, dCall, dCons, dNil, dOp, dUn, dTup, dLst, dLstM, dRet, dRetN, dNext, dDrop, dIfS, dTst, dAnd, dOr, dNot, dAndV, dOrV, dNotV, dIf, dPar, dPar3, dAsgG, gNm, gTp, gsCons, gsNil, dCB, dMt, dMt0, dSl, dPart, dNoPart, dKGet, dGet2, dDisp, dDispM, dpCons, dpNil, dFrz, dYes, rdSub, rdFdiv, rdMod, rdPow, rdLt, rdLe, rdGt, rdGe, rdAbs, rdMax, rdMin, rdI, rdI1, rdI2, rdNeg, rdInt, List.set_cons_zero, List.set_cons_succ, List.getElem?_cons_zero, List.getElem?_cons_succ, true_and, if_true, if_false, Bool.false_eq_true, rdIx_nf, look]
      refine onS_of (d := od) rfl (onS_of (d := ad) rfl ⟨by simp [sizeLine_eq], sb (q _ _ _ ?_)⟩)
      rw [e]
      exact .cond (ht.mono (by decide)) ho' ha
def spBody : DSp := fun ds st Q _ => ∃ b w outer ps gv t p, ds = [.ref b, .ref w, .bl outer] ∧ isSort gv ∧ PsOk ps ∧ st b = some .box ∧ st w = some (wD ps gv t p) ∧
  ∀ d t' p', Bd ps gv 2 d → Q d (sup st w (wD ps gv t' p'))
theorem rd_body {b w : Nat} {outer : Bool} {ps : Prs} {gv : Str} {t p : Int} {st : Sto} {Q : QD} (hg : isSort gv) (hp : PsOk ps) (hb : st b = some .box) (hw : st w = some (wD ps gv t p))
    (q : ∀ d t' p', Bd ps gv 2 d → Q d (sup st w (wD ps gv t' p'))) :
    t__law_body (spExpr 3) spTake spCan spAsk (spWrap 3) (ends Q) [some (.ref b), some (.ref w), some (.bl outer)] st := by
  simp only [t__law_body, dSeq, dAsg, dVar, dC, dCall, dCons, dNil, dOp, dUn, dTup, dLst, dLstM, dRet, dRetN, dNext, dDrop, dIfS, dTst, dAnd, dOr, dNot, dAndV, dOrV, dNotV, dIf, dPar, dPar3, dAsgG, gNm, gTp, gsCons, gsNil, dCB, dMt, dMt0, dSl, dPart, dNoPart, dKGet, dGet2, dDisp, dDispM, dpCons, dpNil, dFrz, dYes, rdSub, rdFdiv, rdMod, rdPow, rdLt, rdLe, rdGt, rdGe, rdAbs, rdMax, rdMin, rdI, rdI1, rdI2, rdNeg, rdInt, List.set_cons_zero, List.set_cons_succ, List.getElem?_cons_zero, List.getElem?_cons_succ, true_and, if_true, if_false, Bool.false_eq_true, ixw2 hw]
  cases outer with
  | false =>
    refine ⟨b, _, rfl, by decide, by decide, hb, fun r r0 r1 => ?_⟩
    exact ⟨b, w, gv, none, false, r, ps, gv, t, p, rfl, hg, trivial, hp, r0, r1, hb, hw, fun d t' p' hd => sb (q _ _ _ (.ex (hd.mono (by omega))))⟩
  | true =>
    show t__law_body_r1 (spExpr 3) spTake spCan spAsk (spWrap 3) (ends Q) [some (.ref b), some (.ref w), some (.bl true)] st
    have ask : spAsk [.ref b, .ref w, .int 1] st (fun d st => ∃ st', Sub st' st ∧ Q d st') (fun _ _ _ => False) := ⟨b, w, 1, ps, gv, t, p, rfl, hg, hp, by decide, by decide, hb, hw, fun d t' p' hd => sb (q _ _ _ (hd.mono (by decide)))⟩
    simp only [t__law_body_r1, dSeq, dAsg, dVar, dC, dCall, dCons, dNil, dOp, dUn, dTup, dLst, dLstM, dRet, dRetN, dNext, dDrop, dIfS, dTst, dAnd, dOr, dNot, dAndV, dOrV, dNotV, dIf, dPar, dPar3, dAsgG, gNm, gTp, gsCons, gsNil, dCB, dMt, dMt0, dSl, dPart, dNoPart, dKGet, dGet2, dDisp, dDispM, dpCons, dpNil, dFrz, dYes, rdSub, rdFdiv, rdMod, rdPow, rdLt, rdLe, rdGt, rdGe, rdAbs, rdMax, rdMin, rdI, rdI1, rdI2, rdNeg, rdInt, List.set_cons_zero, List.set_cons_succ, List.getElem?_cons_zero, List.getElem?_cons_succ, true_and, if_true, if_false, Bool.false_eq_true]
    refine ⟨b, _, rfl, by decide, by decide, hb, fun r r0 r1 => ?_⟩
    show if _ then _ else _
    refine ite2 (fun _ => ask) (fun _ => ?_)
    refine ⟨w, none, ps, gv, t, p, rfl, hp, hw, fun can hcan => ?_⟩
    cases can with
    | false => exact ask
    | true =>
      show t__law_body_r2 (spExpr 3) spTake spCan spAsk (spWrap 3) (ends Q) [some (.ref b), some (.ref w), some (.bl true)] st
      simp only [t__law_body_r2, dSeq, dAsg, dVar, dC, dCall, dCons, dNil, dOp, dUn, dTup, dLst, dLstM, dRet, dRetN, dNext, dDrop, dIfS, dTst, dAnd, dOr, dNot, dAndV, dOrV, dNotV, dIf, dPar, dPar3, dAsgG, gNm, gTp, gsCons, gsNil, dCB, dMt, dMt0, dSl, dPart, dNoPart, dKGet, dGet2, dDisp, dDispM, dpCons, dpNil, dFrz, dYes, rdSub, rdFdiv, rdMod, rdPow, rdLt, rdLe, rdGt, rdGe, rdAbs, rdMax, rdMin, rdI, rdI1, rdI2, rdNeg, rdInt, List.set_cons_zero, List.set_cons_succ, List.getElem?_cons_zero, List.getElem?_cons_succ, true_and, if_true, if_false, Bool.false_eq_true]
      refine ⟨b, _, rfl, by decide, by decide, hb, fun r r0 r1 => ?_⟩
      simp only [rdAdd, look]
      exact ⟨b, w, 1 + r, ps, gv, t, p, rfl, hg, hp, by omega, by omega, hb, hw, fun d t' p' hd => sb (q _ _ _ (hd.mono (by omega)))⟩
def spAny : DSp := fun ds st Q _ => ∃ b, ds = [.ref b] ∧ st b = some .box ∧ ∀ (kind : Str) (es ls : List Prm) (outs : Str), HookOk es ls outs → (kind = "first" ∨ kind = "through" ∨ kind = "each") → Q (hookD "shade" kind es ls outs) st
theorem rd_any {b : Nat} {st : Sto} {Q : QD} (hb : st b = some .box) (q : ∀ (kind : Str) (es ls : List Prm) (outs : Str), HookOk es ls outs → (kind = "first" ∨ kind = "through" ∨ kind = "each") → Q (hookD "shade" kind es ls outs) st) : t__law_any_hook spHook spPick (ends Q) [some (.ref b)] st := by
  simp only [t__law_any_hook, dSeq, dAsg, dVar, dC, dCall, dCons, dNil, dOp, dUn, dTup, dLst, dLstM, dRet, dRetN, dNext, dDrop, dIfS, dTst, dAnd, dOr, dNot, dAndV, dOrV, dNotV, dIf, dPar, dPar3, dAsgG, gNm, gTp, gsCons, gsNil, dCB, dMt, dMt0, dSl, dPart, dNoPart, dKGet, dGet2, dDisp, dDispM, dpCons, dpNil, dFrz, dYes, rdSub, rdFdiv, rdMod, rdPow, rdLt, rdLe, rdGt, rdGe, rdAbs, rdMax, rdMin, rdI, rdI1, rdI2, rdNeg, rdInt, List.set_cons_zero, List.set_cons_succ, List.getElem?_cons_zero, List.getElem?_cons_succ, true_and, if_true, if_false, Bool.false_eq_true]
  refine ⟨by simp [sizeLine_eq], b, _, [.str "first", .str "through", .str "each"], rfl, hb, rfl, by simp, by simp, fun x hx => ?_⟩
  have : ∃ kind : Str, (kind = "first" ∨ kind = "through" ∨ kind = "each") ∧ x = .str kind := by
    simp only [List.mem_cons, List.not_mem_nil, or_false] at hx
    rcases hx with rfl | rfl | rfl
    · exact ⟨_, .inl rfl, rfl⟩
    · exact ⟨_, .inr (.inl rfl), rfl⟩
    · exact ⟨_, .inr (.inr rfl), rfl⟩
  obtain ⟨kind, hk, rfl⟩ := this
  exact ⟨b, "shade", kind, rfl, hb, fun es ls outs h => sb (q kind es ls outs h hk)⟩
end TL
namespace TL
open PySem PySem.Spec PyProof.Rows L2
def t_forms_of (TESTS : List (Str × D)) (EXPRESSIONS : List (Str × D)) : TDS :=
  (dRet (dKGet EXPRESSIONS (dOp rdIx (dVar 0) (dC (.int 0))) (dKGet TESTS (dOp rdIx (dVar 0) (dC (.int 0))) (dC (.str "")))))
theorem st_forms_of (ds : List D) : startD ["tree"] ds = ds.map some ++ List.replicate (1 - ds.length) none := rfl
def t_children_b1 (forms_of : DSp) : TDS :=
  (dDrop (dMt rdAppend (dVar 1) (dCons (dTup (dCons (dTup (dCons (dVar 2) (dCons (dVar 4) (dCons (dC (.int 1)) dNil)))) (dCons (dOp rdIx (dVar 5) (dC (.int 1))) dNil))) dNil)))
def t_children_b2 (forms_of : DSp) : TDS :=
  (dIfS (dTst (dOp (rdEq false) (dVar 3) (dC (.str "s"))))
  (dFor (dEn (dOp rdIx (dVar 0) (dVar 2))) (gTp 2 (gsCons (gNm 4) (gsCons (gNm 5) gsNil)))
  (t_children_b1 forms_of))
  (dIfS (dOr (dTst (dOp (rdIn false) (dVar 3) (dC (.str "te")))) (dAnd (dTst (dOp (rdEq false) (dVar 3) (dC (.str "f")))) (dTst (dOp (rdIsN true) (dOp rdIx (dVar 0) (dVar 2)) (dC .non)))))
  (dDrop (dMt rdAppend (dVar 1) (dCons (dTup (dCons (dTup (dCons (dVar 2) dNil)) (dCons (dOp rdIx (dVar 0) (dVar 2)) dNil))) dNil)))
  dNext))
def t_children_r2 (forms_of : DSp) : TDS :=
  (dRet (dCB rdTuple (dCons (dVar 1) dNil)))
def t_children_r1 (forms_of : DSp) : TDS :=
  (dSeq (dFor (dEnK 1 (dCall forms_of (dCons (dVar 0) dNil))) (gTp 2 (gsCons (gNm 2) (gsCons (gNm 3) gsNil)))
  (t_children_b2 forms_of))
  (t_children_r2 forms_of))
def t_children (forms_of : DSp) : TDS :=
  (dSeq (dAsg 1 (dLstM dNil))
  (t_children_r1 forms_of))
theorem st_children (ds : List D) : startD ["tree", "found", "at", "slot", "k", "pair"] ds = ds.map some ++ List.replicate (6 - ds.length) none := rfl
def t_count (children : DSp) (count : DSp) : TDS :=
  (dRet (dOp rdAdd (dC (.int 1)) (dCB rdSum (dCons (dLc (dIt (dCall children (dCons (dVar 0) dNil))) (gTp 2 (gsCons (gNm 1) (gsCons (gNm 2) gsNil))) dYes (dCall count (dCons (dVar 2) dNil)) [1, 2]) dNil))))
theorem st_count (ds : List D) : startD ["tree", "path", "inner"] ds = ds.map some ++ List.replicate (3 - ds.length) none := rfl
def t__law_children_r3 : TDS :=
  (dRet (dCB rdTuple (dCons (dVar 2) dNil)))
def t__law_children_r2 : TDS :=
  (dSeq (dIfS (dTst (dOp (rdEq false) (dOp rdIx (dVar 0) (dC (.int 0))) (dC (.str "ask"))))
  (dSeq (dAsg 2 (dOp rdAdd (dLc (dEn (dOp rdIx (dVar 0) (dC (.int 1)))) (gTp 2 (gsCons (gNm 3) (gsCons (gNm 4) gsNil))) dYes (dTup (dCons (dTup (dCons (dC (.int 1)) (dCons (dVar 3) (dCons (dC (.int 1)) dNil)))) (dCons (dOp rdIx (dVar 4) (dC (.int 1))) dNil))) [3, 4]) (dLst (dCons (dTup (dCons (dTup (dCons (dC (.int 2)) dNil)) (dCons (dOp rdIx (dVar 0) (dC (.int 2))) dNil))) dNil))))
  (dAsg 2 (dOp rdAdd (dVar 2) (dOp rdMul (dLst (dCons (dTup (dCons (dTup (dCons (dC (.int 3)) dNil)) (dCons (dOp rdIx (dVar 0) (dC (.int 3))) dNil))) dNil)) (dCB rdInt (dCons (dOp (rdIsN true) (dOp rdIx (dVar 0) (dC (.int 3))) (dC .non)) dNil))))))
  dNext)
  (t__law_children_r3))
def t__law_children_r1 : TDS :=
  (dSeq (dAsg 2 (dLc (dRg2 (dC (.int 1)) (dOp rdAdd (dVar 1) (dC (.int 1)))) (gNm 3) dYes (dTup (dCons (dTup (dCons (dVar 3) dNil)) (dCons (dOp rdIx (dVar 0) (dVar 3)) dNil))) [3]))
  (t__law_children_r2))
def t__law_children : TDS :=
  (dSeq (dAsg 1 (dGet2 (dDisp (dpCons (.inr "if") (dC (.int 3)) (dpCons (.inr "not") (dC (.int 1)) (dpCons (.inr "both") (dC (.int 2)) (dpCons (.inr "either") (dC (.int 2)) dpNil))))) (dOp rdIx (dVar 0) (dC (.int 0))) (dC (.int 0))))
  (t__law_children_r1))
theorem st__law_children (ds : List D) : startD ["_law_tree", "_law_slots", "_law_found", "_law_k", "_law_pair"] ds = ds.map some ++ List.replicate (5 - ds.length) none := rfl
def t__law_all_b1 (_law_children : DSp) : TDS :=
  (dSeq (dAsg 3 (dMt0 rdPop (dVar 2)))
  (dSeq (dDrop (dMt rdAppend (dVar 1) (dCons (dVar 3) dNil)))
  (dDrop (dMt rdExtend (dVar 2) (dCons (dLc (dIt (dCall _law_children (dCons (dVar 3) dNil))) (gTp 2 (gsCons (gNm 4) (gsCons (gNm 5) gsNil))) dYes (dVar 5) [4, 5]) dNil)))))
def t__law_all_r2 (_law_children : DSp) : TDS :=
  (dRet (dFrz (dVar 1)))
def t__law_all_r1 (_law_children : DSp) : TDS :=
  (dSeq (dWhile (dTst (dOp (rdEq true) (dVar 2) (dLst dNil)))
  (t__law_all_b1 _law_children))
  (t__law_all_r2 _law_children))
def t__law_all (_law_children : DSp) : TDS :=
  (dSeq (dPar 1 2 (dCons (dLstM dNil) (dCons (dLstM (dCons (dVar 0) dNil)) dNil)))
  (t__law_all_r1 _law_children))
theorem st__law_all (ds : List D) : startD ["_law_tree", "_law_found", "_law_left", "_law_here", "_law_path", "_law_inner"] ds = ds.map some ++ List.replicate (6 - ds.length) none := rfl
def t__law_greatest_r5 : TDS :=
  (dRet (dTup (dCons (dC (.str "if")) (dCons (dVar 1) (dCons (dTup (dCons (dC (.str "ask")) (dCons (dTup (dCons (dTup (dCons (dC (.str "size")) (dCons (dVar 3) dNil))) dNil)) (dCons (dVar 4) (dCons (dC .non) dNil))))) (dCons (dTup (dCons (dC (.str "none")) dNil)) dNil))))))
def t__law_greatest_r4 : TDS :=
  (dSeq (dAsg 4 (dTup (dCons (dC (.str "if")) (dCons (dTup (dCons (dC (.str "lacks")) dNil)) (dCons (dTup (dCons (dC (.str "none")) dNil)) (dCons (dTup (dCons (dC (.str "param")) (dCons (dC (.str "inner")) dNil))) dNil))))))
  (t__law_greatest_r5))
def t__law_greatest_r3 : TDS :=
  (dSeq (dAsg 3 (dTup (dCons (dC (.str "if")) (dCons (dTup (dCons (dC (.str "both")) (dCons (dVar 0) (dCons (dVar 0) dNil)))) (dCons (dVar 2) (dCons (dTup (dCons (dC (.str "param")) (dCons (dC (.str "size")) dNil))) dNil))))))
  (t__law_greatest_r4))
def t__law_greatest_r2 : TDS :=
  (dSeq (dAsg 2 (dTup (dCons (dC (.str "if")) (dCons (dTup (dCons (dC (.str "not")) (dCons (dVar 0) dNil))) (dCons (dTup (dCons (dC (.str "param")) (dCons (dC (.str "size")) dNil))) (dCons (dTup (dCons (dC (.str "param")) (dCons (dC (.str "size")) dNil))) dNil))))))
  (t__law_greatest_r3))
def t__law_greatest_r1 : TDS :=
  (dSeq (dAsg 1 (dTup (dCons (dC (.str "both")) (dCons (dTup (dCons (dC (.str "either")) (dCons (dVar 0) (dCons (dVar 0) dNil)))) (dCons (dTup (dCons (dC (.str "not")) (dCons (dTup (dCons (dC (.str "either")) (dCons (dVar 0) (dCons (dVar 0) dNil)))) dNil))) dNil)))))
  (t__law_greatest_r2))
def t__law_greatest : TDS :=
  (dSeq (dAsg 0 (dTup (dCons (dC (.str "most")) (dCons (dC (.str "size")) (dCons (dC (.int 3)) dNil)))))
  (t__law_greatest_r1))
theorem st__law_greatest (ds : List D) : startD ["_law_least", "_law_test_here", "_law_own", "_law_sent", "_law_turned"] ds = ds.map some ++ List.replicate (5 - ds.length) none := rfl
def t__law_at_path_b1 : TDS :=
  (dAsg 0 (dOp rdIx (dVar 0) (dVar 2)))
def t__law_at_path_r1 : TDS :=
  (dRet (dVar 0))
def t__law_at_path : TDS :=
  (dSeq (dFor (dIt (dVar 1)) (gNm 2)
  (t__law_at_path_b1))
  (t__law_at_path_r1))
theorem st__law_at_path (ds : List D) : startD ["_law_tree", "_law_path", "_law_step"] ds = ds.map some ++ List.replicate (3 - ds.length) none := rfl
/-! ### trees and their children -/
def isL0 (h : Str) : Prop := h = "none" ∨ h = "lacks"
def isL1 (h : Str) : Prop := h = "number" ∨ h = "word" ∨ h = "param" ∨ h = "fail"
def isL2 (h : Str) : Prop := h = "plus" ∨ h = "most" ∨ h = "is"
def atom (d : D) : Prop := d.ok = true ∧ d.dp = 0 ∧ d.wt ≤ 120
inductive Tr : Nat → D → Prop
  | l0 {n : Nat} {h : Str} : isL0 h → Tr n (.tup [.str h])
  | l1 {n : Nat} {h : Str} {x : D} : isL1 h → atom x → Tr n (.tup [.str h, x])
  | l2 {n : Nat} {h : Str} {x y : D} : isL2 h → atom x → atom y → Tr n (.tup [.str h, x, y])
  | not {n : Nat} {a : D} : Tr n a → Tr (n + 1) (.tup [.str "not", a])
  | both {n : Nat} {a b : D} : Tr n a → Tr n b → Tr (n + 1) (.tup [.str "both", a, b])
  | either {n : Nat} {a b : D} : Tr n a → Tr n b → Tr (n + 1) (.tup [.str "either", a, b])
  | cond {n : Nat} {a b c : D} : Tr n a → Tr n b → Tr n c → Tr (n + 1) (.tup [.str "if", a, b, c])
  | askN {n : Nat} {sends : List (Str × D)} {b : D} : (∀ s ∈ sends, okS s.1 = true ∧ s.1.length ≤ 8) → (∀ s ∈ sends, Tr n s.2) → sends.length ≤ 3 → Tr n b → Tr (n + 1) (.tup [.str "ask", .tup (sends.map sD), b, .non])
  | askF {n : Nat} {sends : List (Str × D)} {b c : D} : (∀ s ∈ sends, okS s.1 = true ∧ s.1.length ≤ 8) → (∀ s ∈ sends, Tr n s.2) → sends.length ≤ 3 → Tr n b → Tr n c → Tr (n + 1) (.tup [.str "ask", .tup (sends.map sD), b, c])
theorem Tr.mono {n m : Nat} {d : D} (h : Tr n d) (hm : n ≤ m) : Tr m d := by
  induction h generalizing m with
  | l0 h => exact .l0 h
  | l1 h a => exact .l1 h a
  | l2 h a b => exact .l2 h a b
  | not _ ih =>
    obtain ⟨m, rfl⟩ : ∃ k, m = k + 1 := ⟨m - 1, by omega⟩
    exact .not (ih (by omega))
  | both _ _ i1 i2 =>
    obtain ⟨m, rfl⟩ : ∃ k, m = k + 1 := ⟨m - 1, by omega⟩
    exact .both (i1 (by omega)) (i2 (by omega))
  | either _ _ i1 i2 =>
    obtain ⟨m, rfl⟩ : ∃ k, m = k + 1 := ⟨m - 1, by omega⟩
    exact .either (i1 (by omega)) (i2 (by omega))
  | cond _ _ _ i1 i2 i3 =>
    obtain ⟨m, rfl⟩ : ∃ k, m = k + 1 := ⟨m - 1, by omega⟩
    exact .cond (i1 (by omega)) (i2 (by omega)) (i3 (by omega))
  | askN h1 _ h2 _ i1 i2 =>
    obtain ⟨m, rfl⟩ : ∃ k, m = k + 1 := ⟨m - 1, by omega⟩
    exact .askN h1 (fun s hs => i1 s hs (by omega)) h2 (i2 (by omega))
  | askF h1 _ h2 _ _ i1 i2 i3 =>
    obtain ⟨m, rfl⟩ : ∃ k, m = k + 1 := ⟨m - 1, by omega⟩
    exact .askF h1 (fun s hs => i1 s hs (by omega)) h2 (i2 (by omega)) (i3 (by omega))
def sendKids : Int → List (Str × D) → List (D × D)
  | _, [] => []
  | k, s :: r => (.tup [.int 1, .int k, .int 1], s.2) :: sendKids (k + 1) r
/-- a tree's children with their paths -/
inductive Kids : D → List (D × D) → Prop
  | l0 {h : Str} : isL0 h → Kids (.tup [.str h]) []
  | l1 {h : Str} {x : D} : isL1 h → Kids (.tup [.str h, x]) []
  | l2 {h : Str} {x y : D} : isL2 h → Kids (.tup [.str h, x, y]) []
  | not {a : D} : Kids (.tup [.str "not", a]) [(.tup [.int 1], a)]
  | both {a b : D} : Kids (.tup [.str "both", a, b]) [(.tup [.int 1], a), (.tup [.int 2], b)]
  | either {a b : D} : Kids (.tup [.str "either", a, b]) [(.tup [.int 1], a), (.tup [.int 2], b)]
  | cond {a b c : D} : Kids (.tup [.str "if", a, b, c]) [(.tup [.int 1], a), (.tup [.int 2], b), (.tup [.int 3], c)]
  | askN {sends : List (Str × D)} {b : D} : sends.length ≤ 3 → Kids (.tup [.str "ask", .tup (sends.map sD), b, .non]) (sendKids 0 sends ++ [(.tup [.int 2], b)])
  | askF {sends : List (Str × D)} {b : D} {cs : List D} : sends.length ≤ 3 → Kids (.tup [.str "ask", .tup (sends.map sD), b, .tup cs]) (sendKids 0 sends ++ [(.tup [.int 2], b)] ++ [(.tup [.int 3], .tup cs)])
theorem Tr.tup {n : Nat} {d : D} (h : Tr n d) : ∃ cs, d = .tup cs := by cases h <;> exact ⟨_, rfl⟩
theorem sendKids_snd : ∀ (k : Int) (l : List (Str × D)), (sendKids k l).map (·.2) = l.map (·.2)
  | _, [] => rfl
  | k, s :: r => by simp [sendKids, sendKids_snd (k + 1) r]
theorem Tr.kids {n : Nat} {d : D} (h : Tr n d) : ∃ ks, Kids d ks ∧ ks.length ≤ 5 ∧ ∀ k ∈ ks, ∃ m, n = m + 1 ∧ Tr m k.2 := by
  have sl : ∀ (k : Int) (l : List (Str × D)), (sendKids k l).length = l.length := fun k l => by
    have := congrArg List.length (sendKids_snd k l)
    simpa using this
  have sm : ∀ (k : Int) (l : List (Str × D)), ∀ x ∈ sendKids k l, ∃ s ∈ l, x.2 = s.2 := fun k l x hx => by
    have : x.2 ∈ (sendKids k l).map (·.2) := List.mem_map.mpr ⟨x, hx, rfl⟩
    rw [sendKids_snd] at this
    obtain ⟨s, hs, e⟩ := List.mem_map.mp this
    exact ⟨s, hs, e.symm⟩
  cases h with
  | l0 h => exact ⟨_, .l0 h, by simp, by simp⟩
  | l1 h a => exact ⟨_, .l1 h, by simp, by simp⟩
  | l2 h a b => exact ⟨_, .l2 h, by simp, by simp⟩
  | not a => exact ⟨_, .not, by simp, fun k hk => by
      simp only [List.mem_cons, List.not_mem_nil, or_false] at hk
      subst hk; exact ⟨_, rfl, a⟩⟩
  | both a b => exact ⟨_, .both, by simp, fun k hk => by
      simp only [List.mem_cons, List.not_mem_nil, or_false] at hk
      rcases hk with rfl | rfl
      · exact ⟨_, rfl, a⟩
      · exact ⟨_, rfl, b⟩⟩
  | either a b => exact ⟨_, .either, by simp, fun k hk => by
      simp only [List.mem_cons, List.not_mem_nil, or_false] at hk
      rcases hk with rfl | rfl
      · exact ⟨_, rfl, a⟩
      · exact ⟨_, rfl, b⟩⟩
  | cond a b c => exact ⟨_, .cond, by simp, fun k hk => by
      simp only [List.mem_cons, List.not_mem_nil, or_false] at hk
      rcases hk with rfl | rfl | rfl
      · exact ⟨_, rfl, a⟩
      · exact ⟨_, rfl, b⟩
      · exact ⟨_, rfl, c⟩⟩
  | askN h0 h1 h2 hb =>
    refine ⟨_, .askN h2, by rw [List.length_append, sl]; simp; omega, fun k hk => ?_⟩
    rcases List.mem_append.mp hk with hk | hk
    · obtain ⟨s, hs, e⟩ := sm _ _ k hk
      exact ⟨_, rfl, by rw [e]; exact h1 s hs⟩
    · rw [List.mem_singleton.mp hk]; exact ⟨_, rfl, hb⟩
  | askF h0 h1 h2 hb hc =>
    obtain ⟨cs, rfl⟩ := hc.tup
    refine ⟨_, .askF h2, by rw [List.length_append, List.length_append, sl]; simp; omega, fun k hk => ?_⟩
    rcases List.mem_append.mp hk with hk | hk
    · rcases List.mem_append.mp hk with hk | hk
      · obtain ⟨s, hs, e⟩ := sm _ _ k hk
        exact ⟨_, rfl, by rw [e]; exact h1 s hs⟩
      · rw [List.mem_singleton.mp hk]; exact ⟨_, rfl, hb⟩
    · rw [List.mem_singleton.mp hk]; exact ⟨_, rfl, hc⟩
/-! ### forms_of -/
def exT : List (Str × D) := [("number", .str "k"), ("word", .str "w"), ("none", .str ""), ("param", .str "p"), ("plus", .str "pk"), ("fail", .str "w"), ("if", .str "tee"), ("ask", .str "sef")]
def teT : List (Str × D) := [("most", .str "pk"), ("is", .str "pw"), ("not", .str "t"), ("both", .str "tt"), ("either", .str "tt"), ("lacks", .str "")]
def formD (h : Str) : D := (getS exT h).getD ((getS teT h).getD (.str ""))
def spForms : DSp := fun ds st Q _ => ∃ h r, ds = [.tup (.str h :: r)] ∧ Q (formD h) st
theorem rd_forms {h : Str} {r : List D} {st : Sto} {Q : QD} (q : Q (formD h) st) : t_forms_of teT exT (ends Q) [some (.tup (.str h :: r))] st := by
  simp only [t_forms_of, dSeq, dAsg, dVar, dC, dCall, dCons, dNil, dOp, dUn, dTup, dLst, dLstM, dRet, dRetN, dNext, dDrop, dIfS, dTst, dAnd, dOr, dNot, dAndV, dOrV, dNotV, dIf, dPar, dPar3, dAsgG, gNm, gTp, gsCons, gsNil, dCB, dMt, dMt0, dSl, dPart, dNoPart, dKGet, dGet2, dDisp, dDispM, dpCons, dpNil, dFrz, dYes, rdSub, rdFdiv, rdMod, rdPow, rdLt, rdLe, rdGt, rdGe, rdAbs, rdMax, rdMin, rdI, rdI1, rdI2, rdNeg, rdInt, List.set_cons_zero, List.set_cons_succ, List.getElem?_cons_zero, List.getElem?_cons_succ, true_and, if_true, if_false, Bool.false_eq_true, rdIx_nf, look, atI_zero, onS_some]
  exact sb q
theorem atI_1 {α : Type} {x y : α} {xs : List α} : atI (x :: y :: xs) 1 = some y := by
  unfold atI ixN
  rw [if_pos (by decide), if_pos (by rw [List.length_cons, List.length_cons]; omega)]
  rfl
theorem atI_2 {α : Type} {x y z : α} {xs : List α} : atI (x :: y :: z :: xs) 2 = some z := by
  unfold atI ixN
  rw [if_pos (by decide), if_pos (by rw [List.length_cons, List.length_cons, List.length_cons]; omega)]
  rfl
theorem atI_3 {α : Type} {x y z u : α} {xs : List α} : atI (x :: y :: z :: u :: xs) 3 = some u := by
  unfold atI ixN
  rw [if_pos (by decide), if_pos (by rw [List.length_cons, List.length_cons, List.length_cons, List.length_cons]; omega)]
  rfl
/-! ### children -/
def kD (p : D × D) : D := .tup [p.1, p.2]
def spKids : DSp := fun ds st Q _ => ∃ d ks, ds = [d] ∧ Kids d ks ∧ Q (.tup (ks.map kD)) st
section
variable {R : DEnds} {xs : List D} {f : Nat} {i : Int} {c4 c5 : Option D} {st : Sto} {acc : List D}
theorem kid_te {c : Nat} {ch : D} (hc : c = 116 ∨ c = 101) (hi : atI xs i = some ch) (hz : acc.length < 1000) (h : R.nx [some (.tup xs), some (.ref f), some (.int i), some (.str ⟨#[c]⟩), c4, c5] (sup st f (.lst (acc ++ [.tup [.tup [.int i], ch]])))) :
    t_children_b2 spForms R [some (.tup xs), some (.ref f), some (.int i), some (.str ⟨#[c]⟩), c4, c5] (sup st f (.lst acc)) := by
  have e1 : ¬ ((⟨#[c]⟩ : Str) = "s") := by rcases hc with rfl | rfl <;> decide +kernel
  simp only [t_children_b2, dSeq, dAsg, dVar, dC, dCall, dCons, dNil, dOp, dUn, dTup, dLst, dLstM, dRet, dRetN, dNext, dDrop, dIfS, dTst, dAnd, dOr, dNot, dAndV, dOrV, dNotV, dIf, dPar, dPar3, dAsgG, gNm, gTp, gsCons, gsNil, dCB, dMt, dMt0, dSl, dPart, dNoPart, dKGet, dGet2, dDisp, dDispM, dpCons, dpNil, dFrz, dYes, rdSub, rdFdiv, rdMod, rdPow, rdLt, rdLe, rdGt, rdGe, rdAbs, rdMax, rdMin, rdI, rdI1, rdI2, rdNeg, rdInt, List.set_cons_zero, List.set_cons_succ, List.getElem?_cons_zero, List.getElem?_cons_succ, true_and, if_true, if_false, Bool.false_eq_true, rdEq, e1, decide_false, bne_self_eq_false]
  refine ⟨c, rfl, ?_⟩
  have e2 : decide (c ∈ (("te" : Str)).cps.toList) = true := by rcases hc with rfl | rfl <;> decide +kernel
  simp only [e2, Bool.true_bne, Bool.not_false, if_true, rdIx_nf, look, hi, onS_some]
  refine ⟨isL_ref sup_same, by simp [sizeLine_eq], by simp [sizeLine_eq], append_of sup_same (by rw [sizeLine_eq]; omega) ?_⟩
  rw [sup_sup]
  exact h
theorem kid_f {ch : D} (hi : atI xs i = some ch) (hz : acc.length < 1000) (h0 : ch = .non → R.nx [some (.tup xs), some (.ref f), some (.int i), some (.str ⟨#[102]⟩), c4, c5] (sup st f (.lst acc))) (hch : ch = .non ∨ ∃ cs, ch = .tup cs) (h : ch ≠ .non → R.nx [some (.tup xs), some (.ref f), some (.int i), some (.str ⟨#[102]⟩), c4, c5] (sup st f (.lst (acc ++ [.tup [.tup [.int i], ch]])))) :
    t_children_b2 spForms R [some (.tup xs), some (.ref f), some (.int i), some (.str ⟨#[102]⟩), c4, c5] (sup st f (.lst acc)) := by
  have e1 : ¬ ((⟨#[102]⟩ : Str) = "s") := by decide +kernel
  have e3 : ((⟨#[102]⟩ : Str) = "f") := by decide +kernel
  simp only [t_children_b2, dSeq, dAsg, dVar, dC, dCall, dCons, dNil, dOp, dUn, dTup, dLst, dLstM, dRet, dRetN, dNext, dDrop, dIfS, dTst, dAnd, dOr, dNot, dAndV, dOrV, dNotV, dIf, dPar, dPar3, dAsgG, gNm, gTp, gsCons, gsNil, dCB, dMt, dMt0, dSl, dPart, dNoPart, dKGet, dGet2, dDisp, dDispM, dpCons, dpNil, dFrz, dYes, rdSub, rdFdiv, rdMod, rdPow, rdLt, rdLe, rdGt, rdGe, rdAbs, rdMax, rdMin, rdI, rdI1, rdI2, rdNeg, rdInt, List.set_cons_zero, List.set_cons_succ, List.getElem?_cons_zero, List.getElem?_cons_succ, true_and, if_true, if_false, Bool.false_eq_true, rdEq, e1, decide_false, bne_self_eq_false]
  refine ⟨102, rfl, ?_⟩
  have e2 : decide (102 ∈ (("te" : Str)).cps.toList) = false := by decide +kernel
  simp only [e2, e3, bne_self_eq_false, Bool.false_eq_true, if_false, decide_true, Bool.true_bne, Bool.not_false, if_true, rdIx_nf, look, hi, onS_some]
  rcases hch with rfl | ⟨cs, rfl⟩
  · simp only [rdIsN, Bool.not_true, Bool.false_eq_true, if_false]
    exact h0 rfl
  · simp only [rdIsN, if_true]
    refine ⟨isL_ref sup_same, by simp [sizeLine_eq], by simp [sizeLine_eq], append_of sup_same (by rw [sizeLine_eq]; omega) ?_⟩
    rw [sup_sup]
    exact h (by simp)
theorem kid_no {c : Nat} (hc : c = 107 ∨ c = 119 ∨ c = 112) (h : R.nx [some (.tup xs), some (.ref f), some (.int i), some (.str ⟨#[c]⟩), c4, c5] (sup st f (.lst acc))) :
    t_children_b2 spForms R [some (.tup xs), some (.ref f), some (.int i), some (.str ⟨#[c]⟩), c4, c5] (sup st f (.lst acc)) := by
  have e1 : ¬ ((⟨#[c]⟩ : Str) = "s") := by rcases hc with rfl | rfl | rfl <;> decide +kernel
  have e3 : ¬ ((⟨#[c]⟩ : Str) = "f") := by rcases hc with rfl | rfl | rfl <;> decide +kernel
  simp only [t_children_b2, dSeq, dAsg, dVar, dC, dCall, dCons, dNil, dOp, dUn, dTup, dLst, dLstM, dRet, dRetN, dNext, dDrop, dIfS, dTst, dAnd, dOr, dNot, dAndV, dOrV, dNotV, dIf, dPar, dPar3, dAsgG, gNm, gTp, gsCons, gsNil, dCB, dMt, dMt0, dSl, dPart, dNoPart, dKGet, dGet2, dDisp, dDispM, dpCons, dpNil, dFrz, dYes, rdSub, rdFdiv, rdMod, rdPow, rdLt, rdLe, rdGt, rdGe, rdAbs, rdMax, rdMin, rdI, rdI1, rdI2, rdNeg, rdInt, List.set_cons_zero, List.set_cons_succ, List.getElem?_cons_zero, List.getElem?_cons_succ, true_and, if_true, if_false, Bool.false_eq_true, rdEq, e1, decide_false, bne_self_eq_false]
  refine ⟨c, rfl, ?_⟩
  have e2 : decide (c ∈ (("te" : Str)).cps.toList) = false := by rcases hc with rfl | rfl | rfl <;> decide +kernel
  simp only [e2, e3, bne_self_eq_false, Bool.false_eq_true, if_false, decide_false]
  exact h
theorem kid_s_loop {R : DEnds} : ∀ (l : List (Str × D)) (k : Int) (acc : List D) (c4 c5 : Option D), acc.length + l.length < 1000 → (∀ c4 c5, R.nx [some (.tup xs), some (.ref f), some (.int 1), some (.str ⟨#[115]⟩), c4, c5] (sup st f (.lst (acc ++ (sendKids k l).map kD)))) →
    dLoop (gTp 2 (gsCons (gNm 4) (gsCons (gNm 5) gsNil))) (t_children_b1 spForms) R (enumD k (l.map sD)) [some (.tup xs), some (.ref f), some (.int 1), some (.str ⟨#[115]⟩), c4, c5] (sup st f (.lst acc))
  | [], k, acc, c4, c5, _, h => by simpa [enumD, dLoop, sendKids] using h c4 c5
  | s :: l, k, acc, c4, c5, hz, h => by
    rw [List.length_cons] at hz
    simp only [List.map_cons, enumD, dLoop, sD, t_children_b1, dSeq, dAsg, dVar, dC, dCall, dCons, dNil, dOp, dUn, dTup, dLst, dLstM, dRet, dRetN, dNext, dDrop, dIfS, dTst, dAnd, dOr, dNot, dAndV, dOrV, dNotV, dIf, dPar, dPar3, dAsgG, gNm, gTp, gsCons, gsNil, dCB, dMt, dMt0, dSl, dPart, dNoPart, dKGet, dGet2, dDisp, dDispM, dpCons, dpNil, dFrz, dYes, rdSub, rdFdiv, rdMod, rdPow, rdLt, rdLe, rdGt, rdGe, rdAbs, rdMax, rdMin, rdI, rdI1, rdI2, rdNeg, rdInt, List.set_cons_zero, List.set_cons_succ, List.getElem?_cons_zero, List.getElem?_cons_succ, true_and, if_true, if_false, Bool.false_eq_true, rdIx_nf, look, atI_1, onS_some]
    refine ⟨rfl, isL_ref sup_same, by simp [sizeLine_eq], by simp [sizeLine_eq], append_of sup_same (by rw [sizeLine_eq]; omega) ?_⟩
    rw [sup_sup]
    refine kid_s_loop l (k + 1) _ _ _ (by rw [List.length_append, List.length_singleton]; omega) fun a b => ?_
    have := h a b
    simp only [sendKids, List.map_cons] at this
    rw [List.append_assoc]
    exact this
theorem kid_s {l : List (Str × D)} (hi : atI xs 1 = some (.tup (l.map sD))) (hz : acc.length + l.length < 1000) (h : ∀ c4 c5, R.nx [some (.tup xs), some (.ref f), some (.int 1), some (.str ⟨#[115]⟩), c4, c5] (sup st f (.lst (acc ++ (sendKids 0 l).map kD)))) :
    t_children_b2 spForms R [some (.tup xs), some (.ref f), some (.int 1), some (.str ⟨#[115]⟩), c4, c5] (sup st f (.lst acc)) := by
  have e1 : ((⟨#[115]⟩ : Str) = "s") := by decide +kernel
  simp only [t_children_b2, dSeq, dAsg, dVar, dC, dCall, dCons, dNil, dOp, dUn, dTup, dLst, dLstM, dRet, dRetN, dNext, dDrop, dIfS, dTst, dAnd, dOr, dNot, dAndV, dOrV, dNotV, dIf, dPar, dPar3, dAsgG, gNm, gTp, gsCons, gsNil, dCB, dMt, dMt0, dSl, dPart, dNoPart, dKGet, dGet2, dDisp, dDispM, dpCons, dpNil, dFrz, dYes, rdSub, rdFdiv, rdMod, rdPow, rdLt, rdLe, rdGt, rdGe, rdAbs, rdMax, rdMin, rdI, rdI1, rdI2, rdNeg, rdInt, List.set_cons_zero, List.set_cons_succ, List.getElem?_cons_zero, List.getElem?_cons_succ, true_and, if_true, if_false, Bool.false_eq_true, rdEq, e1, decide_true, Bool.true_bne, Bool.not_false, dFor, dEn, rdIx_nf, look, hi, onS_some, itemsOf]
  exact kid_s_loop l 0 acc _ _ hz h
end
theorem rd_kids {d : D} {ks : List (D × D)} {st : Sto} {Q : QD} (hk : Kids d ks) (q : Q (.tup (ks.map kD)) st) : t_children spForms (ends Q) [some d, none, none, none, none, none] st := by
  simp only [t_children, dSeq, dAsg, dVar, dC, dCall, dCons, dNil, dOp, dUn, dTup, dLst, dLstM, dRet, dRetN, dNext, dDrop, dIfS, dTst, dAnd, dOr, dNot, dAndV, dOrV, dNotV, dIf, dPar, dPar3, dAsgG, gNm, gTp, gsCons, gsNil, dCB, dMt, dMt0, dSl, dPart, dNoPart, dKGet, dGet2, dDisp, dDispM, dpCons, dpNil, dFrz, dYes, rdSub, rdFdiv, rdMod, rdPow, rdLt, rdLe, rdGt, rdGe, rdAbs, rdMax, rdMin, rdI, rdI1, rdI2, rdNeg, rdInt, List.set_cons_zero, List.set_cons_succ, List.getElem?_cons_zero, List.getElem?_cons_succ, true_and, if_true, if_false, Bool.false_eq_true]
  refine ⟨Nat.zero_le _, fun f hf => ?_⟩
  -- the loop, given the form's signs
  have go : ∀ (h : Str) (r : List D) (cs : List Nat), d = .tup (.str h :: r) → formD h = .str ⟨cs.toArray⟩ → dLoop (gTp 2 (gsCons (gNm 2) (gsCons (gNm 3) gsNil))) (t_children_b2 spForms) { ends Q with nx := t_children_r2 spForms (ends Q) } (enumD 1 (cs.map fun c => .str ⟨#[c]⟩)) [some d, some (.ref f), none, none, none, none] (sup st f (.lst [])) → t_children_r1 spForms (ends Q) [some d, some (.ref f), none, none, none, none] (sup st f (.lst [])) := by
    intro h r cs e1 e2 hl
    subst e1
    simp only [t_children_r1, dSeq, dAsg, dVar, dC, dCall, dCons, dNil, dOp, dUn, dTup, dLst, dLstM, dRet, dRetN, dNext, dDrop, dIfS, dTst, dAnd, dOr, dNot, dAndV, dOrV, dNotV, dIf, dPar, dPar3, dAsgG, gNm, gTp, gsCons, gsNil, dCB, dMt, dMt0, dSl, dPart, dNoPart, dKGet, dGet2, dDisp, dDispM, dpCons, dpNil, dFrz, dYes, rdSub, rdFdiv, rdMod, rdPow, rdLt, rdLe, rdGt, rdGe, rdAbs, rdMax, rdMin, rdI, rdI1, rdI2, rdNeg, rdInt, List.set_cons_zero, List.set_cons_succ, List.getElem?_cons_zero, List.getElem?_cons_succ, true_and, if_true, if_false, Bool.false_eq_true, dFor, dEnK]
    refine ⟨h, r, rfl, ?_⟩
    rw [e2]
    have : signsD ⟨cs.toArray⟩ = cs.map fun c => .str ⟨#[c]⟩ := by unfold signsD; simp
    simp only [itemsOf, this]
    exact hl
  have fin : ∀ c2 c3 c4 c5, t_children_r2 spForms (ends Q) [some d, some (.ref f), c2, c3, c4, c5] (sup st f (.lst (ks.map kD))) := by
    intro c2 c3 c4 c5
    simp only [t_children_r2, dSeq, dAsg, dVar, dC, dCall, dCons, dNil, dOp, dUn, dTup, dLst, dLstM, dRet, dRetN, dNext, dDrop, dIfS, dTst, dAnd, dOr, dNot, dAndV, dOrV, dNotV, dIf, dPar, dPar3, dAsgG, gNm, gTp, gsCons, gsNil, dCB, dMt, dMt0, dSl, dPart, dNoPart, dKGet, dGet2, dDisp, dDispM, dpCons, dpNil, dFrz, dYes, rdSub, rdFdiv, rdMod, rdPow, rdLt, rdLe, rdGt, rdGe, rdAbs, rdMax, rdMin, rdI, rdI1, rdI2, rdNeg, rdInt, List.set_cons_zero, List.set_cons_succ, List.getElem?_cons_zero, List.getElem?_cons_succ, true_and, if_true, if_false, Bool.false_eq_true, rdTuple, look_lst (sup_same (st := st) (n := f) (m := .lst (ks.map kD)))]
    exact ⟨st, Sub.new hf, q⟩
  have gg : ∀ {t : TDG} {tb : TDS} {R : DEnds} {env : DSt} {s : Sto} {x : D} {l : List D}, (t x env s fun env1 st1 => tb { R with nx := dLoop t tb R l, ct := dLoop t tb R l, bk := R.nx } env1 st1) → dLoop t tb R (x :: l) env s := fun h => h
  cases hk with
  | l0 h =>
    rcases h with rfl | rfl
    · exact go "none" [] [] rfl (by rfl) (fin none none none none)
    · exact go "lacks" [] [] rfl (by rfl) (fin none none none none)
  | l1 h =>
    rcases h with rfl | rfl | rfl | rfl
    · refine go "number" _ [107] rfl (by rfl) ?_
      dsimp only [List.map_cons, List.map_nil, enumD]
      apply gg
      refine ⟨rfl, kid_no (.inl rfl) ?_⟩
      exact fin (some (.int 1)) (some (.str ⟨#[107]⟩)) none none
    · refine go "word" _ [119] rfl (by rfl) ?_
      dsimp only [List.map_cons, List.map_nil, enumD]
      apply gg
      refine ⟨rfl, kid_no (.inr (.inl rfl)) ?_⟩
      exact fin (some (.int 1)) (some (.str ⟨#[119]⟩)) none none
    · refine go "param" _ [112] rfl (by rfl) ?_
      dsimp only [List.map_cons, List.map_nil, enumD]
      apply gg
      refine ⟨rfl, kid_no (.inr (.inr rfl)) ?_⟩
      exact fin (some (.int 1)) (some (.str ⟨#[112]⟩)) none none
    · refine go "fail" _ [119] rfl (by rfl) ?_
      dsimp only [List.map_cons, List.map_nil, enumD]
      apply gg
      refine ⟨rfl, kid_no (.inr (.inl rfl)) ?_⟩
      exact fin (some (.int 1)) (some (.str ⟨#[119]⟩)) none none
  | l2 h =>
    rcases h with rfl | rfl | rfl
    · refine go "plus" _ [112, 107] rfl (by rfl) ?_
      dsimp only [List.map_cons, List.map_nil, enumD]
      apply gg
      refine ⟨rfl, kid_no (.inr (.inr rfl)) ?_⟩
      dsimp only [List.map_cons, List.map_nil, enumD]
      apply gg
      refine ⟨rfl, kid_no (.inl rfl) ?_⟩
      exact fin (some (.int 2)) (some (.str ⟨#[107]⟩)) none none
    · refine go "most" _ [112, 107] rfl (by rfl) ?_
      dsimp only [List.map_cons, List.map_nil, enumD]
      apply gg
      refine ⟨rfl, kid_no (.inr (.inr rfl)) ?_⟩
      dsimp only [List.map_cons, List.map_nil, enumD]
      apply gg
      refine ⟨rfl, kid_no (.inl rfl) ?_⟩
      exact fin (some (.int 2)) (some (.str ⟨#[107]⟩)) none none
    · refine go "is" _ [112, 119] rfl (by rfl) ?_
      dsimp only [List.map_cons, List.map_nil, enumD]
      apply gg
      refine ⟨rfl, kid_no (.inr (.inr rfl)) ?_⟩
      dsimp only [List.map_cons, List.map_nil, enumD]
      apply gg
      refine ⟨rfl, kid_no (.inr (.inl rfl)) ?_⟩
      exact fin (some (.int 2)) (some (.str ⟨#[119]⟩)) none none
  | not =>
    · refine go "not" _ [116] rfl (by rfl) ?_
      dsimp only [List.map_cons, List.map_nil, enumD]
      apply gg
      refine ⟨rfl, kid_te (.inl rfl) atI_1 (by simp) ?_⟩
      exact fin (some (.int 1)) (some (.str ⟨#[116]⟩)) none none
  | both =>
    · refine go "both" _ [116, 116] rfl (by rfl) ?_
      dsimp only [List.map_cons, List.map_nil, enumD]
      apply gg
      refine ⟨rfl, kid_te (.inl rfl) atI_1 (by simp) ?_⟩
      dsimp only [List.map_cons, List.map_nil, enumD]
      apply gg
      refine ⟨rfl, kid_te (.inl rfl) atI_2 (by simp) ?_⟩
      exact fin (some (.int 2)) (some (.str ⟨#[116]⟩)) none none
  | either =>
    · refine go "either" _ [116, 116] rfl (by rfl) ?_
      dsimp only [List.map_cons, List.map_nil, enumD]
      apply gg
      refine ⟨rfl, kid_te (.inl rfl) atI_1 (by simp) ?_⟩
      dsimp only [List.map_cons, List.map_nil, enumD]
      apply gg
      refine ⟨rfl, kid_te (.inl rfl) atI_2 (by simp) ?_⟩
      exact fin (some (.int 2)) (some (.str ⟨#[116]⟩)) none none
  | cond =>
    · refine go "if" _ [116, 101, 101] rfl (by rfl) ?_
      dsimp only [List.map_cons, List.map_nil, enumD]
      apply gg
      refine ⟨rfl, kid_te (.inl rfl) atI_1 (by simp) ?_⟩
      dsimp only [List.map_cons, List.map_nil, enumD]
      apply gg
      refine ⟨rfl, kid_te (.inr rfl) atI_2 (by simp) ?_⟩
      dsimp only [List.map_cons, List.map_nil, enumD]
      apply gg
      refine ⟨rfl, kid_te (.inr rfl) atI_3 (by simp) ?_⟩
      exact fin (some (.int 3)) (some (.str ⟨#[101]⟩)) none none
  | askN hl =>
    rename_i sends b
    have sl := congrArg List.length (sendKids_snd 0 sends)
    rw [List.length_map, List.length_map] at sl
    refine go "ask" _ [115, 101, 102] rfl (by rfl) ?_
    dsimp only [List.map_cons, List.map_nil, enumD]
    apply gg
    refine ⟨rfl, kid_s (acc := []) atI_1 (by rw [List.length_nil]; omega) fun a b => ?_⟩
    dsimp only [List.map_cons, List.map_nil, enumD]
    apply gg
    refine ⟨rfl, kid_te (.inr rfl) atI_2 (by rw [List.nil_append, List.length_map, sl]; omega) ?_⟩
    dsimp only [List.map_cons, List.map_nil, enumD]
    apply gg
    refine ⟨rfl, kid_f atI_3 (by rw [List.nil_append, List.length_append, List.length_map, sl, List.length_singleton]; omega) (fun _ => ?_) (.inl rfl) (fun h => absurd rfl h)⟩
    have := fin (some (.int 3)) (some (.str ⟨#[102]⟩)) a b
    rw [List.map_append] at this
    exact this
  | askF hl =>
    rename_i sends b cs
    have sl := congrArg List.length (sendKids_snd 0 sends)
    rw [List.length_map, List.length_map] at sl
    refine go "ask" _ [115, 101, 102] rfl (by rfl) ?_
    dsimp only [List.map_cons, List.map_nil, enumD]
    apply gg
    refine ⟨rfl, kid_s (acc := []) atI_1 (by rw [List.length_nil]; omega) fun a b => ?_⟩
    dsimp only [List.map_cons, List.map_nil, enumD]
    apply gg
    refine ⟨rfl, kid_te (.inr rfl) atI_2 (by rw [List.nil_append, List.length_map, sl]; omega) ?_⟩
    dsimp only [List.map_cons, List.map_nil, enumD]
    apply gg
    refine ⟨rfl, kid_f atI_3 (by rw [List.nil_append, List.length_append, List.length_map, sl, List.length_singleton]; omega) (fun h => by cases h) (.inr ⟨_, rfl⟩) (fun _ => ?_)⟩
    have := fin (some (.int 3)) (some (.str ⟨#[102]⟩)) a b
    rw [List.map_append, List.map_append] at this
    exact this
end TL
namespace TL
open PySem PySem.Spec PyProof.Rows L2
/-! ### how many nodes a tree has -/
theorem Kids.inj {d : D} {k1 k2 : List (D × D)} (h1 : Kids d k1) (h2 : Kids d k2) : k1 = k2 := by
  have n0 : ∀ h : Str, isL1 h → h ≠ "not" := fun h => by rintro (rfl | rfl | rfl | rfl) <;> decide +kernel
  have n1 : ∀ h : Str, isL2 h → h ≠ "both" := fun h => by rintro (rfl | rfl | rfl) <;> decide +kernel
  have n2 : ∀ h : Str, isL2 h → h ≠ "either" := fun h => by rintro (rfl | rfl | rfl) <;> decide +kernel
  have n3 : ¬ (("both" : Str) = "either") := by decide +kernel
  have n4 : ¬ (("if" : Str) = "ask") := by decide +kernel
  have sdi : ∀ l m : List (Str × D), l.map sD = m.map sD → l = m := fun l => by
    induction l with
    | nil => intro m h; cases m with
      | nil => rfl
      | cons _ _ => cases h
    | cons x r ih => intro m h; cases m with
      | nil => cases h
      | cons y s =>
        simp only [List.map_cons, List.cons.injEq] at h
        obtain ⟨a, b⟩ := x
        obtain ⟨c, e⟩ := y
        have h1 := h.1
        simp only [sD, D.tup.injEq, List.cons.injEq, D.str.injEq, and_true] at h1
        rw [h1.1, h1.2, ih s h.2]
  generalize hd : d = e at h2
  cases h1 <;> cases h2 <;> simp only [D.tup.injEq, List.cons.injEq, D.str.injEq, and_true, true_and, reduceCtorEq, and_false, false_and] at hd
  all_goals first
    | rfl
    | (obtain ⟨rfl, rfl⟩ := hd; rfl)
    | (obtain ⟨rfl, rfl, rfl⟩ := hd; rfl)
    | (subst hd; rfl)
    | (exact absurd hd.1 (n0 _ ‹_›))
    | (exact absurd hd.1.symm (n0 _ ‹_›))
    | (exact absurd hd.1 (n1 _ ‹_›))
    | (exact absurd hd.1.symm (n1 _ ‹_›))
    | (exact absurd hd.1 (n2 _ ‹_›))
    | (exact absurd hd.1.symm (n2 _ ‹_›))
    | (exact absurd hd.1 n3)
    | (exact absurd hd.1.symm n3)
    | (exact absurd hd.1 n4)
    | (exact absurd hd.1.symm n4)
    | (have := sdi _ _ hd.1; rw [this, hd.2])
    | (have := sdi _ _ hd.1; rw [this, hd.2.1, hd.2.2])
    | skip
/-- the tree d has k nodes -/
inductive Cn : D → Nat → Prop
  | mk {d : D} {ks : List (D × D)} {ns : List Nat} : Kids d ks → (hl : ks.length = ns.length) → (∀ (i : Nat) (h : i < ks.length), Cn (ks[i].2) (ns[i]'(hl ▸ h))) → Cn d (1 + ns.sum)
theorem Cn.inj {d : D} {a b : Nat} (h1 : Cn d a) (h2 : Cn d b) : a = b := by
  induction h1 generalizing b with
  | mk k1 l1 _ ih =>
    cases h2 with
    | mk k2 l2 h2 =>
      cases k1.inj k2
      congr 2
      apply List.ext_getElem (by omega)
      intro i a1 a2
      exact ih i (by omega) (h2 i (by omega))
theorem Tr.cn {n : Nat} : ∀ {d : D}, Tr n d → ∃ k, Cn d k ∧ k ≤ 2 * 5 ^ n - 1 := by
  induction n with
  | zero =>
    intro d h
    obtain ⟨ks, hk, _, hm⟩ := h.kids
    cases ks with
    | nil => exact ⟨1 + ([] : List Nat).sum, .mk hk rfl (fun i h => absurd h (Nat.not_lt_zero _)), by decide⟩
    | cons k r => obtain ⟨m, e, _⟩ := hm k (List.mem_cons_self ..); omega
  | succ n ih =>
    intro d h
    obtain ⟨ks, hk, hl, hm⟩ := h.kids
    have hm' : ∀ k ∈ ks, Tr n k.2 := fun k h => by
      obtain ⟨m, e, t⟩ := hm k h
      have : m = n := by omega
      subst this; exact t
    have go : ∀ (l : List (D × D)), (∀ k ∈ l, Tr n k.2) → ∃ ns : List Nat, ∃ hl : l.length = ns.length, (∀ (i : Nat) (h : i < l.length), Cn (l[i].2) (ns[i]'(hl ▸ h))) ∧ ns.sum ≤ l.length * (2 * 5 ^ n - 1) := by
      intro l
      induction l with
      | nil => intro _; exact ⟨[], rfl, fun i h => absurd h (Nat.not_lt_zero _), by simp⟩
      | cons k r ihl =>
        intro hk
        obtain ⟨ns, e, h1, h2⟩ := ihl fun x hx => hk x (List.mem_cons_of_mem _ hx)
        obtain ⟨c, hc, hb⟩ := ih (hk k (List.mem_cons_self ..))
        refine ⟨c :: ns, by simp [e], fun i h => ?_, ?_⟩
        · cases i with
          | zero => exact hc
          | succ i => exact h1 i (by simpa using h)
        · rw [List.sum_cons, List.length_cons, Nat.succ_mul]; omega
    obtain ⟨ns, e, h1, h2⟩ := go ks hm'
    refine ⟨_, .mk hk e h1, ?_⟩
    have h3 : ks.length * (2 * 5 ^ n - 1) ≤ 5 * (2 * 5 ^ n - 1) := Nat.mul_le_mul_right _ hl
    have h5 : 0 < 5 ^ n := Nat.pow_pos (by decide)
    rw [Nat.pow_succ]
    omega
theorem Cn.pos {d : D} {k : Nat} (h : Cn d k) : 1 ≤ k := by cases h; omega
/-! ### count -/
def spCount (m : Nat) : DSp := fun ds st Q _ => ∃ n d k, ds = [d] ∧ Tr n d ∧ n < m ∧ Cn d k ∧ Q (.int k) st
theorem count_comp {m : Nat} {env : DSt} {st : Sto} {Q : List D → Sto → Prop} (hl : env.length = 3) : ∀ (ks : List (D × D)) (ns : List Nat) (acc : List Nat), acc.length + ks.length < 1000 → (e : ks.length = ns.length) → (∀ (i : Nat) (h : i < ks.length), (∃ n, n < m ∧ Tr n ks[i].2) ∧ Cn (ks[i].2) (ns[i]'(e ▸ h))) → Q ((acc ++ ns).map fun (k : Nat) => D.int (k : Int)) st →
    dLcGo (gTp 2 (gsCons (gNm 1) (gsCons (gNm 2) gsNil))) dYes (dCall (spCount m) (dCons (dVar 2) dNil)) env (ks.map kD) (acc.map fun (k : Nat) => D.int (k : Int)) st Q
  | [], ns, acc, _, e, _, h => by
    cases ns with
    | nil => simpa [dLcGo] using h
    | cons _ _ => cases e
  | k :: ks, ns, acc, hz, e, hk, h => by
    cases ns with
    | nil => cases e
    | cons c ns =>
      have g2 : ∀ a b : D, ((env.set 1 (some a)).set 2 (some b))[2]? = some (some b) := fun a b => by rw [List.getElem?_set_self (by rw [List.length_set]; omega)]
      rw [List.length_cons] at hz
      obtain ⟨⟨n, n1, n2⟩, n3⟩ := hk 0 (by simp)
      simp only [List.map_cons, dLcGo, kD, dSeq, dAsg, dVar, dC, dCall, dCons, dNil, dOp, dUn, dTup, dLst, dLstM, dRet, dRetN, dNext, dDrop, dIfS, dTst, dAnd, dOr, dNot, dAndV, dOrV, dNotV, dIf, dPar, dPar3, dAsgG, gNm, gTp, gsCons, gsNil, dCB, dMt, dMt0, dSl, dPart, dNoPart, dKGet, dGet2, dDisp, dDispM, dpCons, dpNil, dFrz, dYes, rdSub, rdFdiv, rdMod, rdPow, rdLt, rdLe, rdGt, rdGe, rdAbs, rdMax, rdMin, rdI, rdI1, rdI2, rdNeg, rdInt, List.set_cons_zero, List.set_cons_succ, List.getElem?_cons_zero, List.getElem?_cons_succ, true_and, if_true, if_false, Bool.false_eq_true, g2]
      refine ⟨rfl, n, k.2, c, rfl, n2, n1, n3, by rw [List.length_map, sizeLine_eq]; omega, ?_⟩
      have := count_comp hl (Q := Q) ks ns (acc ++ [c]) (by rw [List.length_append, List.length_singleton]; omega) (by simpa using e) (fun i h => hk (i + 1) (by simpa using h)) (by simpa using h)
      rw [List.map_append] at this
      exact this
theorem ints_sum : ∀ ns : List Nat, intsOf (ns.map fun (k : Nat) => D.int (k : Int)) = some (ns.map fun (k : Nat) => (k : Int)) ∧ (ns.map fun (k : Nat) => (k : Int)).sum = (ns.sum : Int)
  | [] => ⟨rfl, rfl⟩
  | n :: r => by
    obtain ⟨h1, h2⟩ := ints_sum r
    exact ⟨by simp [intsOf, h1], by simp [h2]⟩
theorem rd_count {m n : Nat} {d : D} {k : Nat} {st : Sto} {Q : QD} (ht : Tr n d) (hn : n < m + 1) (hk : Cn d k) (q : Q (.int k) st) : t_count spKids (spCount m) (ends Q) [some d, none, none] st := by
  obtain ⟨ks, k1, k2, k3⟩ := ht.kids
  cases hk with
  | mk h1 h2 h3 =>
    rename_i ks' ns
    cases h1.inj k1
    simp only [t_count, dSeq, dAsg, dVar, dC, dCall, dCons, dNil, dOp, dUn, dTup, dLst, dLstM, dRet, dRetN, dNext, dDrop, dIfS, dTst, dAnd, dOr, dNot, dAndV, dOrV, dNotV, dIf, dPar, dPar3, dAsgG, gNm, gTp, gsCons, gsNil, dCB, dMt, dMt0, dSl, dPart, dNoPart, dKGet, dGet2, dDisp, dDispM, dpCons, dpNil, dFrz, dYes, rdSub, rdFdiv, rdMod, rdPow, rdLt, rdLe, rdGt, rdGe, rdAbs, rdMax, rdMin, rdI, rdI1, rdI2, rdNeg, rdInt, List.set_cons_zero, List.set_cons_succ, List.getElem?_cons_zero, List.getElem?_cons_succ, true_and, if_true, if_false, Bool.false_eq_true, dLc, dIt]
    refine ⟨d, ks, rfl, k1, ?_⟩
    simp only [itemsOf]
    refine count_comp (acc := []) (m := m) (wipeD_len _ _) ks ns (by rw [List.length_nil]; omega) h2 (fun i h => ⟨?_, h3 i h⟩) ?_
    · obtain ⟨j, e, t⟩ := k3 ks[i] (List.getElem_mem h)
      exact ⟨j, by omega, t⟩
    · obtain ⟨s1, s2⟩ := ints_sum ns
      simp only [List.nil_append, rdSum, look]
      refine ⟨_, s1, ?_⟩
      rw [s2]
      simp only [rdAdd, look]
      refine sb ?_
      have : ((1 + ns.sum : Nat) : Int) = 1 + (ns.sum : Int) := by omega
      rw [← this]; exact q
/-! ### _law_children -/
def lk : Int → List D → List D
  | _, [] => []
  | i, c :: cs => .tup [.tup [.int i], c] :: lk (i + 1) cs
def ats (xs : List D) : Int → List D → Prop
  | _, [] => True
  | i, c :: cs => atI xs i = some c ∧ ats xs (i + 1) cs
theorem lkid_comp {env : DSt} {st : Sto} {Q : List D → Sto → Prop} {xs : List D} (hl : env.length = 5) (h0 : env[0]? = some (some (.tup xs))) : ∀ (cs : List D) (i : Int) (acc : List D), acc.length + cs.length < 1000 → ats xs i cs → Q (acc ++ lk i cs) st →
    dLcGo (gNm 3) dYes (dTup (dCons (dTup (dCons (dVar 3) dNil)) (dCons (dOp rdIx (dVar 0) (dVar 3)) dNil))) env (rangeD i cs.length) acc st Q
  | [], i, acc, _, _, h => by simpa [dLcGo, rangeD_zero, lk] using h
  | c :: cs, i, acc, hz, hc, h => by
    have g0 : ∀ a : D, (env.set 3 (some a))[0]? = some (some (.tup xs)) := fun a => by rw [List.getElem?_set_ne (by decide)]; exact h0
    have g3 : ∀ a : D, (env.set 3 (some a))[3]? = some (some a) := fun a => by rw [List.getElem?_set_self (by omega)]
    rw [List.length_cons] at hz
    simp only [List.length_cons, rangeD_succ, dLcGo, dSeq, dAsg, dVar, dC, dCall, dCons, dNil, dOp, dUn, dTup, dLst, dLstM, dRet, dRetN, dNext, dDrop, dIfS, dTst, dAnd, dOr, dNot, dAndV, dOrV, dNotV, dIf, dPar, dPar3, dAsgG, gNm, gTp, gsCons, gsNil, dCB, dMt, dMt0, dSl, dPart, dNoPart, dKGet, dGet2, dDisp, dDispM, dpCons, dpNil, dFrz, dYes, rdSub, rdFdiv, rdMod, rdPow, rdLt, rdLe, rdGt, rdGe, rdAbs, rdMax, rdMin, rdI, rdI1, rdI2, rdNeg, rdInt, List.set_cons_zero, List.set_cons_succ, List.getElem?_cons_zero, List.getElem?_cons_succ, true_and, if_true, if_false, Bool.false_eq_true, g0, g3, rdIx_nf, look, hc.1, onS_some]
    refine ⟨by simp [sizeLine_eq], by simp [sizeLine_eq], by rw [sizeLine_eq]; omega, ?_⟩
    exact lkid_comp hl h0 (Q := Q) cs (i + 1) (acc ++ [.tup [.tup [.int i], c]]) (by rw [List.length_append, List.length_singleton]; omega) hc.2 (by simpa [lk] using h)
theorem lsend_comp {env : DSt} {st : Sto} {Q : List D → Sto → Prop} (hl : env.length = 5) : ∀ (l : List (Str × D)) (k : Int) (acc : List D), acc.length + l.length < 1000 → Q (acc ++ (sendKids k l).map kD) st →
    dLcGo (gTp 2 (gsCons (gNm 3) (gsCons (gNm 4) gsNil))) dYes (dTup (dCons (dTup (dCons (dC (.int 1)) (dCons (dVar 3) (dCons (dC (.int 1)) dNil)))) (dCons (dOp rdIx (dVar 4) (dC (.int 1))) dNil))) env (enumD k (l.map sD)) acc st Q
  | [], k, acc, _, h => by simpa [dLcGo, enumD, sendKids] using h
  | s :: l, k, acc, hz, h => by
    have g3 : ∀ a b : D, ((env.set 3 (some a)).set 4 (some b))[3]? = some (some a) := fun a b => by rw [List.getElem?_set_ne (by decide), List.getElem?_set_self (by omega)]
    have g4 : ∀ a b : D, ((env.set 3 (some a)).set 4 (some b))[4]? = some (some b) := fun a b => by rw [List.getElem?_set_self (by rw [List.length_set]; omega)]
    rw [List.length_cons] at hz
    simp only [List.map_cons, enumD, dLcGo, sD, dSeq, dAsg, dVar, dC, dCall, dCons, dNil, dOp, dUn, dTup, dLst, dLstM, dRet, dRetN, dNext, dDrop, dIfS, dTst, dAnd, dOr, dNot, dAndV, dOrV, dNotV, dIf, dPar, dPar3, dAsgG, gNm, gTp, gsCons, gsNil, dCB, dMt, dMt0, dSl, dPart, dNoPart, dKGet, dGet2, dDisp, dDispM, dpCons, dpNil, dFrz, dYes, rdSub, rdFdiv, rdMod, rdPow, rdLt, rdLe, rdGt, rdGe, rdAbs, rdMax, rdMin, rdI, rdI1, rdI2, rdNeg, rdInt, List.set_cons_zero, List.set_cons_succ, List.getElem?_cons_zero, List.getElem?_cons_succ, true_and, if_true, if_false, Bool.false_eq_true, g3, g4, rdIx_nf, look, atI_1, onS_some]
    refine ⟨rfl, by simp [sizeLine_eq], by simp [sizeLine_eq], by rw [sizeLine_eq]; omega, ?_⟩
    exact lsend_comp hl (Q := Q) l (k + 1) (acc ++ [.tup [.tup [.int 1, .int k, .int 1], s.2]]) (by rw [List.length_append, List.length_singleton]; omega) (by simpa [sendKids, kD] using h)
def slotsK : List (Key × D) := [(.inr "if", .int 3), (.inr "not", .int 1), (.inr "both", .int 2), (.inr "either", .int 2)]
theorem slots_fold : foldK [] [(.inr "if", .int 3), (.inr "not", .int 1), (.inr "both", .int 2), (.inr "either", .int 2)] = slotsK := by rfl
theorem rd_lkids {d : D} {ks : List (D × D)} {st : Sto} {Q : QD} (hk : Kids d ks) (q : Q (.tup (ks.map kD)) st) : t__law_children (ends Q) [some d, none, none, none, none] st := by
  -- by the head and the rest
  have go : ∀ (h : Str) (r cs : List D) (n : Nat), d = .tup (.str h :: r) → ((getK slotsK (.inr h)).getD (.int 0)) = .int cs.length → ats (.str h :: r) 1 cs → cs.length ≤ 3 → t__law_children_r2 (ends Q) [some d, some (.int cs.length), some (.lst (lk 1 cs)), none, none] st → t__law_children (ends Q) [some d, none, none, none, none] st := by
    intro h r cs n e1 e2 e3 e4 hr
    subst e1
    simp only [t__law_children, dSeq, dAsg, dVar, dC, dCall, dCons, dNil, dOp, dUn, dTup, dLst, dLstM, dRet, dRetN, dNext, dDrop, dIfS, dTst, dAnd, dOr, dNot, dAndV, dOrV, dNotV, dIf, dPar, dPar3, dAsgG, gNm, gTp, gsCons, gsNil, dCB, dMt, dMt0, dSl, dPart, dNoPart, dKGet, dGet2, dDisp, dDispM, dpCons, dpNil, dFrz, dYes, rdSub, rdFdiv, rdMod, rdPow, rdLt, rdLe, rdGt, rdGe, rdAbs, rdMax, rdMin, rdI, rdI1, rdI2, rdNeg, rdInt, List.set_cons_zero, List.set_cons_succ, List.getElem?_cons_zero, List.getElem?_cons_succ, true_and, if_true, if_false, Bool.false_eq_true, slots_fold]
    refine ⟨by show 4 ≤ 15; decide, trivial, ?_⟩
    simp only [rdIx_nf, look, atI_zero, onS_some, keyOf]
    refine ⟨_, rfl, ?_⟩
    rw [e2]
    simp only [t__law_children_r1, dSeq, dAsg, dVar, dC, dCall, dCons, dNil, dOp, dUn, dTup, dLst, dLstM, dRet, dRetN, dNext, dDrop, dIfS, dTst, dAnd, dOr, dNot, dAndV, dOrV, dNotV, dIf, dPar, dPar3, dAsgG, gNm, gTp, gsCons, gsNil, dCB, dMt, dMt0, dSl, dPart, dNoPart, dKGet, dGet2, dDisp, dDispM, dpCons, dpNil, dFrz, dYes, rdSub, rdFdiv, rdMod, rdPow, rdLt, rdLe, rdGt, rdGe, rdAbs, rdMax, rdMin, rdI, rdI1, rdI2, rdNeg, rdInt, List.set_cons_zero, List.set_cons_succ, List.getElem?_cons_zero, List.getElem?_cons_succ, true_and, if_true, if_false, Bool.false_eq_true, dLc, dRg2, rdAdd, look]
    refine ⟨⟨by decide, by decide, by omega, by omega⟩, ?_⟩
    have e5 : ((cs.length : Int) + 1 - 1).toNat = cs.length := by omega
    rw [e5]
    exact lkid_comp (acc := []) (wipeD_len _ _) rfl cs 1 (by rw [List.length_nil]; omega) e3 hr
  have fin : ∀ (h : Str) (r : List D) (ls : List D) (c1 : Option D), d = .tup (.str h :: r) → h ≠ "ask" → ls = ks.map kD → t__law_children_r2 (ends Q) [some d, c1, some (.lst ls), none, none] st := by
    intro h r ls c1 e1 e2 e3
    subst e1
    simp only [t__law_children_r2, dSeq, dAsg, dVar, dC, dCall, dCons, dNil, dOp, dUn, dTup, dLst, dLstM, dRet, dRetN, dNext, dDrop, dIfS, dTst, dAnd, dOr, dNot, dAndV, dOrV, dNotV, dIf, dPar, dPar3, dAsgG, gNm, gTp, gsCons, gsNil, dCB, dMt, dMt0, dSl, dPart, dNoPart, dKGet, dGet2, dDisp, dDispM, dpCons, dpNil, dFrz, dYes, rdSub, rdFdiv, rdMod, rdPow, rdLt, rdLe, rdGt, rdGe, rdAbs, rdMax, rdMin, rdI, rdI1, rdI2, rdNeg, rdInt, List.set_cons_zero, List.set_cons_succ, List.getElem?_cons_zero, List.getElem?_cons_succ, true_and, if_true, if_false, Bool.false_eq_true, rdIx_nf, look, atI_zero, onS_some, rdEq, e2, decide_false, bne_self_eq_false]
    simp only [t__law_children_r3, dSeq, dAsg, dVar, dC, dCall, dCons, dNil, dOp, dUn, dTup, dLst, dLstM, dRet, dRetN, dNext, dDrop, dIfS, dTst, dAnd, dOr, dNot, dAndV, dOrV, dNotV, dIf, dPar, dPar3, dAsgG, gNm, gTp, gsCons, gsNil, dCB, dMt, dMt0, dSl, dPart, dNoPart, dKGet, dGet2, dDisp, dDispM, dpCons, dpNil, dFrz, dYes, rdSub, rdFdiv, rdMod, rdPow, rdLt, rdLe, rdGt, rdGe, rdAbs, rdMax, rdMin, rdI, rdI1, rdI2, rdNeg, rdInt, List.set_cons_zero, List.set_cons_succ, List.getElem?_cons_zero, List.getElem?_cons_succ, true_and, if_true, if_false, Bool.false_eq_true, rdTuple, look]
    rw [e3]
    exact sb q
  cases hk with
  | l0 h =>
    rcases h with rfl | rfl
    · exact go "none" [] [] 0 rfl (by rfl) trivial (by decide) (fin "none" _ _ _ rfl (by decide +kernel) rfl)
    · exact go "lacks" [] [] 0 rfl (by rfl) trivial (by decide) (fin "lacks" _ _ _ rfl (by decide +kernel) rfl)
  | l1 h =>
    rcases h with rfl | rfl | rfl | rfl
    · exact go "number" _ [] 0 rfl (by rfl) trivial (by decide) (fin "number" _ _ _ rfl (by decide +kernel) rfl)
    · exact go "word" _ [] 0 rfl (by rfl) trivial (by decide) (fin "word" _ _ _ rfl (by decide +kernel) rfl)
    · exact go "param" _ [] 0 rfl (by rfl) trivial (by decide) (fin "param" _ _ _ rfl (by decide +kernel) rfl)
    · exact go "fail" _ [] 0 rfl (by rfl) trivial (by decide) (fin "fail" _ _ _ rfl (by decide +kernel) rfl)
  | l2 h =>
    rcases h with rfl | rfl | rfl
    · exact go "plus" _ [] 0 rfl (by rfl) trivial (by decide) (fin "plus" _ _ _ rfl (by decide +kernel) rfl)
    · exact go "most" _ [] 0 rfl (by rfl) trivial (by decide) (fin "most" _ _ _ rfl (by decide +kernel) rfl)
    · exact go "is" _ [] 0 rfl (by rfl) trivial (by decide) (fin "is" _ _ _ rfl (by decide +kernel) rfl)
  | @not a => exact go "not" _ [a] 0 rfl (by rfl) ⟨atI_1, trivial⟩ (by simp) (fin "not" _ _ _ rfl (by decide +kernel) rfl)
  | @both a b => exact go "both" _ [a, b] 0 rfl (by rfl) ⟨atI_1, atI_2, trivial⟩ (by simp) (fin "both" _ _ _ rfl (by decide +kernel) rfl)
  | @either a b => exact go "either" _ [a, b] 0 rfl (by rfl) ⟨atI_1, atI_2, trivial⟩ (by simp) (fin "either" _ _ _ rfl (by decide +kernel) rfl)
  | @cond a b c => exact go "if" _ [a, b, c] 0 rfl (by rfl) ⟨atI_1, atI_2, atI_3, trivial⟩ (by simp) (fin "if" _ _ _ rfl (by decide +kernel) rfl)
  | @askN sends b hl =>
    refine go "ask" _ [] 0 rfl (by rfl) trivial (by decide) ?_
    simp only [t__law_children_r2, dSeq, dAsg, dVar, dC, dCall, dCons, dNil, dOp, dUn, dTup, dLst, dLstM, dRet, dRetN, dNext, dDrop, dIfS, dTst, dAnd, dOr, dNot, dAndV, dOrV, dNotV, dIf, dPar, dPar3, dAsgG, gNm, gTp, gsCons, gsNil, dCB, dMt, dMt0, dSl, dPart, dNoPart, dKGet, dGet2, dDisp, dDispM, dpCons, dpNil, dFrz, dYes, rdSub, rdFdiv, rdMod, rdPow, rdLt, rdLe, rdGt, rdGe, rdAbs, rdMax, rdMin, rdI, rdI1, rdI2, rdNeg, rdInt, List.set_cons_zero, List.set_cons_succ, List.getElem?_cons_zero, List.getElem?_cons_succ, true_and, if_true, if_false, Bool.false_eq_true, rdIx_nf, look, atI_zero, atI_1, onS_some, rdEq, decide_true, Bool.true_bne, Bool.not_false, dLc, dEn, itemsOf]
    refine lsend_comp (acc := []) (wipeD_len _ _) sends 0 (by rw [List.length_nil]; omega) ?_
    simp only [dSeq, dAsg, dVar, dC, dCall, dCons, dNil, dOp, dUn, dTup, dLst, dLstM, dRet, dRetN, dNext, dDrop, dIfS, dTst, dAnd, dOr, dNot, dAndV, dOrV, dNotV, dIf, dPar, dPar3, dAsgG, gNm, gTp, gsCons, gsNil, dCB, dMt, dMt0, dSl, dPart, dNoPart, dKGet, dGet2, dDisp, dDispM, dpCons, dpNil, dFrz, dYes, rdSub, rdFdiv, rdMod, rdPow, rdLt, rdLe, rdGt, rdGe, rdAbs, rdMax, rdMin, rdI, rdI1, rdI2, rdNeg, rdInt, List.set_cons_zero, List.set_cons_succ, List.getElem?_cons_zero, List.getElem?_cons_succ, true_and, if_true, if_false, Bool.false_eq_true, List.nil_append, rdIx_nf, look, atI_2, atI_3, onS_some, rdAdd, rdIsN, rdMul, rdInt, Bool.not_true]
    have sl := congrArg List.length (sendKids_snd 0 sends)
    rw [List.length_map, List.length_map] at sl
    refine ⟨by simp [sizeLine_eq], by simp [sizeLine_eq], by simp [sizeLine_eq], by rw [List.length_map, sl]; simp [sizeLine_eq]; omega, by simp [sizeLine_eq], by simp [sizeLine_eq], by simp [sizeLine_eq], ⟨by decide, by decide, by simp [sizeLine_eq]⟩, by rw [List.length_append, List.length_map, sl]; simp [sizeLine_eq]; omega, ?_⟩
    simp only [t__law_children_r3, dSeq, dAsg, dVar, dC, dCall, dCons, dNil, dOp, dUn, dTup, dLst, dLstM, dRet, dRetN, dNext, dDrop, dIfS, dTst, dAnd, dOr, dNot, dAndV, dOrV, dNotV, dIf, dPar, dPar3, dAsgG, gNm, gTp, gsCons, gsNil, dCB, dMt, dMt0, dSl, dPart, dNoPart, dKGet, dGet2, dDisp, dDispM, dpCons, dpNil, dFrz, dYes, rdSub, rdFdiv, rdMod, rdPow, rdLt, rdLe, rdGt, rdGe, rdAbs, rdMax, rdMin, rdI, rdI1, rdI2, rdNeg, rdInt, List.set_cons_zero, List.set_cons_succ, List.getElem?_cons_zero, List.getElem?_cons_succ, true_and, if_true, if_false, Bool.false_eq_true, rdTuple, look]
    refine sb ?_
    rw [List.map_append] at q
    simpa [kD] using q
  | @askF sends b cs hl =>
    refine go "ask" _ [] 0 rfl (by rfl) trivial (by decide) ?_
    simp only [t__law_children_r2, dSeq, dAsg, dVar, dC, dCall, dCons, dNil, dOp, dUn, dTup, dLst, dLstM, dRet, dRetN, dNext, dDrop, dIfS, dTst, dAnd, dOr, dNot, dAndV, dOrV, dNotV, dIf, dPar, dPar3, dAsgG, gNm, gTp, gsCons, gsNil, dCB, dMt, dMt0, dSl, dPart, dNoPart, dKGet, dGet2, dDisp, dDispM, dpCons, dpNil, dFrz, dYes, rdSub, rdFdiv, rdMod, rdPow, rdLt, rdLe, rdGt, rdGe, rdAbs, rdMax, rdMin, rdI, rdI1, rdI2, rdNeg, rdInt, List.set_cons_zero, List.set_cons_succ, List.getElem?_cons_zero, List.getElem?_cons_succ, true_and, if_true, if_false, Bool.false_eq_true, rdIx_nf, look, atI_zero, atI_1, onS_some, rdEq, decide_true, Bool.true_bne, Bool.not_false, dLc, dEn, itemsOf]
    refine lsend_comp (acc := []) (wipeD_len _ _) sends 0 (by rw [List.length_nil]; omega) ?_
    simp only [dSeq, dAsg, dVar, dC, dCall, dCons, dNil, dOp, dUn, dTup, dLst, dLstM, dRet, dRetN, dNext, dDrop, dIfS, dTst, dAnd, dOr, dNot, dAndV, dOrV, dNotV, dIf, dPar, dPar3, dAsgG, gNm, gTp, gsCons, gsNil, dCB, dMt, dMt0, dSl, dPart, dNoPart, dKGet, dGet2, dDisp, dDispM, dpCons, dpNil, dFrz, dYes, rdSub, rdFdiv, rdMod, rdPow, rdLt, rdLe, rdGt, rdGe, rdAbs, rdMax, rdMin, rdI, rdI1, rdI2, rdNeg, rdInt, List.set_cons_zero, List.set_cons_succ, List.getElem?_cons_zero, List.getElem?_cons_succ, true_and, if_true, if_false, Bool.false_eq_true, List.nil_append, rdIx_nf, look, atI_2, atI_3, onS_some, rdAdd, rdIsN, rdMul, rdInt, Bool.not_true]
    have sl := congrArg List.length (sendKids_snd 0 sends)
    rw [List.length_map, List.length_map] at sl
    refine ⟨by simp [sizeLine_eq], by simp [sizeLine_eq], by simp [sizeLine_eq], by rw [List.length_map, sl]; simp [sizeLine_eq]; omega, by simp [sizeLine_eq], by simp [sizeLine_eq], by simp [sizeLine_eq], ⟨by decide, by decide, by simp [sizeLine_eq]⟩, by rw [List.length_append, List.length_map, sl]; simp [sizeLine_eq]; omega, ?_⟩
    simp only [t__law_children_r3, dSeq, dAsg, dVar, dC, dCall, dCons, dNil, dOp, dUn, dTup, dLst, dLstM, dRet, dRetN, dNext, dDrop, dIfS, dTst, dAnd, dOr, dNot, dAndV, dOrV, dNotV, dIf, dPar, dPar3, dAsgG, gNm, gTp, gsCons, gsNil, dCB, dMt, dMt0, dSl, dPart, dNoPart, dKGet, dGet2, dDisp, dDispM, dpCons, dpNil, dFrz, dYes, rdSub, rdFdiv, rdMod, rdPow, rdLt, rdLe, rdGt, rdGe, rdAbs, rdMax, rdMin, rdI, rdI1, rdI2, rdNeg, rdInt, List.set_cons_zero, List.set_cons_succ, List.getElem?_cons_zero, List.getElem?_cons_succ, true_and, if_true, if_false, Bool.false_eq_true, rdTuple, look]
    refine sb ?_
    rw [List.map_append, List.map_append] at q
    simpa [kD] using q
/-! ### _law_all -/
def AllTr (n : Nat) (l : List D) : Prop := ∀ d ∈ l, Tr n d
inductive Cns : List D → Nat → Prop
  | nil : Cns [] 0
  | cons {d : D} {l : List D} {k m : Nat} : Cn d k → Cns l m → Cns (d :: l) (k + m)
theorem Cns.app {l m : List D} {a b : Nat} (h1 : Cns l a) (h2 : Cns m b) : Cns (l ++ m) (a + b) := by
  induction h1 with
  | nil => simpa using h2
  | cons h _ ih => rw [List.cons_append, Nat.add_assoc]; exact .cons h ih
theorem Cns.split {l m : List D} {c : Nat} (h : Cns (l ++ m) c) : ∃ a b, Cns l a ∧ Cns m b ∧ c = a + b := by
  induction l generalizing c with
  | nil => exact ⟨0, c, .nil, h, by omega⟩
  | cons x r ih =>
    cases h with
    | cons h1 h2 =>
      obtain ⟨a, b, ha, hb, e⟩ := ih h2
      exact ⟨_, b, .cons h1 ha, hb, by omega⟩
theorem Cns.len {l : List D} {c : Nat} (h : Cns l c) : l.length ≤ c := by
  induction h with
  | nil => simp
  | cons h _ ih => have := h.pos; rw [List.length_cons]; omega
theorem cns_kids {ks : List (D × D)} : ∀ {ns : List Nat} (e : ks.length = ns.length), (∀ (i : Nat) (h : i < ks.length), Cn (ks[i].2) (ns[i]'(e ▸ h))) → Cns (ks.map (·.2)) ns.sum := by
  induction ks with
  | nil =>
    intro ns e h
    cases ns with
    | nil => exact .nil
    | cons _ _ => cases e
  | cons k r ih =>
    intro ns e h
    cases ns with
    | nil => cases e
    | cons n ns => exact .cons (h 0 (by simp)) (ih (by simpa using e) fun i hi => h (i + 1) (by simpa using hi))
def spLKids : DSp := spKids
def spAll : DSp := fun ds st Q _ => ∃ d k, ds = [d] ∧ Tr 6 d ∧ Cn d k ∧ ∀ l : List D, l.length = k → AllTr 6 l → Q (.lst l) st
theorem all_comp {env : DSt} {st : Sto} {Q : List D → Sto → Prop} (hl : env.length = 6) : ∀ (ks : List (D × D)) (acc : List D), acc.length + ks.length < 1000 → Q (acc ++ ks.map (·.2)) st →
    dLcGo (gTp 2 (gsCons (gNm 4) (gsCons (gNm 5) gsNil))) dYes (dVar 5) env (ks.map kD) acc st Q
  | [], acc, _, h => by simpa [dLcGo] using h
  | k :: ks, acc, hz, h => by
    have g5 : ∀ a b : D, ((env.set 4 (some a)).set 5 (some b))[5]? = some (some b) := fun a b => by rw [List.getElem?_set_self (by rw [List.length_set]; omega)]
    rw [List.length_cons] at hz
    simp only [List.map_cons, dLcGo, kD, dSeq, dAsg, dVar, dC, dCall, dCons, dNil, dOp, dUn, dTup, dLst, dLstM, dRet, dRetN, dNext, dDrop, dIfS, dTst, dAnd, dOr, dNot, dAndV, dOrV, dNotV, dIf, dPar, dPar3, dAsgG, gNm, gTp, gsCons, gsNil, dCB, dMt, dMt0, dSl, dPart, dNoPart, dKGet, dGet2, dDisp, dDispM, dpCons, dpNil, dFrz, dYes, rdSub, rdFdiv, rdMod, rdPow, rdLt, rdLe, rdGt, rdGe, rdAbs, rdMax, rdMin, rdI, rdI1, rdI2, rdNeg, rdInt, List.set_cons_zero, List.set_cons_succ, List.getElem?_cons_zero, List.getElem?_cons_succ, true_and, if_true, if_false, Bool.false_eq_true, g5]
    refine ⟨rfl, by rw [sizeLine_eq]; omega, ?_⟩
    exact all_comp hl (Q := Q) ks (acc ++ [k.2]) (by rw [List.length_append, List.length_singleton]; omega) (by simpa using h)
theorem wts_le {b : Nat} : ∀ {l : List D}, (∀ d ∈ l, d.wt + 2 ≤ b) → D.wts l ≤ l.length * b
  | [], _ => by simp [D.wts]
  | d :: l, h => by
    have h1 := h d (List.mem_cons_self ..)
    have h2 := wts_le (l := l) fun x hx => h x (List.mem_cons_of_mem _ hx)
    simp only [D.wts, List.length_cons, Nat.succ_mul]; omega
theorem oks_of : ∀ {l : List D}, (∀ d ∈ l, d.ok = true) → D.oks l = true
  | [], _ => by simp [D.oks]
  | d :: l, h => by simp [D.oks, h d (List.mem_cons_self ..), oks_of (l := l) fun x hx => h x (List.mem_cons_of_mem _ hx)]
theorem dps_le {b : Nat} : ∀ {l : List D}, (∀ d ∈ l, d.dp ≤ b) → D.dps l ≤ b
  | [], _ => by simp [D.dps]
  | d :: l, h => by
    have h1 := h d (List.mem_cons_self ..)
    have h2 := dps_le (l := l) fun x hx => h x (List.mem_cons_of_mem _ hx)
    simp only [D.dps]; omega
def hds : List Str := ["none", "lacks", "number", "word", "param", "fail", "plus", "most", "is", "not", "both", "either", "if", "ask"]
theorem hds_ok : ∀ h ∈ hds, okS h = true ∧ h.length ≤ 6 := by decide +kernel
theorem l0_hd {h : Str} (x : isL0 h) : okS h = true ∧ h.length ≤ 6 := by rcases x with rfl | rfl <;> exact hds_ok _ (by decide +kernel)
theorem l1_hd {h : Str} (x : isL1 h) : okS h = true ∧ h.length ≤ 6 := by rcases x with rfl | rfl | rfl | rfl <;> exact hds_ok _ (by decide +kernel)
theorem l2_hd {h : Str} (x : isL2 h) : okS h = true ∧ h.length ≤ 6 := by rcases x with rfl | rfl | rfl <;> exact hds_ok _ (by decide +kernel)
/-- good data, not too deep, not too much -/
theorem Tr.good {n : Nat} {d : D} (h : Tr n d) : d.ok = true ∧ d.dp ≤ 3 * n + 1 ∧ d.wt + 300 ≤ 700 * 5 ^ n := by
  have pw : ∀ n : Nat, 5 ^ (n + 1) = 5 * 5 ^ n := fun n => by rw [Nat.pow_succ]; omega
  have p1 : ∀ n : Nat, 1 ≤ 5 ^ n := fun n => Nat.pow_pos (by decide)
  have lits : ∀ h ∈ hds, (D.str h).wt ≤ 62 ∧ okS h = true := fun h hh => by
    have := hds_ok h hh
    exact ⟨by simp only [D.wt]; omega, this.1⟩
  induction h with
  | l0 h =>
    rename_i n s
    have := l0_hd h
    have := p1 n
    refine ⟨by simp [D.ok, D.oks, (l0_hd h).1], by simp [D.dp, D.dps], by simp only [D.wt, D.wts]; omega⟩
  | l1 h a =>
    rename_i n s x
    have := l1_hd h
    have := p1 n
    obtain ⟨a1, a2, a3⟩ := a
    refine ⟨by simp [D.ok, D.oks, (l1_hd h).1, a1], by simp [D.dp, D.dps, a2], by simp only [D.wt, D.wts]; omega⟩
  | l2 h a b =>
    rename_i n s x y
    have := l2_hd h
    have := p1 n
    obtain ⟨a1, a2, a3⟩ := a
    obtain ⟨b1, b2, b3⟩ := b
    refine ⟨by simp [D.ok, D.oks, (l2_hd h).1, a1, b1], by simp [D.dp, D.dps, a2, b2], by simp only [D.wt, D.wts]; omega⟩
  | @not n a _ ih =>
    obtain ⟨a1, a2, a3⟩ := ih
    have l := lits "not" (by decide +kernel)
    have := p1 n
    refine ⟨by simp [D.ok, D.oks, a1, l.2], by simp only [D.dp, D.dps]; omega, by rw [pw]; have := l.1; simp only [D.wt, D.wts] at this ⊢; omega⟩
  | @both n a b _ _ i1 i2 =>
    obtain ⟨a1, a2, a3⟩ := i1
    obtain ⟨b1, b2, b3⟩ := i2
    have l := lits "both" (by decide +kernel)
    have := p1 n
    refine ⟨by simp [D.ok, D.oks, a1, b1, l.2], by simp only [D.dp, D.dps]; omega, by rw [pw]; have := l.1; simp only [D.wt, D.wts] at this ⊢; omega⟩
  | @either n a b _ _ i1 i2 =>
    obtain ⟨a1, a2, a3⟩ := i1
    obtain ⟨b1, b2, b3⟩ := i2
    have l := lits "either" (by decide +kernel)
    have := p1 n
    refine ⟨by simp [D.ok, D.oks, a1, b1, l.2], by simp only [D.dp, D.dps]; omega, by rw [pw]; have := l.1; simp only [D.wt, D.wts] at this ⊢; omega⟩
  | @cond n a b c _ _ _ i1 i2 i3 =>
    obtain ⟨a1, a2, a3⟩ := i1
    obtain ⟨b1, b2, b3⟩ := i2
    obtain ⟨c1, c2, c3⟩ := i3
    have l := lits "if" (by decide +kernel)
    have := p1 n
    refine ⟨by simp [D.ok, D.oks, a1, b1, c1, l.2], by simp only [D.dp, D.dps]; omega, by rw [pw]; have := l.1; simp only [D.wt, D.wts] at this ⊢; omega⟩
  | @askN n sends b h1 _ h2 _ i1 i2 =>
    obtain ⟨b1, b2, b3⟩ := i2
    have l := lits "ask" (by decide +kernel)
    have := p1 n
    have s1 : D.oks (sends.map sD) = true := oks_of fun d hd => by
      obtain ⟨s, hs, rfl⟩ := List.mem_map.mp hd
      simp [sD, D.ok, D.oks, (h1 s hs).1, (i1 s hs).1]
    have s2 : D.dps (sends.map sD) ≤ 3 * n + 2 := dps_le fun d hd => by
      obtain ⟨s, hs, rfl⟩ := List.mem_map.mp hd
      have := (i1 s hs).2.1
      simp only [sD, D.dp, D.dps]; omega
    have s3 := wts_le (b := 700 * 5 ^ n - 200) (l := sends.map sD) fun d hd => by
      obtain ⟨s, hs, rfl⟩ := List.mem_map.mp hd
      have e1 := (i1 s hs).2.2
      have e2 := (h1 s hs).2
      simp only [sD, D.wt, D.wts]; omega
    rw [List.length_map] at s3
    have s4 : sends.length * (700 * 5 ^ n - 200) ≤ 3 * (700 * 5 ^ n - 200) := Nat.mul_le_mul_right _ h2
    refine ⟨by simp [D.ok, D.oks, s1, b1, l.2], by simp only [D.dp, D.dps]; omega, by rw [pw]; have := l.1; simp only [D.wt, D.wts] at this ⊢; omega⟩
  | @askF n sends b c h1 _ h2 _ _ i1 i2 i3 =>
    obtain ⟨b1, b2, b3⟩ := i2
    obtain ⟨c1, c2, c3⟩ := i3
    have l := lits "ask" (by decide +kernel)
    have := p1 n
    have s1 : D.oks (sends.map sD) = true := oks_of fun d hd => by
      obtain ⟨s, hs, rfl⟩ := List.mem_map.mp hd
      simp [sD, D.ok, D.oks, (h1 s hs).1, (i1 s hs).1]
    have s2 : D.dps (sends.map sD) ≤ 3 * n + 2 := dps_le fun d hd => by
      obtain ⟨s, hs, rfl⟩ := List.mem_map.mp hd
      have := (i1 s hs).2.1
      simp only [sD, D.dp, D.dps]; omega
    have s3 := wts_le (b := 700 * 5 ^ n - 200) (l := sends.map sD) fun d hd => by
      obtain ⟨s, hs, rfl⟩ := List.mem_map.mp hd
      have e1 := (i1 s hs).2.2
      have e2 := (h1 s hs).2
      simp only [sD, D.wt, D.wts]; omega
    rw [List.length_map] at s3
    have s4 : sends.length * (700 * 5 ^ n - 200) ≤ 3 * (700 * 5 ^ n - 200) := Nat.mul_le_mul_right _ h2
    refine ⟨by simp [D.ok, D.oks, s1, b1, c1, l.2], by simp only [D.dp, D.dps]; omega, by rw [pw]; have := l.1; simp only [D.wt, D.wts] at this ⊢; omega⟩
end TL
namespace TL
open PySem PySem.Spec PyProof.Rows L2
def t_law_b1 (_law_box : DSp) (_law_any_hook : DSp) (_law_body : DSp) (_law_take : DSp) (_law_world : DSp) (_law_all : DSp) (_law_greatest : DSp) (children : DSp) (_law_children : DSp) (count : DSp) (_law_at_path : DSp) : TDS :=
  (dSeq (dAsg 7 (dCall children (dCons (dVar 6) dNil)))
  (dSeq (dIfS (dOr (dTst (dOp (rdEq true) (dCB rdRepr (dCons (dVar 7) dNil)) (dCB rdRepr (dCons (dCall _law_children (dCons (dVar 6) dNil)) dNil)))) (dTst (dOp (rdEq true) (dCB rdRepr (dCons (dCall count (dCons (dVar 6) dNil)) dNil)) (dCB rdRepr (dCons (dCB rdLen (dCons (dCall _law_all (dCons (dVar 6) dNil)) dNil)) dNil)))))
  (dRet (dC (.bl false)))
  dNext)
  (dIfS (dTst (dOp (rdEq true) (dLc (dIt (dVar 7)) (gTp 2 (gsCons (gNm 8) (gsCons (gNm 9) gsNil))) (dTst (dOp (rdEq true) (dCall _law_at_path (dCons (dVar 6) (dCons (dVar 8) dNil))) (dVar 9))) (dC (.int 1)) [8, 9]) (dLst dNil)))
  (dRet (dC (.bl false)))
  dNext)))
def t_law_b2 (_law_box : DSp) (_law_any_hook : DSp) (_law_body : DSp) (_law_take : DSp) (_law_world : DSp) (_law_all : DSp) (_law_greatest : DSp) (children : DSp) (_law_children : DSp) (count : DSp) (_law_at_path : DSp) : TDS :=
  (dSeq (dAsg 5 (dCall _law_body (dCons (dVar 1) (dCons (dCall _law_world (dCons (dVar 3) dNil)) (dCons (dOp rdGt (dCall _law_take (dCons (dVar 1) (dCons (dC (.int 3)) dNil))) (dC (.int 0))) dNil)))))
  (dFor (dIt (dCall _law_all (dCons (dIf (dTst (dOp rdGt (dVar 4) (dC (.int 0)))) (dVar 5) (dCall _law_greatest dNil)) dNil))) (gNm 6)
  (t_law_b1 _law_box _law_any_hook _law_body _law_take _law_world _law_all _law_greatest children _law_children count _law_at_path)))
def t_law_b3 (_law_box : DSp) (_law_any_hook : DSp) (_law_body : DSp) (_law_take : DSp) (_law_world : DSp) (_law_all : DSp) (_law_greatest : DSp) (children : DSp) (_law_children : DSp) (count : DSp) (_law_at_path : DSp) : TDS :=
  (dSeq (dAsg 3 (dCall _law_any_hook (dCons (dVar 1) dNil)))
  (dFor (dRg1 (dC (.int 4))) (gNm 4)
  (t_law_b2 _law_box _law_any_hook _law_body _law_take _law_world _law_all _law_greatest children _law_children count _law_at_path)))
def t_law_r2 (_law_box : DSp) (_law_any_hook : DSp) (_law_body : DSp) (_law_take : DSp) (_law_world : DSp) (_law_all : DSp) (_law_greatest : DSp) (children : DSp) (_law_children : DSp) (count : DSp) (_law_at_path : DSp) : TDS :=
  (dRet (dOp (rdEq false) (dCall count (dCons (dCall _law_greatest dNil) dNil)) (dC (.int 25))))
def t_law_r1 (_law_box : DSp) (_law_any_hook : DSp) (_law_body : DSp) (_law_take : DSp) (_law_world : DSp) (_law_all : DSp) (_law_greatest : DSp) (children : DSp) (_law_children : DSp) (count : DSp) (_law_at_path : DSp) : TDS :=
  (dSeq (dFor (dRg1 (dC (.int 5))) (gNm 2)
  (t_law_b3 _law_box _law_any_hook _law_body _law_take _law_world _law_all _law_greatest children _law_children count _law_at_path))
  (t_law_r2 _law_box _law_any_hook _law_body _law_take _law_world _law_all _law_greatest children _law_children count _law_at_path))
def t_law (_law_box : DSp) (_law_any_hook : DSp) (_law_body : DSp) (_law_take : DSp) (_law_world : DSp) (_law_all : DSp) (_law_greatest : DSp) (children : DSp) (_law_children : DSp) (count : DSp) (_law_at_path : DSp) : TDS :=
  (dSeq (dAsg 1 (dCall _law_box (dCons (dVar 0) (dCons (dC (.int 0)) dNil))))
  (t_law_r1 _law_box _law_any_hook _law_body _law_take _law_world _law_all _law_greatest children _law_children count _law_at_path))
theorem st_law (ds : List D) : startD ["_law_script", "_law_box_here", "_law_turn", "_law_hook_here", "_law_more", "_law_body_here", "_law_tree", "_law_found", "_law_path", "_law_inner"] ds = ds.map some ++ List.replicate (10 - ds.length) none := rfl
theorem AllTr.oks {n : Nat} {l : List D} (h : AllTr n l) : D.oks l = true ∧ D.dps l ≤ 3 * n + 1 := ⟨oks_of fun d hd => (h d hd).good.1, dps_le fun d hd => (h d hd).good.2.1⟩
/-- a cell's list against [] -/
theorem ne_nil_cell {l : Nat} {xs : List D} {st : Sto} {Q : QD} (hc : st l = some (.lst xs)) (h : D.oks xs = true) (hd : D.dps xs < 64) (q : Q (.bl (decide (xs = []) != true)) st) : rdEq true (.ref l) (.lst []) st Q := by
  obtain ⟨ps, h1, h2, h3, h4, h5⟩ := oks_py xs h
  have hs : ∀ p : PyData, p.canLay0 = true → p.depth ≤ 64 → SeqAt.shaped p = true := fun p a b => by unfold SeqAt.shaped; rw [a, Bool.true_and]; exact decide_eq_true b
  refine ⟨.list ps, .list [], by unfold pyv; rw [look_lst hc]; simp [D.py, h1], by unfold pyv; simp [look, D.py, D.pys], hs _ (by simp [PyData.canLay0, h2]) (by simp only [PyData.depth]; omega), hs _ (by simp [PyData.canLay0, PyData.canLayAll0]) (by simp [PyData.depth, PyData.depthAll]), ?_⟩
  have e : PyData.eqv (.list ps) (.list []) = decide (xs = []) := by
    cases xs with
    | nil => simp only [D.pys] at h1; cases h1; simp [PyData.eqv, PyData.eqvAll]
    | cons x r =>
      cases ps with
      | nil => simp only [D.pys] at h1; split at h1 <;> cases h1
      | cons _ _ => simp [PyData.eqv, PyData.eqvAll]
  rw [e]; exact q
theorem rd_all {d : D} {k : Nat} {st : Sto} {Q : QD} (ht : Tr 6 d) (hk : Cn d k) (q : ∀ l : List D, l.length = k → AllTr 6 l → Q (.lst l) st) : t__law_all spKids (ends Q) [some d, none, none, none, none, none] st := by
  have hkb : k ≤ 40000 := by
    obtain ⟨k', h1, h2⟩ := ht.cn
    rw [hk.inj h1]
    exact Nat.le_trans h2 (by decide)
  simp only [t__law_all, dSeq, dAsg, dVar, dC, dCall, dCons, dNil, dOp, dUn, dTup, dLst, dLstM, dRet, dRetN, dNext, dDrop, dIfS, dTst, dAnd, dOr, dNot, dAndV, dOrV, dNotV, dIf, dPar, dPar3, dAsgG, gNm, gTp, gsCons, gsNil, dCB, dMt, dMt0, dSl, dPart, dNoPart, dKGet, dGet2, dDisp, dDispM, dpCons, dpNil, dFrz, dYes, rdSub, rdFdiv, rdMod, rdPow, rdLt, rdLe, rdGt, rdGe, rdAbs, rdMax, rdMin, rdI, rdI1, rdI2, rdNeg, rdInt, List.set_cons_zero, List.set_cons_succ, List.getElem?_cons_zero, List.getElem?_cons_succ, true_and, if_true, if_false, Bool.false_eq_true]
  refine ⟨Nat.zero_le _, fun f hf => ⟨by simp [sizeLine_eq], fun l hl => ?_⟩⟩
  have hfl : f ≠ l := by rintro rfl; rw [sup_same] at hl; cases hl
  rw [sup_ne (Ne.symm hfl)] at hl
  simp only [t__law_all_r1, dSeq, dAsg, dVar, dC, dCall, dCons, dNil, dOp, dUn, dTup, dLst, dLstM, dRet, dRetN, dNext, dDrop, dIfS, dTst, dAnd, dOr, dNot, dAndV, dOrV, dNotV, dIf, dPar, dPar3, dAsgG, gNm, gTp, gsCons, gsNil, dCB, dMt, dMt0, dSl, dPart, dNoPart, dKGet, dGet2, dDisp, dDispM, dpCons, dpNil, dFrz, dYes, rdSub, rdFdiv, rdMod, rdPow, rdLt, rdLe, rdGt, rdGe, rdAbs, rdMax, rdMin, rdI, rdI1, rdI2, rdNeg, rdInt, List.set_cons_zero, List.set_cons_succ, List.getElem?_cons_zero, List.getElem?_cons_succ, true_and, if_true, if_false, Bool.false_eq_true, dWhile]
  let W : Nat → DSt → Sto → Prop := fun m env s => ∃ (fs ls : List D) (c : Nat) (c3 c4 c5 : Option D), env = [some d, some (.ref f), some (.ref l), c3, c4, c5] ∧ s = sup (sup st f (.lst fs)) l (.lst ls) ∧ AllTr 6 fs ∧ AllTr 6 ls ∧ Cns ls c ∧ m = c ∧ fs.length + c = k
  refine ⟨W, ⟨k, [], [d], k, none, none, none, rfl, rfl, (fun x hx => by cases hx), (fun x hx => by rw [List.mem_singleton.mp hx]; exact ht), ?_, rfl, by simp⟩, ?_⟩
  · have := Cns.cons hk .nil
    simpa using this
  rintro m env s ⟨fs, ls, c, c3, c4, c5, rfl, rfl, h1, h2, h3, rfl, h5⟩
  have o := h2.oks
  have el : sup (sup st f (.lst fs)) l (.lst ls) l = some (.lst ls) := sup_same
  simp only [dSeq, dAsg, dVar, dC, dCall, dCons, dNil, dOp, dUn, dTup, dLst, dLstM, dRet, dRetN, dNext, dDrop, dIfS, dTst, dAnd, dOr, dNot, dAndV, dOrV, dNotV, dIf, dPar, dPar3, dAsgG, gNm, gTp, gsCons, gsNil, dCB, dMt, dMt0, dSl, dPart, dNoPart, dKGet, dGet2, dDisp, dDispM, dpCons, dpNil, dFrz, dYes, rdSub, rdFdiv, rdMod, rdPow, rdLt, rdLe, rdGt, rdGe, rdAbs, rdMax, rdMin, rdI, rdI1, rdI2, rdNeg, rdInt, List.set_cons_zero, List.set_cons_succ, List.getElem?_cons_zero, List.getElem?_cons_succ, true_and, if_true, if_false, Bool.false_eq_true]
  refine ⟨Nat.zero_le _, ne_nil_cell el o.1 (by omega) ?_⟩
  by_cases hn : ls = []
  · subst hn
    simp only [decide_true, bne_self_eq_false, Bool.false_eq_true, if_false]
    cases h3
    simp only [t__law_all_r2, dSeq, dAsg, dVar, dC, dCall, dCons, dNil, dOp, dUn, dTup, dLst, dLstM, dRet, dRetN, dNext, dDrop, dIfS, dTst, dAnd, dOr, dNot, dAndV, dOrV, dNotV, dIf, dPar, dPar3, dAsgG, gNm, gTp, gsCons, gsNil, dCB, dMt, dMt0, dSl, dPart, dNoPart, dKGet, dGet2, dDisp, dDispM, dpCons, dpNil, dFrz, dYes, rdSub, rdFdiv, rdMod, rdPow, rdLt, rdLe, rdGt, rdGe, rdAbs, rdMax, rdMin, rdI, rdI1, rdI2, rdNeg, rdInt, List.set_cons_zero, List.set_cons_succ, List.getElem?_cons_zero, List.getElem?_cons_succ, true_and, if_true, if_false, Bool.false_eq_true, frz, sup_ne hfl, sup_same]
    refine ⟨st, Sub.del (Sub.upd (Sub.new hf) hl) hf, q fs (by omega) h1⟩
  · simp only [hn, decide_false, Bool.false_bne, if_true]
    obtain ⟨r, x, rfl⟩ : ∃ r x, ls = r ++ [x] := ⟨ls.dropLast, ls.getLast hn, (List.dropLast_concat_getLast hn).symm⟩
    refine ⟨fun env s => ∃ m', m' < m ∧ W m' env s, fun env s h => h, ?_⟩
    obtain ⟨a, b, ha, hb, e⟩ := h3.split
    cases hb with
    | cons hx hnil =>
      cases hnil
      rename_i kx
      have hxt : Tr 6 x := h2 x (List.mem_append_right _ (List.mem_cons_self ..))
      obtain ⟨ks, k1, k2, k3⟩ := hxt.kids
      cases hx with
      | mk hk1 hk2 hk3 =>
        rename_i ks' ns
        cases hk1.inj k1
        have cn := cns_kids hk2 hk3
        simp only [t__law_all_b1, dSeq, dAsg, dVar, dC, dCall, dCons, dNil, dOp, dUn, dTup, dLst, dLstM, dRet, dRetN, dNext, dDrop, dIfS, dTst, dAnd, dOr, dNot, dAndV, dOrV, dNotV, dIf, dPar, dPar3, dAsgG, gNm, gTp, gsCons, gsNil, dCB, dMt, dMt0, dSl, dPart, dNoPart, dKGet, dGet2, dDisp, dDispM, dpCons, dpNil, dFrz, dYes, rdSub, rdFdiv, rdMod, rdPow, rdLt, rdLe, rdGt, rdGe, rdAbs, rdMax, rdMin, rdI, rdI1, rdI2, rdNeg, rdInt, List.set_cons_zero, List.set_cons_succ, List.getElem?_cons_zero, List.getElem?_cons_succ, true_and, if_true, if_false, Bool.false_eq_true]
        refine ⟨isL_ref el, pop_of el ?_⟩
        rw [sup_sup]
        refine ⟨isL_ref (by rw [sup_ne hfl, sup_same]), append_of (xs := fs) (by rw [sup_ne hfl, sup_same]) (by rw [sizeLine_eq]; omega) ?_⟩
        have e2 : sup (sup (sup st f (.lst fs)) l (.lst r)) f (.lst (fs ++ [x])) = sup (sup st f (.lst (fs ++ [x]))) l (.lst r) := by
          rw [sup_comm (n := l) (m := f) (Ne.symm hfl), sup_sup]
        rw [e2]
        refine ⟨isL_ref sup_same, ?_⟩
        simp only [dLc, dIt]
        refine ⟨x, ks, rfl, k1, ?_⟩
        simp only [itemsOf]
        refine all_comp (acc := []) (wipeD_len _ _) ks (by rw [List.length_nil]; omega) ?_
        have hr := ha.len
        refine extend_of sup_same rfl (by rw [List.nil_append, List.length_map, sizeLine_eq]; omega) ?_
        rw [sup_sup, List.nil_append]
        refine ⟨a + ns.sum, by omega, fs ++ [x], r ++ ks.map (·.2), a + ns.sum, _, _, _, rfl, rfl, fun y hy => ?_, fun y hy => ?_, ha.app cn, rfl, by rw [List.length_append, List.length_singleton]; omega⟩
        · rcases List.mem_append.mp hy with hy | hy
          · exact h1 y hy
          · rw [List.mem_singleton.mp hy]; exact hxt
        · rcases List.mem_append.mp hy with hy | hy
          · exact h2 y (List.mem_append_left _ hy)
          · obtain ⟨z, hz, rfl⟩ := List.mem_map.mp hy
            obtain ⟨m2, e3, t⟩ := k3 z hz
            exact t.mono (by omega)
/-! ### _law_greatest -/
def leastD : D := .tup [.str "most", .str "size", .int 3]
def eiD : D := .tup [.str "either", leastD, leastD]
def paD (x : Str) : D := .tup [.str "param", .str x]
def greatD : D := .tup [.str "if", .tup [.str "both", eiD, .tup [.str "not", eiD]],
  .tup [.str "ask", .tup [.tup [.str "size", .tup [.str "if", .tup [.str "both", leastD, leastD], .tup [.str "if", .tup [.str "not", leastD], paD "size", paD "size"], paD "size"]]],
    .tup [.str "if", .tup [.str "lacks"], .tup [.str "none"], paD "inner"], .non], .tup [.str "none"]]
def spGreat : DSp := fun ds st Q _ => ds = [] ∧ Q greatD st
theorem rd_great {st : Sto} {Q : QD} (q : Q greatD st) : t__law_greatest (ends Q) [none, none, none, none, none] st := by
  simp only [t__law_greatest, t__law_greatest_r1, t__law_greatest_r2, t__law_greatest_r3, t__law_greatest_r4, t__law_greatest_r5, dSeq, dAsg, dVar, dC, dCall, dCons, dNil, dOp, dUn, dTup, dLst, dLstM, dRet, dRetN, dNext, dDrop, dIfS, dTst, dAnd, dOr, dNot, dAndV, dOrV, dNotV, dIf, dPar, dPar3, dAsgG, gNm, gTp, gsCons, gsNil, dCB, dMt, dMt0, dSl, dPart, dNoPart, dKGet, dGet2, dDisp, dDispM, dpCons, dpNil, dFrz, dYes, rdSub, rdFdiv, rdMod, rdPow, rdLt, rdLe, rdGt, rdGe, rdAbs, rdMax, rdMin, rdI, rdI1, rdI2, rdNeg, rdInt, List.set_cons_zero, List.set_cons_succ, List.getElem?_cons_zero, List.getElem?_cons_succ, true_and, if_true, if_false, Bool.false_eq_true]
  repeat' (first | (refine ⟨by simp [sizeLine_eq], ?_⟩) | exact sb q)
theorem atm {x : Str} (h : okS x = true) (hl : x.length ≤ 10) : atom (.str x) := ⟨by simpa [D.ok] using h, by simp [D.dp], by simp only [D.wt]; omega⟩
theorem atmI {k : Int} (h1 : -1000 ≤ k) (h2 : k ≤ 1000) : atom (.int k) := ⟨by simp only [D.ok, decide_eq_true_eq]; omega, by simp [D.dp], by simp only [D.wt]; omega⟩
theorem tr_least : Tr 0 leastD := .l2 (.inr (.inl rfl)) (atm (by decide +kernel) (by decide +kernel)) (atmI (by decide) (by decide))
theorem tr_pa {x : Str} (h : okS x = true) (hl : x.length ≤ 10) : Tr 0 (paD x) := .l1 (.inr (.inr (.inl rfl))) (atm h hl)
theorem tr_great : Tr 6 greatD := by
  have l := tr_least
  have p := tr_pa (x := "size") (by decide +kernel) (by decide +kernel)
  have pi := tr_pa (x := "inner") (by decide +kernel) (by decide +kernel)
  have ei : Tr 1 eiD := .either l l
  have own : Tr 2 (.tup [.str "if", .tup [.str "not", leastD], paD "size", paD "size"]) := .cond (.not l) (p.mono (by decide)) (p.mono (by decide))
  have sent : Tr 3 (.tup [.str "if", .tup [.str "both", leastD, leastD], .tup [.str "if", .tup [.str "not", leastD], paD "size", paD "size"], paD "size"]) := .cond ((Tr.both l l).mono (by decide)) own (p.mono (by decide))
  have turned : Tr 1 (.tup [.str "if", .tup [.str "lacks"], .tup [.str "none"], paD "inner"]) := .cond (.l0 (.inr rfl)) (.l0 (.inl rfl)) pi
  have ask : Tr 4 (.tup [.str "ask", .tup ([(("size" : Str), D.tup [.str "if", .tup [.str "both", leastD, leastD], .tup [.str "if", .tup [.str "not", leastD], paD "size", paD "size"], paD "size"])].map sD), .tup [.str "if", .tup [.str "lacks"], .tup [.str "none"], paD "inner"], .non]) :=
    .askN (fun s hs => by rw [List.mem_singleton.mp hs]; exact ⟨by decide +kernel, by decide +kernel⟩) (fun s hs => by rw [List.mem_singleton.mp hs]; exact sent) (by decide) (turned.mono (by decide))
  have tst : Tr 3 (.tup [.str "both", eiD, .tup [.str "not", eiD]]) := .both (ei.mono (by decide)) (.not ei)
  have all : Tr 5 greatD := .cond (tst.mono (by decide)) ask (.l0 (.inl rfl))
  exact all.mono (by decide)
/-! ### drawn trees are trees -/
theorem vars_atm {ps : Prs} {inner : Option Str} (h : PsOk ps) : ∀ p ∈ vars ps inner, atom (.str p.1) := fun p hp => by
  refine atm (vars_ok h p hp) ?_
  rcases List.mem_append.mp hp with hp | hp
  · have := (h.ok p hp).1.2.1
    omega
  · cases inner with
    | none => cases hp
    | some s =>
      simp only [List.mem_cons, List.not_mem_nil, or_false] at hp
      rcases hp with rfl | rfl <;> exact (by decide +kernel : (("inner" : Str)).length ≤ 10)
theorem words_atm : ∀ w ∈ wordsV, atom (.str w) := fun w hw => by
  have : ∀ w ∈ wordsV, okS w = true ∧ w.length ≤ 10 := by decide +kernel
  exact atm (this w hw).1 (this w hw).2
theorem fails_atm : ∀ w ∈ failW, atom (.str w) := fun w hw => by
  have : ∀ w ∈ failW, okS w = true ∧ w.length ≤ 10 := by decide +kernel
  exact atm (this w hw).1 (this w hw).2
theorem Tst.tr {ps : Prs} {inner : Option Str} (hp : PsOk ps) {n : Nat} {d : D} (h : Tst ps inner n d) : Tr n d := by
  induction h with
  | lacks _ => exact .l0 (.inr rfl)
  | most h a b => exact .l2 (.inr (.inl rfl)) (vars_atm hp _ h) (atmI a b)
  | is h a => exact .l2 (.inr (.inr rfl)) (vars_atm hp _ h) (words_atm _ a)
  | not _ ih => exact .not ih
  | both _ _ i1 i2 => exact .both i1 i2
  | either _ _ i1 i2 => exact .either i1 i2
theorem Ex.tr {ps : Prs} {sort : Str} {inner : Option Str} {sent : Bool} (hp : PsOk ps) {n : Nat} {d : D} (h : Ex ps sort inner sent n d) : Tr (n + 1) d := by
  induction h with
  | none _ => exact .l0 (.inl rfl)
  | fail _ a => exact .l1 (.inr (.inr (.inr rfl))) (fails_atm _ a)
  | plus _ h a b => exact .l2 (.inl rfl) (vars_atm hp _ h) (atmI a b)
  | param h => exact .l1 (.inr (.inr (.inl rfl))) (vars_atm hp _ h)
  | number _ a b => exact .l1 (.inl rfl) (atmI a b)
  | word _ a => exact .l1 (.inr (.inl rfl)) (words_atm _ a)
  | cond t _ _ i1 i2 => exact .cond ((t.tr hp).mono (by omega)) i1 i2
theorem Bd.tr {ps : Prs} {gv : Str} (hp : PsOk ps) {n : Nat} {d : D} (h : Bd ps gv n d) : Tr (n + 3) d := by
  induction h with
  | ex h => exact (h.tr hp).mono (by omega)
  | @ask n sends turned failing h1 h2 h3 h4 h5 =>
    have a1 : ∀ s ∈ sends, okS s.1 = true ∧ s.1.length ≤ 8 := fun s hs => by
      obtain ⟨srt, h, _⟩ := h1 s hs
      exact ⟨okNm (hp.ok _ h).1, (hp.ok _ h).1.2.1⟩
    have a2 : ∀ s ∈ sends, Tr (n + 2) s.2 := fun s hs => by
      obtain ⟨srt, _, h⟩ := h1 s hs
      exact (h.tr hp).mono (by omega)
    rcases h5 with rfl | h5
    · exact .askN a1 a2 h3 ((h4.tr hp).mono (by omega))
    · exact .askF a1 a2 h3 ((h4.tr hp).mono (by omega)) ((h5.tr hp).mono (by omega))
  | cond t _ _ i1 i2 => exact .cond ((t.tr hp).mono (by omega)) i1 i2
/-! ### _law_at_path -/
def pth : D → List D → D → Prop
  | d, [], c => c = d
  | .tup xs, .int i :: r, c => ∃ e, atI xs i = some e ∧ pth e r c
  | _, _, _ => False
theorem send_at : ∀ (l : List (Str × D)) (k : Nat) (x : D × D), x ∈ sendKids (k : Int) l → ∃ (j : Nat) (s : Str × D), x = (.tup [.int 1, .int ((k + j : Nat) : Int), .int 1], s.2) ∧ l[j]? = some s
  | [], k, x, h => by simp [sendKids] at h
  | s :: r, k, x, h => by
    simp only [sendKids, List.mem_cons] at h
    rcases h with rfl | h
    · exact ⟨0, s, by simp, rfl⟩
    · have e : ((k : Int) + 1) = ((k + 1 : Nat) : Int) := by omega
      rw [e] at h
      obtain ⟨j, t, e1, e2⟩ := send_at r (k + 1) x h
      exact ⟨j + 1, t, by rw [e1]; simp; omega, by simpa using e2⟩
theorem atI_get {α : Type} {xs : List α} {j : Nat} {x : α} (h : xs[j]? = some x) : atI xs (j : Int) = some x := by
  have hj : j < xs.length := (List.getElem?_eq_some_iff.mp h).1
  unfold atI ixN
  rw [if_pos (by omega), if_pos (by omega)]
  show xs[(j : Int).toNat]? = _
  rw [Int.toNat_natCast]; exact h
theorem Kids.pth {d : D} {ks : List (D × D)} (h : Kids d ks) : ∀ k ∈ ks, ∃ is, k.1 = .tup is ∧ TL.pth d is k.2 := by
  have snd : ∀ (sends : List (Str × D)) (b c : D), ∀ k ∈ sendKids 0 sends, ∃ is, k.1 = .tup is ∧ TL.pth (.tup [.str "ask", .tup (sends.map sD), b, c]) is k.2 := fun sends b c k hk => by
    obtain ⟨j, s, e, hs⟩ := send_at sends 0 k hk
    subst e
    refine ⟨_, rfl, .tup (sends.map sD), atI_1, sD s, ?_, s.2, atI_1, rfl⟩
    rw [Nat.zero_add]
    exact atI_get (by rw [List.getElem?_map, hs]; rfl)
  cases h with
  | l0 h => intro k hk; cases hk
  | l1 h => intro k hk; cases hk
  | l2 h => intro k hk; cases hk
  | not =>
    intro k hk
    rw [List.mem_singleton.mp hk]
    exact ⟨_, rfl, _, atI_1, rfl⟩
  | both =>
    intro k hk
    simp only [List.mem_cons, List.not_mem_nil, or_false] at hk
    rcases hk with rfl | rfl
    · exact ⟨_, rfl, _, atI_1, rfl⟩
    · exact ⟨_, rfl, _, atI_2, rfl⟩
  | either =>
    intro k hk
    simp only [List.mem_cons, List.not_mem_nil, or_false] at hk
    rcases hk with rfl | rfl
    · exact ⟨_, rfl, _, atI_1, rfl⟩
    · exact ⟨_, rfl, _, atI_2, rfl⟩
  | cond =>
    intro k hk
    simp only [List.mem_cons, List.not_mem_nil, or_false] at hk
    rcases hk with rfl | rfl | rfl
    · exact ⟨_, rfl, _, atI_1, rfl⟩
    · exact ⟨_, rfl, _, atI_2, rfl⟩
    · exact ⟨_, rfl, _, atI_3, rfl⟩
  | askN hl =>
    intro k hk
    rcases List.mem_append.mp hk with hk | hk
    · exact snd _ _ _ k hk
    · rw [List.mem_singleton.mp hk]; exact ⟨_, rfl, _, atI_2, rfl⟩
  | askF hl =>
    intro k hk
    rcases List.mem_append.mp hk with hk | hk
    · rcases List.mem_append.mp hk with hk | hk
      · exact snd _ _ _ k hk
      · rw [List.mem_singleton.mp hk]; exact ⟨_, rfl, _, atI_2, rfl⟩
    · rw [List.mem_singleton.mp hk]; exact ⟨_, rfl, _, atI_3, rfl⟩
theorem Kids.path_ok {d : D} {ks : List (D × D)} (h : Kids d ks) : ∀ k ∈ ks, k.1.ok = true ∧ k.1.dp ≤ 1 ∧ k.1.wt ≤ 60 := by
  have p1 : ∀ i : Int, i.natAbs < 1000000000 → (D.tup [.int i]).ok = true ∧ (D.tup [.int i]).dp ≤ 1 ∧ (D.tup [.int i]).wt ≤ 60 := fun i hi => ⟨by simp [D.ok, D.oks, hi], by simp [D.dp, D.dps], by simp [D.wt, D.wts]⟩
  have snd : ∀ (sends : List (Str × D)), sends.length ≤ 3 → ∀ k ∈ sendKids 0 sends, k.1.ok = true ∧ k.1.dp ≤ 1 ∧ k.1.wt ≤ 60 := fun sends hl k hk => by
    obtain ⟨j, s, e, hs⟩ := send_at sends 0 k hk
    have hj : j < sends.length := (List.getElem?_eq_some_iff.mp hs).1
    subst e
    have : ((0 + j : Nat) : Int).natAbs < 1000000000 := by omega
    exact ⟨by simp only [D.ok, D.oks, this, decide_true]; decide, by simp [D.dp, D.dps], by simp [D.wt, D.wts]⟩
  cases h with
  | l0 h => intro k hk; cases hk
  | l1 h => intro k hk; cases hk
  | l2 h => intro k hk; cases hk
  | not =>
    intro k hk
    rw [List.mem_singleton.mp hk]
    exact p1 1 (by decide)
  | both =>
    intro k hk
    simp only [List.mem_cons, List.not_mem_nil, or_false] at hk
    rcases hk with rfl | rfl
    · exact p1 1 (by decide)
    · exact p1 2 (by decide)
  | either =>
    intro k hk
    simp only [List.mem_cons, List.not_mem_nil, or_false] at hk
    rcases hk with rfl | rfl
    · exact p1 1 (by decide)
    · exact p1 2 (by decide)
  | cond =>
    intro k hk
    simp only [List.mem_cons, List.not_mem_nil, or_false] at hk
    rcases hk with rfl | rfl | rfl
    · exact p1 1 (by decide)
    · exact p1 2 (by decide)
    · exact p1 3 (by decide)
  | askN hl =>
    intro k hk
    rcases List.mem_append.mp hk with hk | hk
    · exact snd _ hl k hk
    · rw [List.mem_singleton.mp hk]; exact p1 2 (by decide)
  | askF hl =>
    intro k hk
    rcases List.mem_append.mp hk with hk | hk
    · rcases List.mem_append.mp hk with hk | hk
      · exact snd _ hl k hk
      · rw [List.mem_singleton.mp hk]; exact p1 2 (by decide)
    · rw [List.mem_singleton.mp hk]; exact p1 3 (by decide)
def spAt : DSp := fun ds st Q _ => ∃ d is c, ds = [d, .tup is] ∧ pth d is c ∧ Q c st
theorem at_loop {R : DEnds} {st : Sto} {p c : D} : ∀ (is : List D) (d : D) (c2 : Option D), pth d is c → (∀ c2, R.nx [some c, some p, c2] st) → dLoop (gNm 2) t__law_at_path_b1 R is [some d, some p, c2] st
  | [], d, c2, h, q => by
    have h : c = d := h
    subst h
    exact q c2
  | x :: is, d, c2, h, q => by
    cases d with
    | tup xs => cases x with
      | int i =>
        obtain ⟨e, h1, h2⟩ := h
        simp only [dLoop, t__law_at_path_b1, dSeq, dAsg, dVar, dC, dCall, dCons, dNil, dOp, dUn, dTup, dLst, dLstM, dRet, dRetN, dNext, dDrop, dIfS, dTst, dAnd, dOr, dNot, dAndV, dOrV, dNotV, dIf, dPar, dPar3, dAsgG, gNm, gTp, gsCons, gsNil, dCB, dMt, dMt0, dSl, dPart, dNoPart, dKGet, dGet2, dDisp, dDispM, dpCons, dpNil, dFrz, dYes, rdSub, rdFdiv, rdMod, rdPow, rdLt, rdLe, rdGt, rdGe, rdAbs, rdMax, rdMin, rdI, rdI1, rdI2, rdNeg, rdInt, List.set_cons_zero, List.set_cons_succ, List.getElem?_cons_zero, List.getElem?_cons_succ, true_and, if_true, if_false, Bool.false_eq_true, rdIx_nf, look, h1, onS_some]
        exact at_loop is e _ h2 q
      | _ => simp [pth] at h
    | _ => simp [pth] at h
theorem rd_at {d c : D} {is : List D} {st : Sto} {Q : QD} (h : pth d is c) (q : Q c st) : t__law_at_path (ends Q) [some d, some (.tup is), none] st := by
  simp only [t__law_at_path, dSeq, dAsg, dVar, dC, dCall, dCons, dNil, dOp, dUn, dTup, dLst, dLstM, dRet, dRetN, dNext, dDrop, dIfS, dTst, dAnd, dOr, dNot, dAndV, dOrV, dNotV, dIf, dPar, dPar3, dAsgG, gNm, gTp, gsCons, gsNil, dCB, dMt, dMt0, dSl, dPart, dNoPart, dKGet, dGet2, dDisp, dDispM, dpCons, dpNil, dFrz, dYes, rdSub, rdFdiv, rdMod, rdPow, rdLt, rdLe, rdGt, rdGe, rdAbs, rdMax, rdMin, rdI, rdI1, rdI2, rdNeg, rdInt, List.set_cons_zero, List.set_cons_succ, List.getElem?_cons_zero, List.getElem?_cons_succ, true_and, if_true, if_false, Bool.false_eq_true, dFor, dIt, itemsOf]
  refine at_loop is d _ h fun c2 => ?_
  exact sb q
/-! ### the law -/
theorem great_cn : Cn greatD 25 := by
  obtain ⟨k, h, _⟩ := tr_great.cn
  have leaf : ∀ {d : D}, Kids d [] → Cn d 1 := fun h => Cn.mk (ns := []) h rfl fun i h => absurd h (Nat.not_lt_zero _)
  have one : ∀ {d a p : D} {x : Nat}, Kids d [(p, a)] → Cn a x → Cn d (x + 1) := fun {d a p x} h ha => by
    have := Cn.mk (ns := [x]) h rfl fun i hi => by
      have : i = 0 := by simp at hi; exact hi
      subst this; exact ha
    have e : 1 + [x].sum = x + 1 := by simp; omega
    rw [e] at this; exact this
  have two : ∀ {d a b p r : D} {x y : Nat}, Kids d [(p, a), (r, b)] → Cn a x → Cn b y → Cn d (x + y + 1) := fun {d a b p r x y} h ha hb => by
    have := Cn.mk (ns := [x, y]) h rfl fun i hi => by
      match i, hi with
      | 0, _ => exact ha
      | 1, _ => exact hb
    have e : 1 + [x, y].sum = x + y + 1 := by simp; omega
    rw [e] at this; exact this
  have three : ∀ {d a b c p r s : D} {x y z : Nat}, Kids d [(p, a), (r, b), (s, c)] → Cn a x → Cn b y → Cn c z → Cn d (x + y + z + 1) := fun {d a b c p r s x y z} h ha hb hc => by
    have := Cn.mk (ns := [x, y, z]) h rfl fun i hi => by
      match i, hi with
      | 0, _ => exact ha
      | 1, _ => exact hb
      | 2, _ => exact hc
    have e : 1 + [x, y, z].sum = x + y + z + 1 := by simp; omega
    rw [e] at this; exact this
  have l : Cn leastD 1 := leaf (.l2 (.inr (.inl rfl)))
  have p : ∀ x, Cn (paD x) 1 := fun x => leaf (.l1 (.inr (.inr (.inl rfl))))
  have ei : Cn eiD 3 := two .either l l
  have no : Cn (.tup [.str "none"]) 1 := leaf (.l0 (.inl rfl))
  have la : Cn (.tup [.str "lacks"]) 1 := leaf (.l0 (.inr rfl))
  have tst : Cn (.tup [.str "both", eiD, .tup [.str "not", eiD]]) 8 := two .both ei (one .not ei)
  have own : Cn (.tup [.str "if", .tup [.str "not", leastD], paD "size", paD "size"]) 5 := three .cond (one .not l) (p _) (p _)
  have sent : Cn (.tup [.str "if", .tup [.str "both", leastD, leastD], .tup [.str "if", .tup [.str "not", leastD], paD "size", paD "size"], paD "size"]) 10 := three .cond (two .both l l) own (p _)
  have turned : Cn (.tup [.str "if", .tup [.str "lacks"], .tup [.str "none"], paD "inner"]) 4 := three .cond la no (p _)
  have ask := two (Kids.askN (sends := [(("size" : Str), D.tup [.str "if", .tup [.str "both", leastD, leastD], .tup [.str "if", .tup [.str "not", leastD], paD "size", paD "size"], paD "size"])]) (b := .tup [.str "if", .tup [.str "lacks"], .tup [.str "none"], paD "inner"]) (by decide)) sent turned
  exact three .cond tst ask no
theorem pair_comp {d : D} {env : DSt} {st : Sto} {Q : List D → Sto → Prop} (hl : env.length = 10) (h6 : env[6]? = some (some d)) : ∀ (ks : List (D × D)), (∀ k ∈ ks, (∃ is, k.1 = .tup is ∧ pth d is k.2) ∧ k.2.ok = true ∧ k.2.dp ≤ 64) → Q [] st →
    dLcGo (gTp 2 (gsCons (gNm 8) (gsCons (gNm 9) gsNil))) (dTst (dOp (rdEq true) (dCall spAt (dCons (dVar 6) (dCons (dVar 8) dNil))) (dVar 9))) (dC (.int 1)) env (ks.map kD) [] st Q
  | [], _, h => h
  | k :: ks, hk, h => by
    have g6 : ∀ a b : D, ((env.set 8 (some a)).set 9 (some b))[6]? = some (some d) := fun a b => by rw [List.getElem?_set_ne (by decide), List.getElem?_set_ne (by decide)]; exact h6
    have g8 : ∀ a b : D, ((env.set 8 (some a)).set 9 (some b))[8]? = some (some a) := fun a b => by rw [List.getElem?_set_ne (by decide), List.getElem?_set_self (by omega)]
    have g9 : ∀ a b : D, ((env.set 8 (some a)).set 9 (some b))[9]? = some (some b) := fun a b => by rw [List.getElem?_set_self (by rw [List.length_set]; omega)]
    obtain ⟨⟨is, e, hp⟩, o1, o2⟩ := hk k (List.mem_cons_self ..)
    simp only [List.map_cons, dLcGo, kD, dSeq, dAsg, dVar, dC, dCall, dCons, dNil, dOp, dUn, dTup, dLst, dLstM, dRet, dRetN, dNext, dDrop, dIfS, dTst, dAnd, dOr, dNot, dAndV, dOrV, dNotV, dIf, dPar, dPar3, dAsgG, gNm, gTp, gsCons, gsNil, dCB, dMt, dMt0, dSl, dPart, dNoPart, dKGet, dGet2, dDisp, dDispM, dpCons, dpNil, dFrz, dYes, rdSub, rdFdiv, rdMod, rdPow, rdLt, rdLe, rdGt, rdGe, rdAbs, rdMax, rdMin, rdI, rdI1, rdI2, rdNeg, rdInt, List.set_cons_zero, List.set_cons_succ, List.getElem?_cons_zero, List.getElem?_cons_succ, true_and, if_true, if_false, Bool.false_eq_true, g6, g8, g9, e]
    refine ⟨rfl, d, is, k.2, rfl, hp, ?_⟩
    refine eq_same o1 o2 ?_
    simp only [bne_self_eq_false, Bool.false_eq_true, if_false]
    exact pair_comp hl h6 ks (fun x hx => hk x (List.mem_cons_of_mem _ hx)) h
def spLaw11 : DSp := fun ds st Q _ => ∃ ns, ds = [.scr ns] ∧ ns.length < 1000 ∧ ∀ st', Q (.bl true) st'
abbrev L11 (R : DEnds) : DSt → Sto → Prop := fun e s => t_law_b1 spBox spAny spBody spTake spWorld spAll spGreat spKids spKids (spCount 7) spAt R e s
/-- one tree: the two ways agree -/
theorem law_tree {R : DEnds} {x0 x1 x2 x3 x4 x5 x7 x8 x9 : Option D} {d : D} {st : Sto} (ht : Tr 6 d) (h : ∀ y7, R.nx [x0, x1, x2, x3, x4, x5, some d, y7, x8, x9] st) : L11 R [x0, x1, x2, x3, x4, x5, some d, x7, x8, x9] st := by
  obtain ⟨ks, k1, k2, k3⟩ := ht.kids
  obtain ⟨k, c1, c2⟩ := ht.cn
  have good : ∀ x ∈ ks, x.2.ok = true ∧ x.2.dp ≤ 16 ∧ x.2.wt + 300 ≤ 700 * 5 ^ 5 := fun x hx => by
    obtain ⟨m, e, t⟩ := k3 x hx
    have : m = 5 := by omega
    subst this
    exact t.good
  have pOk := k1.path_ok
  have o1 : (D.tup (ks.map kD)).ok = true := by
    simp only [D.ok]
    refine oks_of fun y hy => ?_
    obtain ⟨x, hx, rfl⟩ := List.mem_map.mp hy
    simp [kD, D.ok, D.oks, (good x hx).1, (pOk x hx).1]
  have o2 : (D.tup (ks.map kD)).dp ≤ 64 := by
    simp only [D.dp]
    have := dps_le (b := 20) (l := ks.map kD) fun y hy => by
      obtain ⟨x, hx, rfl⟩ := List.mem_map.mp hy
      have a := (good x hx).2.1
      have b := (pOk x hx).2.1
      simp only [kD, D.dp, D.dps]; omega
    omega
  have o3 : (D.tup (ks.map kD)).wt ≤ 16777216 := by
    simp only [D.wt]
    have := wts_le (b := 700 * 5 ^ 5) (l := ks.map kD) fun y hy => by
      obtain ⟨x, hx, rfl⟩ := List.mem_map.mp hy
      have a := (good x hx).2.2
      have b := (pOk x hx).2.2
      simp only [kD, D.wt, D.wts]; omega
    rw [List.length_map] at this
    have : ks.length * (700 * 5 ^ 5) ≤ 5 * (700 * 5 ^ 5) := Nat.mul_le_mul_right _ k2
    omega
  simp only [L11, t_law_b1, dSeq, dAsg, dVar, dC, dCall, dCons, dNil, dOp, dUn, dTup, dLst, dLstM, dRet, dRetN, dNext, dDrop, dIfS, dTst, dAnd, dOr, dNot, dAndV, dOrV, dNotV, dIf, dPar, dPar3, dAsgG, gNm, gTp, gsCons, gsNil, dCB, dMt, dMt0, dSl, dPart, dNoPart, dKGet, dGet2, dDisp, dDispM, dpCons, dpNil, dFrz, dYes, rdSub, rdFdiv, rdMod, rdPow, rdLt, rdLe, rdGt, rdGe, rdAbs, rdMax, rdMin, rdI, rdI1, rdI2, rdNeg, rdInt, List.set_cons_zero, List.set_cons_succ, List.getElem?_cons_zero, List.getElem?_cons_succ, true_and, if_true, if_false, Bool.false_eq_true]
  refine ⟨d, ks, rfl, k1, ?_⟩
  refine repr_tup o1 o2 o3 fun p hp => ?_
  refine ⟨d, ks, rfl, k1, ?_⟩
  refine repr_tup o1 o2 o3 fun p' hp' => ?_
  have ep : p = p' := Option.some.inj (hp.symm.trans hp')
  subst ep
  simp only [rdEq, decide_true, bne_self_eq_false, Bool.false_eq_true, if_false]
  have hkb : k ≤ 40000 := Nat.le_trans c2 (by decide)
  refine ⟨6, d, k, rfl, ht, by decide, c1, ?_⟩
  refine repr_int (by omega) ?_
  refine ⟨d, k, rfl, ht, c1, fun l hl hal => ?_⟩
  simp only [rdLen, look]
  refine repr_int (by omega) ?_
  rw [hl]
  simp only [decide_true, bne_self_eq_false, Bool.false_eq_true, if_false, dLc, dIt, itemsOf, List.getElem?_cons_zero, List.getElem?_cons_succ]
  refine pair_comp (d := d) (wipeD_len _ _) rfl ks (fun x hx => ⟨k1.pth x hx, (good x hx).1, by have := (good x hx).2.1; omega⟩) ?_
  refine ⟨Nat.zero_le _, .list [], .list [], by unfold pyv; simp [look, D.py, D.pys], by unfold pyv; simp [look, D.py, D.pys], by decide +kernel, by decide +kernel, ?_⟩
  rw [if_neg (by decide +kernel)]
  exact h _
theorem law_trees {R : DEnds} {x0 x1 x2 x3 x4 x5 x8 x9 : Option D} {st : Sto} : ∀ (l : List D) (x6 x7 : Option D), AllTr 6 l → (∀ y6 y7, R.nx [x0, x1, x2, x3, x4, x5, y6, y7, x8, x9] st) → dLoop (gNm 6) (t_law_b1 spBox spAny spBody spTake spWorld spAll spGreat spKids spKids (spCount 7) spAt) R l [x0, x1, x2, x3, x4, x5, x6, x7, x8, x9] st
  | [], x6, x7, _, h => h x6 x7
  | d :: l, x6, x7, ha, h => law_tree (ha d (List.mem_cons_self ..)) fun y7 => law_trees l _ _ (fun x hx => ha x (List.mem_cons_of_mem _ hx)) h
theorem law_more {R : DEnds} {x0 x2 x8 x9 : Option D} {b : Nat} {kind : Str} {es ls : List Prm} {outs : Str} (hk : HookOk es ls outs) : ∀ (k : Nat) (i : Int) (x4 x5 x6 x7 : Option D) (st : Sto), st b = some .box → (∀ y4 y5 y6 y7 st, st b = some .box → R.nx [x0, some (.ref b), x2, some (hookD "shade" kind es ls outs), y4, y5, y6, y7, x8, x9] st) →
    dLoop (gNm 4) (t_law_b2 spBox spAny spBody spTake spWorld spAll spGreat spKids spKids (spCount 7) spAt) R (rangeD i k) [x0, some (.ref b), x2, some (hookD "shade" kind es ls outs), x4, x5, x6, x7, x8, x9] st
  | 0, i, x4, x5, x6, x7, st, hb, h => h x4 x5 x6 x7 st hb
  | k + 1, i, x4, x5, x6, x7, st, hb, h => by
    simp only [rangeD_succ, dLoop, t_law_b2, dSeq, dAsg, dVar, dC, dCall, dCons, dNil, dOp, dUn, dTup, dLst, dLstM, dRet, dRetN, dNext, dDrop, dIfS, dTst, dAnd, dOr, dNot, dAndV, dOrV, dNotV, dIf, dPar, dPar3, dAsgG, gNm, gTp, gsCons, gsNil, dCB, dMt, dMt0, dSl, dPart, dNoPart, dKGet, dGet2, dDisp, dDispM, dpCons, dpNil, dFrz, dYes, rdSub, rdFdiv, rdMod, rdPow, rdLt, rdLe, rdGt, rdGe, rdAbs, rdMax, rdMin, rdI, rdI1, rdI2, rdNeg, rdInt, List.set_cons_zero, List.set_cons_succ, List.getElem?_cons_zero, List.getElem?_cons_succ, true_and, if_true, if_false, Bool.false_eq_true]
    refine ⟨"shade", kind, es, ls, outs, rfl, hk, fun w ps hp _ hw => ?_⟩
    have hbw : b ≠ w := by rintro rfl; rw [hb] at hw; cases hw
    refine ⟨b, _, rfl, by decide, by decide, by rw [sup_ne hbw]; exact hb, fun r _ _ => ?_⟩
    refine ⟨b, w, _, ps, outs, 10, 4, rfl, hk.outs, hp, by rw [sup_ne hbw]; exact hb, sup_same, fun d t' p' hd => ?_⟩
    rw [sup_sup]
    have ht : Tr 6 d := (hd.tr hp).mono (by decide)
    have hb' : sup st w (wD ps outs t' p') b = some .box := by rw [sup_ne hbw]; exact hb
    simp only [dFor, dIt, dSeq, dAsg, dVar, dC, dCall, dCons, dNil, dOp, dUn, dTup, dLst, dLstM, dRet, dRetN, dNext, dDrop, dIfS, dTst, dAnd, dOr, dNot, dAndV, dOrV, dNotV, dIf, dPar, dPar3, dAsgG, gNm, gTp, gsCons, gsNil, dCB, dMt, dMt0, dSl, dPart, dNoPart, dKGet, dGet2, dDisp, dDispM, dpCons, dpNil, dFrz, dYes, rdSub, rdFdiv, rdMod, rdPow, rdLt, rdLe, rdGt, rdGe, rdAbs, rdMax, rdMin, rdI, rdI1, rdI2, rdNeg, rdInt, List.set_cons_zero, List.set_cons_succ, List.getElem?_cons_zero, List.getElem?_cons_succ, true_and, if_true, if_false, Bool.false_eq_true]
    have go : ∀ (l : List D), AllTr 6 l → dLoop (gNm 6) (t_law_b1 spBox spAny spBody spTake spWorld spAll spGreat spKids spKids (spCount 7) spAt) { R with nx := dLoop (gNm 4) (t_law_b2 spBox spAny spBody spTake spWorld spAll spGreat spKids spKids (spCount 7) spAt) R (rangeD (i + 1) k), ct := dLoop (gNm 4) (t_law_b2 spBox spAny spBody spTake spWorld spAll spGreat spKids spKids (spCount 7) spAt) R (rangeD (i + 1) k), bk := R.nx } l [x0, some (.ref b), x2, some (hookD "shade" kind es ls outs), some (.int i), some d, x6, x7, x8, x9] (sup st w (wD ps outs t' p')) := fun l hl =>
      law_trees l _ _ hl fun y6 y7 => law_more hk k (i + 1) _ _ _ _ _ hb' h
    have call : ∀ e : D, Tr 6 e → spAll [e] (sup st w (wD ps outs t' p')) (fun z st1 => match itemsOf z with
      | some ds => dLoop (gNm 6) (t_law_b1 spBox spAny spBody spTake spWorld spAll spGreat spKids spKids (spCount 7) spAt) { R with nx := dLoop (gNm 4) (t_law_b2 spBox spAny spBody spTake spWorld spAll spGreat spKids spKids (spCount 7) spAt) R (rangeD (i + 1) k), ct := dLoop (gNm 4) (t_law_b2 spBox spAny spBody spTake spWorld spAll spGreat spKids spKids (spCount 7) spAt) R (rangeD (i + 1) k), bk := R.nx } ds [x0, some (.ref b), x2, some (hookD "shade" kind es ls outs), some (.int i), some d, x6, x7, x8, x9] st1
      | none => False) (fun _ _ _ => False) := fun e he => by
      obtain ⟨c, hc, _⟩ := he.cn
      exact ⟨e, c, rfl, he, hc, fun l _ hl => go l hl⟩
    exact ite2 (fun _ => call d ht) (fun _ => ⟨rfl, call greatD tr_great⟩)
theorem law_turns {R : DEnds} {x0 x8 x9 : Option D} {b : Nat} : ∀ (k : Nat) (i : Int) (x2 x3 x4 x5 x6 x7 : Option D) (st : Sto), st b = some .box → (∀ y2 y3 y4 y5 y6 y7 st, R.nx [x0, some (.ref b), y2, y3, y4, y5, y6, y7, x8, x9] st) →
    dLoop (gNm 2) (t_law_b3 spBox spAny spBody spTake spWorld spAll spGreat spKids spKids (spCount 7) spAt) R (rangeD i k) [x0, some (.ref b), x2, x3, x4, x5, x6, x7, x8, x9] st
  | 0, i, x2, x3, x4, x5, x6, x7, st, hb, h => h _ _ _ _ _ _ st
  | k + 1, i, x2, x3, x4, x5, x6, x7, st, hb, h => by
    simp only [rangeD_succ, dLoop, t_law_b3, dSeq, dAsg, dVar, dC, dCall, dCons, dNil, dOp, dUn, dTup, dLst, dLstM, dRet, dRetN, dNext, dDrop, dIfS, dTst, dAnd, dOr, dNot, dAndV, dOrV, dNotV, dIf, dPar, dPar3, dAsgG, gNm, gTp, gsCons, gsNil, dCB, dMt, dMt0, dSl, dPart, dNoPart, dKGet, dGet2, dDisp, dDispM, dpCons, dpNil, dFrz, dYes, rdSub, rdFdiv, rdMod, rdPow, rdLt, rdLe, rdGt, rdGe, rdAbs, rdMax, rdMin, rdI, rdI1, rdI2, rdNeg, rdInt, List.set_cons_zero, List.set_cons_succ, List.getElem?_cons_zero, List.getElem?_cons_succ, true_and, if_true, if_false, Bool.false_eq_true]
    refine ⟨b, rfl, hb, fun kind es ls outs hk _ => ?_⟩
    simp only [dFor, dRg1]
    refine ⟨⟨by decide, by decide⟩, ?_⟩
    exact law_more hk _ _ _ _ _ _ _ hb fun y4 y5 y6 y7 st hb => law_turns k (i + 1) _ _ _ _ _ _ st hb h
theorem rd_law11 {ns : List Int} {st : Sto} {Q : QD} (q : ∀ st', Q (.bl true) st') : t_law spBox spAny spBody spTake spWorld spAll spGreat spKids spKids (spCount 7) spAt (ends Q) [some (.scr ns), none, none, none, none, none, none, none, none, none] st := by
  simp only [t_law, dSeq, dAsg, dVar, dC, dCall, dCons, dNil, dOp, dUn, dTup, dLst, dLstM, dRet, dRetN, dNext, dDrop, dIfS, dTst, dAnd, dOr, dNot, dAndV, dOrV, dNotV, dIf, dPar, dPar3, dAsgG, gNm, gTp, gsCons, gsNil, dCB, dMt, dMt0, dSl, dPart, dNoPart, dKGet, dGet2, dDisp, dDispM, dpCons, dpNil, dFrz, dYes, rdSub, rdFdiv, rdMod, rdPow, rdLt, rdLe, rdGt, rdGe, rdAbs, rdMax, rdMin, rdI, rdI1, rdI2, rdNeg, rdInt, List.set_cons_zero, List.set_cons_succ, List.getElem?_cons_zero, List.getElem?_cons_succ, true_and, if_true, if_false, Bool.false_eq_true]
  refine ⟨ns, 0, rfl, by decide, by decide, fun b hb => ?_⟩
  simp only [t_law_r1, dSeq, dAsg, dVar, dC, dCall, dCons, dNil, dOp, dUn, dTup, dLst, dLstM, dRet, dRetN, dNext, dDrop, dIfS, dTst, dAnd, dOr, dNot, dAndV, dOrV, dNotV, dIf, dPar, dPar3, dAsgG, gNm, gTp, gsCons, gsNil, dCB, dMt, dMt0, dSl, dPart, dNoPart, dKGet, dGet2, dDisp, dDispM, dpCons, dpNil, dFrz, dYes, rdSub, rdFdiv, rdMod, rdPow, rdLt, rdLe, rdGt, rdGe, rdAbs, rdMax, rdMin, rdI, rdI1, rdI2, rdNeg, rdInt, List.set_cons_zero, List.set_cons_succ, List.getElem?_cons_zero, List.getElem?_cons_succ, true_and, if_true, if_false, Bool.false_eq_true, dFor, dRg1]
  refine ⟨⟨by decide, by decide⟩, ?_⟩
  refine law_turns _ _ _ _ _ _ _ _ _ sup_same fun y2 y3 y4 y5 y6 y7 st => ?_
  simp only [t_law_r2, dSeq, dAsg, dVar, dC, dCall, dCons, dNil, dOp, dUn, dTup, dLst, dLstM, dRet, dRetN, dNext, dDrop, dIfS, dTst, dAnd, dOr, dNot, dAndV, dOrV, dNotV, dIf, dPar, dPar3, dAsgG, gNm, gTp, gsCons, gsNil, dCB, dMt, dMt0, dSl, dPart, dNoPart, dKGet, dGet2, dDisp, dDispM, dpCons, dpNil, dFrz, dYes, rdSub, rdFdiv, rdMod, rdPow, rdLt, rdLe, rdGt, rdGe, rdAbs, rdMax, rdMin, rdI, rdI1, rdI2, rdNeg, rdInt, List.set_cons_zero, List.set_cons_succ, List.getElem?_cons_zero, List.getElem?_cons_succ, true_and, if_true, if_false, Bool.false_eq_true]
  refine ⟨rfl, 6, greatD, 25, rfl, tr_great, by decide, great_cn, ?_⟩
  exact sb (q _)
end TL
namespace TL
open PySem PySem.Spec PyProof.Rows L2
def top (i : Nat) : Stmt := PySem.Challenge.pw_hookrow_k11_trees_taken_apart.main.body.getD i (.Pass ⟨0, 0, 0, 0⟩)
abbrev s__law_take : Stmt := top 8
abbrev N__law_take : List Str := ["_law_box_here", "_law_many", "_law_digit", "_law_one"]
theorem sc__law_take : FnScope N__law_take ["_law_box_here", "_law_many"] (defScope s__law_take) := ⟨rfl, rfl, rfl, by decide +kernel, rfl, by decide +kernel, by decide +kernel⟩
theorem d__law_take {cA : Nat → Addr} {P : Program} {w : World} {K : PySem.W.Frag} {mg : Str → Option Value} {base : Heap} {k : Nat} (b_len : mg "len" = none) : BodyD cA P w K mg base k "_law_take" s__law_take N__law_take (t__law_take) :=
  fun f cdv A outer s H hr hgd =>
  (dss_cons (ds_if (dt_w (dw_and (dt_eq (hu64 hr) (de_ix (hu1 hr) (dv 0) de_str) de_int) (dw_and1 (dt_gt  (de_len (by rfl) b_len (de_ix (hu1 hr) (dv 0) de_str)) de_int))))
  (dss_one (ds_put (hu1 hr) (dv 0) de_str (de_pop (de_ix (hu1 hr) (dv 0) de_str))))
  dss_nil)
  (dss_cons (ds_if (dt_gt  (de_ix (hu1 hr) (dv 0) de_str) de_int)
  (dss_cons (ds_set (i := 2) sc__law_take.nd rfl (by first | exact Or.inl rfl | exact Or.inr rfl) (de_mod (de_ix (hu1 hr) (dv 0) de_str) (dv 1)))
  (dss_cons (ds_put (hu1 hr) (dv 0) de_str (de_fdiv (de_ix (hu1 hr) (dv 0) de_str) (dv 1)))
  (dss_one (ds_ret (dv 2)))))
  dss_nil)
  (dss_cons (ds_put (hu1 hr) (dv 0) de_str (de_add (de_ix (hu1 hr) (dv 0) de_str) de_int))
  (dss_cons (ds_set (i := 3) sc__law_take.nd rfl (by first | exact Or.inl rfl | exact Or.inr rfl) (de_mod (de_mul (de_mod (de_add (de_ix (hu1 hr) (dv 0) de_str) (de_mul de_int (de_ix (hu1 hr) (dv 0) de_str))) de_int) de_int) de_int))
  (dss_cons (ds_put (hu1 hr) (dv 0) de_str (de_add (de_mod (de_add (dv 3) (de_mul de_int (de_ix (hu1 hr) (dv 0) de_str))) de_int) de_int))
  (dss_one (ds_ret (de_mod (de_fdiv (de_add (de_mul (dv 3) de_int) (de_ix (hu1 hr) (dv 0) de_str)) de_int) (dv 1)))))))))
abbrev s__law_box : Stmt := top 7
abbrev N__law_box : List Str := ["_law_script", "_law_base", "_law_seed", "_law_cell", "_law_great"]
theorem sc__law_box : FnScope N__law_box ["_law_script", "_law_base"] (defScope s__law_box) := ⟨rfl, rfl, rfl, by decide +kernel, rfl, by decide +kernel, by decide +kernel⟩
theorem d__law_box {cA : Nat → Addr} {P : Program} {w : World} {K : PySem.W.Frag} {mg : Str → Option Value} {base : Heap} {k : Nat} (b_abs : mg "abs" = none) : BodyD cA P w K mg base k "_law_box" s__law_box N__law_box (t__law_box) :=
  fun f cdv A outer s H hr hgd =>
  (dss_cons (ds_set (i := 2) sc__law_box.nd rfl (by first | exact Or.inl rfl | exact Or.inr rfl) (de_add de_int (de_mul de_int (dv 1))))
  (dss_cons (ds_for (js := [3]) PassesOwn.never rfl (di_any (de_slice (dv 0) do_none (do_some de_int))) (dg_name (i := 3) sc__law_box.nd rfl (by first | exact Or.inl rfl | exact Or.inr rfl))
  (dss_one (ds_set (i := 2) sc__law_box.nd rfl (by first | exact Or.inl rfl | exact Or.inr rfl) (de_mod (de_add (de_add (de_mul (dv 2) de_int) (de_mod (de_abs (by rfl) b_abs (dv 3)) de_int)) de_int) de_int))))
  (dss_cons (ds_setLc (i := 4) (own := [("_law_cell", 3)]) rfl sc__law_box.nd rfl rfl (sw_true rfl rfl rfl (by decide +kernel)) (di_any (de_slice (dv 0) (do_some (dv 1)) (do_some de_int))) (blkOk_by (own := [("_law_cell", 3)]) (N := N__law_box) (sc := defScope s__law_box) (by decide +kernel)) (fun _ _ _ _ _ => (dg_name (i := 3) sc__law_box.nd rfl (by first | exact Or.inl rfl | exact Or.inr rfl))) (fun _ _ _ _ _ => (dts_one (dt_ge  (de_abs (by rfl) b_abs (dv 3)) (de_pow de_int de_int)))) (fun _ _ _ _ _ => (de_abs (by rfl) b_abs (dv 3))))
  (dss_one (ds_ret (de_dispM (.str (de_revM (dv 4)) (.str de_int (.str (de_add (dv 2) de_int) (.str de_int .nil))))))))))
abbrev s__law_pick : Stmt := top 9
abbrev N__law_pick : List Str := ["_law_box_here", "_law_items"]
theorem sc__law_pick : FnScope N__law_pick ["_law_box_here", "_law_items"] (defScope s__law_pick) := ⟨rfl, rfl, rfl, by decide +kernel, rfl, by decide +kernel, by decide +kernel⟩
theorem d__law_pick {cA : Nat → Addr} {P : Program} {w : World} {K : PySem.W.Frag} {mg : Str → Option Value} {base : Heap} {k : Nat} {k__law_take : Nat} {ps__law_take : List Str} {_law_take : DSp} (c__law_take : Cal cA P w K mg base k__law_take "_law_take" ps__law_take _law_take) (b_len : mg "len" = none) (le__law_take : k__law_take ≤ k) : BodyD cA P w K mg base k "_law_pick" s__law_pick N__law_pick (t__law_pick _law_take) :=
  fun f cdv A outer s H hr hgd =>
  (dss_one (ds_ret (de_ix (hu1 hr) (dv 1) (dc_call c__law_take (hr.mono (by omega)) hgd (by rfl) (da_cons (dv 0) (da_cons (de_len (by rfl) b_len (dv 1)) da_nil))))))
abbrev s__law_mixed : Stmt := top 10
abbrev N__law_mixed : List Str := ["_law_box_here", "_law_items", "_law_left", "_law_found", "_law_turn"]
theorem sc__law_mixed : FnScope N__law_mixed ["_law_box_here", "_law_items"] (defScope s__law_mixed) := ⟨rfl, rfl, rfl, by decide +kernel, rfl, by decide +kernel, by decide +kernel⟩
theorem d__law_mixed {cA : Nat → Addr} {P : Program} {w : World} {K : PySem.W.Frag} {mg : Str → Option Value} {base : Heap} {k : Nat} {k__law_take : Nat} {ps__law_take : List Str} {_law_take : DSp} (c__law_take : Cal cA P w K mg base k__law_take "_law_take" ps__law_take _law_take) (b_list : mg "list" = none) (b_len : mg "len" = none) (b_range : mg "range" = none) (le__law_take : k__law_take ≤ k) : BodyD cA P w K mg base k "_law_mixed" s__law_mixed N__law_mixed (t__law_mixed _law_take) :=
  fun f cdv A outer s H hr hgd =>
  (dss_cons (ds_par (i := 2) (j := 3) rfl sc__law_mixed.nd rfl rfl (by decide) rfl rfl (da_cons (de_listM rfl (by rfl) b_list (dv 1)) (da_cons (de_lstM da_nil) da_nil)) rfl)
  (dss_cons (ds_for (js := [4]) PassesOwn.never rfl (di_range1 (by rfl) b_range (de_len (by rfl) b_len (dv 2))) (dg_name (i := 4) sc__law_mixed.nd rfl (by first | exact Or.inl rfl | exact Or.inr rfl))
  (dss_one (ds_expr (de_append (dv 3) (de_popAt (dv 2) (dc_call c__law_take (hr.mono (by omega)) hgd (by rfl) (da_cons (dv 0) (da_cons (de_len (by rfl) b_len (dv 2)) da_nil))))))))
  (dss_one (ds_ret (de_frz (dv 3))))))
abbrev s__law_names : Stmt := top 11
abbrev N__law_names : List Str := ["_law_box_here", "_law_many", "_law_letters", "_law_found", "_law_form", "_law_stem", "_law_at", "_law_bad", "_law_k", "_law_name", "_law_letter"]
theorem sc__law_names : FnScope N__law_names ["_law_box_here", "_law_many"] (defScope s__law_names) := ⟨rfl, rfl, rfl, by decide +kernel, rfl, by decide +kernel, by decide +kernel⟩
theorem d__law_names {cA : Nat → Addr} {P : Program} {w : World} {K : PySem.W.Frag} {mg : Str → Option Value} {base : Heap} {k : Nat} {k__law_take : Nat} {ps__law_take : List Str} {_law_take : DSp} (c__law_take : Cal cA P w K mg base k__law_take "_law_take" ps__law_take _law_take) {k__law_mixed : Nat} {ps__law_mixed : List Str} {_law_mixed : DSp} (c__law_mixed : Cal cA P w K mg base k__law_mixed "_law_mixed" ps__law_mixed _law_mixed) (b_range : mg "range" = none) (b_len : mg "len" = none) (b_enumerate : mg "enumerate" = none) (le__law_take : k__law_take ≤ k) (le__law_mixed : k__law_mixed ≤ k) : BodyD cA P w K mg base k "_law_names" s__law_names N__law_names (t__law_names _law_take _law_mixed) :=
  fun f cdv A outer s H hr hgd =>
  (dss_cons (ds_asg (js := [2, 3, 4]) (de_tup (da_cons de_str (da_cons (de_lst da_nil) (da_cons (dc_call c__law_take (hr.mono (by omega)) hgd (by rfl) (da_cons (dv 0) (da_cons de_int da_nil))) da_nil)))) (dg_tup rfl (dgs_cons (dg_name (i := 2) sc__law_names.nd rfl (by first | exact Or.inl rfl | exact Or.inr rfl)) (dgs_cons (dg_name (i := 3) sc__law_names.nd rfl (by first | exact Or.inl rfl | exact Or.inr rfl)) (dgs_cons (dg_name (i := 4) sc__law_names.nd rfl (by first | exact Or.inl rfl | exact Or.inr rfl)) dgs_nil)))))
  (dss_cons (ds_set (i := 5) sc__law_names.nd rfl (by first | exact Or.inl rfl | exact Or.inr rfl) (de_join (de_lc (own := [("_law_k", 8)]) rfl sc__law_names.nd (di_range1 (by rfl) b_range (de_ix (hu1 hr) (de_lst (da_cons de_int (da_cons de_int (da_cons de_int (da_cons de_int da_nil))))) (dc_call c__law_take (hr.mono (by omega)) hgd (by rfl) (da_cons (dv 0) (da_cons de_int da_nil))))) (blkOk_by (own := [("_law_k", 8)]) (N := N__law_names) (sc := defScope s__law_names) (by decide +kernel)) (fun _ _ _ _ _ => (dg_name (i := 8) sc__law_names.nd rfl (by first | exact Or.inl rfl | exact Or.inr rfl))) (fun _ _ _ _ _ => dts_nil) (fun _ _ _ _ _ => (de_ix (hu1 hr) (dv 2) (dc_call c__law_take (hr.mono (by omega)) hgd (by rfl) (da_cons (dv 0) (da_cons de_int da_nil))))))))
  (dss_cons (ds_set (i := 6) sc__law_names.nd rfl (by first | exact Or.inl rfl | exact Or.inr rfl) (dc_call c__law_take (hr.mono (by omega)) hgd (by rfl) (da_cons (dv 0) (da_cons (de_add (de_len (by rfl) b_len (dv 5)) de_int) da_nil))))
  (dss_cons (ds_if (dt_eq (hu64 hr) (dv 4) de_int)
  (dss_one (ds_set (i := 3) sc__law_names.nd rfl (by first | exact Or.inl rfl | exact Or.inr rfl) (de_split (by decide +kernel) de_str)))
  dss_nil)
  (dss_cons (ds_set (i := 3) sc__law_names.nd rfl (by first | exact Or.inl rfl | exact Or.inr rfl) (de_add (dv 3) (de_lc (own := [("_law_letter", 10)]) rfl sc__law_names.nd (di_any (dc_call c__law_mixed (hr.mono (by omega)) hgd (by rfl) (da_cons (dv 0) (da_cons (dv 2) da_nil)))) (blkOk_by (own := [("_law_letter", 10)]) (N := N__law_names) (sc := defScope s__law_names) (by decide +kernel)) (fun _ _ _ _ _ => (dg_name (i := 10) sc__law_names.nd rfl (by first | exact Or.inl rfl | exact Or.inr rfl))) (fun _ _ _ _ _ => dts_nil) (fun _ _ _ _ _ => (de_add (de_add (de_slice (dv 5) do_none (do_some (dv 6))) (dv 10)) (de_slice (dv 5) (do_some (dv 6)) do_none))))))
  (dss_cons (ds_set (i := 7) sc__law_names.nd rfl (by first | exact Or.inl rfl | exact Or.inr rfl) de_str)
  (dss_cons (ds_set (i := 7) sc__law_names.nd rfl (by first | exact Or.inl rfl | exact Or.inr rfl) (de_split (by decide +kernel) (de_add (dv 7) de_str)))
  (dss_cons (ds_set (i := 3) sc__law_names.nd rfl (by first | exact Or.inl rfl | exact Or.inr rfl) (de_lc (own := [("_law_k", 8), ("_law_name", 9)]) rfl sc__law_names.nd (di_en (by rfl) b_enumerate (dv 3)) (blkOk_by (own := [("_law_k", 8), ("_law_name", 9)]) (N := N__law_names) (sc := defScope s__law_names) (by decide +kernel)) (fun _ _ _ _ _ => (dg_tup rfl (dgs_cons (dg_name (i := 8) sc__law_names.nd rfl (by first | exact Or.inl rfl | exact Or.inr rfl)) (dgs_cons (dg_name (i := 9) sc__law_names.nd rfl (by first | exact Or.inl rfl | exact Or.inr rfl)) dgs_nil)))) (fun _ _ _ _ _ => (dts_one (dt_w (dw_and (dt_notIn (hu65 hr) (dv 9) (dv 7)) (dw_and1 (dt_notIn (hu65 hr) (dv 9) (de_slice (dv 3) do_none (do_some (dv 8))))))))) (fun _ _ _ _ _ => (dv 9))))
  (dss_one (ds_ret (dc_call c__law_mixed (hr.mono (by omega)) hgd (by rfl) (da_cons (dv 0) (da_cons (de_slice (dv 3) do_none (do_some (dv 1))) da_nil)))))))))))))
abbrev s__law_value : Stmt := top 13
abbrev N__law_value : List Str := ["_law_box_here", "_law_sort"]
theorem sc__law_value : FnScope N__law_value ["_law_box_here", "_law_sort"] (defScope s__law_value) := ⟨rfl, rfl, rfl, by decide +kernel, rfl, by decide +kernel, by decide +kernel⟩
theorem d__law_value {cA : Nat → Addr} {P : Program} {w : World} {K : PySem.W.Frag} {mg : Str → Option Value} {base : Heap} {k : Nat} {k__law_pick : Nat} {ps__law_pick : List Str} {_law_pick : DSp} (c__law_pick : Cal cA P w K mg base k__law_pick "_law_pick" ps__law_pick _law_pick) {k__law_take : Nat} {ps__law_take : List Str} {_law_take : DSp} (c__law_take : Cal cA P w K mg base k__law_take "_law_take" ps__law_take _law_take) (le__law_pick : k__law_pick ≤ k) (le__law_take : k__law_take ≤ k) : BodyD cA P w K mg base k "_law_value" s__law_value N__law_value (t__law_value _law_pick _law_take) :=
  fun f cdv A outer s H hr hgd =>
  (dss_cons (ds_if (dt_eq (hu64 hr) (dv 1) de_str)
  (dss_one (ds_ret (dc_call c__law_pick (hr.mono (by omega)) hgd (by rfl) (da_cons (dv 0) (da_cons (de_lst (da_cons de_str (da_cons de_str (da_cons de_str (da_cons de_str (da_cons de_str (da_cons de_str da_nil))))))) da_nil)))))
  dss_nil)
  (dss_one (ds_ret (de_ix (hu1 hr) (de_lst (da_cons (de_sub (dc_call c__law_take (hr.mono (by omega)) hgd (by rfl) (da_cons (dv 0) (da_cons de_int da_nil))) de_int) (da_cons (de_sub (dc_call c__law_take (hr.mono (by omega)) hgd (by rfl) (da_cons (dv 0) (da_cons de_int da_nil))) de_int) (da_cons (de_sub (dc_call c__law_take (hr.mono (by omega)) hgd (by rfl) (da_cons (dv 0) (da_cons de_int da_nil))) de_int) da_nil)))) (de_fdiv (dc_call c__law_take (hr.mono (by omega)) hgd (by rfl) (da_cons (dv 0) (da_cons de_int da_nil))) de_int)))))
abbrev s__law_number : Stmt := top 14
abbrev N__law_number : List Str := ["_law_box_here"]
theorem sc__law_number : FnScope N__law_number ["_law_box_here"] (defScope s__law_number) := ⟨rfl, rfl, rfl, by decide +kernel, rfl, by decide +kernel, by decide +kernel⟩
theorem d__law_number {cA : Nat → Addr} {P : Program} {w : World} {K : PySem.W.Frag} {mg : Str → Option Value} {base : Heap} {k : Nat} {k__law_take : Nat} {ps__law_take : List Str} {_law_take : DSp} (c__law_take : Cal cA P w K mg base k__law_take "_law_take" ps__law_take _law_take) (le__law_take : k__law_take ≤ k) : BodyD cA P w K mg base k "_law_number" s__law_number N__law_number (t__law_number _law_take) :=
  fun f cdv A outer s H hr hgd =>
  (dss_one (ds_ret (de_ifExp (dt_gt  (dc_call c__law_take (hr.mono (by omega)) hgd (by rfl) (da_cons (dv 0) (da_cons de_int da_nil))) de_int) (de_sub (dc_call c__law_take (hr.mono (by omega)) hgd (by rfl) (da_cons (dv 0) (da_cons de_int da_nil))) de_int) (de_sub (dc_call c__law_take (hr.mono (by omega)) hgd (by rfl) (da_cons (dv 0) (da_cons de_int da_nil))) de_int))))
abbrev s__law_hook : Stmt := top 12
abbrev N__law_hook : List Str := ["_law_box_here", "_law_name", "_law_kind", "_law_names_here", "_law_sorts", "_law_many", "_law_wide", "_law_some", "_law_late", "_law_k", "_law_sort", "_law_outs"]
theorem sc__law_hook : FnScope N__law_hook ["_law_box_here", "_law_name", "_law_kind"] (defScope s__law_hook) := ⟨rfl, rfl, rfl, by decide +kernel, rfl, by decide +kernel, by decide +kernel⟩
theorem d__law_hook {cA : Nat → Addr} {P : Program} {w : World} {K : PySem.W.Frag} {mg : Str → Option Value} {base : Heap} {k : Nat} {k__law_names : Nat} {ps__law_names : List Str} {_law_names : DSp} (c__law_names : Cal cA P w K mg base k__law_names "_law_names" ps__law_names _law_names) {k__law_take : Nat} {ps__law_take : List Str} {_law_take : DSp} (c__law_take : Cal cA P w K mg base k__law_take "_law_take" ps__law_take _law_take) {k__law_pick : Nat} {ps__law_pick : List Str} {_law_pick : DSp} (c__law_pick : Cal cA P w K mg base k__law_pick "_law_pick" ps__law_pick _law_pick) {k__law_value : Nat} {ps__law_value : List Str} {_law_value : DSp} (c__law_value : Cal cA P w K mg base k__law_value "_law_value" ps__law_value _law_value) (b_max : mg "max" = none) (b_range : mg "range" = none) (le__law_names : k__law_names ≤ k) (le__law_take : k__law_take ≤ k) (le__law_pick : k__law_pick ≤ k) (le__law_value : k__law_value ≤ k) : BodyD cA P w K mg base k "_law_hook" s__law_hook N__law_hook (t__law_hook _law_names _law_take _law_pick _law_value) :=
  fun f cdv A outer s H hr hgd =>
  (dss_cons (ds_par (i := 3) (j := 4) rfl sc__law_hook.nd rfl rfl (by decide) rfl rfl (da_cons (dc_call c__law_names (hr.mono (by omega)) hgd (by rfl) (da_cons (dv 0) (da_cons de_int da_nil))) (da_cons (de_lst (da_cons de_str (da_cons de_str (da_cons de_str da_nil)))) da_nil)) rfl)
  (dss_cons (ds_set (i := 5) sc__law_hook.nd rfl (by first | exact Or.inl rfl | exact Or.inr rfl) (dc_call c__law_take (hr.mono (by omega)) hgd (by rfl) (da_cons (dv 0) (da_cons de_int da_nil))))
  (dss_cons (ds_set (i := 5) sc__law_hook.nd rfl (by first | exact Or.inl rfl | exact Or.inr rfl) (de_ifExp (dt_eq (hu64 hr) (dv 2) de_str) (de_max rfl (by rfl) b_max (dv 5) de_int) (dv 5)))
  (dss_cons (ds_set (i := 6) sc__law_hook.nd rfl (by first | exact Or.inl rfl | exact Or.inr rfl) (de_sub (dv 5) (dc_call c__law_take (hr.mono (by omega)) hgd (by rfl) (da_cons (dv 0) (da_cons (de_add (dv 5) de_int) da_nil)))))
  (dss_cons (ds_set (i := 6) sc__law_hook.nd rfl (by first | exact Or.inl rfl | exact Or.inr rfl) (de_ifExp (dt_eq (hu64 hr) (dv 2) de_str) (de_max rfl (by rfl) b_max (dv 6) de_int) (dv 6)))
  (dss_cons (ds_par (i := 7) (j := 8) rfl sc__law_hook.nd rfl rfl (by decide) rfl rfl (da_cons (de_lstM da_nil) (da_cons de_bl da_nil)) rfl)
  (dss_cons (ds_for (js := [9]) PassesOwn.never rfl (di_range1 (by rfl) b_range (dv 5)) (dg_name (i := 9) sc__law_hook.nd rfl (by first | exact Or.inl rfl | exact Or.inr rfl))
  (dss_cons (ds_set (i := 10) sc__law_hook.nd rfl (by first | exact Or.inl rfl | exact Or.inr rfl) (dc_call c__law_pick (hr.mono (by omega)) hgd (by rfl) (da_cons (dv 0) (da_cons (dv 4) da_nil))))
  (dss_cons (ds_set (i := 8) sc__law_hook.nd rfl (by first | exact Or.inl rfl | exact Or.inr rfl) (de_or (de_and (dv 8) (de_one (de_lt  (dv 9) (dv 6)))) (de_one (de_eq (hu64 hr) (dc_call c__law_take (hr.mono (by omega)) hgd (by rfl) (da_cons (dv 0) (da_cons de_int da_nil))) de_int))))
  (dss_cons (ds_set (i := 8) sc__law_hook.nd rfl (by first | exact Or.inl rfl | exact Or.inr rfl) (de_and (dv 8) (de_one (de_not (de_and (de_eq (hu64 hr) (dv 2) de_str) (de_one (de_eq (hu64 hr) (dv 9) de_int)))))))
  (dss_one (ds_expr (de_append (dv 7) (de_tup (da_cons (de_ix (hu1 hr) (dv 3) (dv 9)) (da_cons (dv 10) (da_cons (de_ifExp (dt_val (dv 8)) (dc_call c__law_value (hr.mono (by omega)) hgd (by rfl) (da_cons (dv 0) (da_cons (dv 10) da_nil))) de_non) da_nil)))))))))))
  (dss_cons (ds_set (i := 11) sc__law_hook.nd rfl (by first | exact Or.inl rfl | exact Or.inr rfl) (de_ifExp (dt_eq (hu64 hr) (dv 2) de_str) (de_ix (hu1 hr) (de_ix (hu1 hr) (dv 7) de_int) de_int) (dc_call c__law_pick (hr.mono (by omega)) hgd (by rfl) (da_cons (dv 0) (da_cons (dv 4) da_nil)))))
  (dss_one (ds_ret (de_tup (da_cons (dv 1) (da_cons (dv 2) (da_cons (de_slice (dv 7) do_none (do_some (dv 6))) (da_cons (de_slice (dv 7) (do_some (dv 6)) do_none) (da_cons (dv 11) da_nil))))))))))))))))
abbrev s__law_world : Stmt := top 15
abbrev N__law_world : List Str := ["_law_hook_here", "_law_params", "_law_name", "_law_sort", "_law_default"]
theorem sc__law_world : FnScope N__law_world ["_law_hook_here"] (defScope s__law_world) := ⟨rfl, rfl, rfl, by decide +kernel, rfl, by decide +kernel, by decide +kernel⟩
theorem d__law_world {cA : Nat → Addr} {P : Program} {w : World} {K : PySem.W.Frag} {mg : Str → Option Value} {base : Heap} {k : Nat} : BodyD cA P w K mg base k "_law_world" s__law_world N__law_world (t__law_world) :=
  fun f cdv A outer s H hr hgd =>
  (dss_cons (ds_setLc (i := 1) (own := [("_law_name", 2), ("_law_sort", 3), ("_law_default", 4)]) rfl sc__law_world.nd rfl rfl (sw_true rfl rfl rfl (by decide +kernel)) (di_any (de_add (de_ix (hu1 hr) (dv 0) de_int) (de_ix (hu1 hr) (dv 0) de_int))) (blkOk_by (own := [("_law_name", 2), ("_law_sort", 3), ("_law_default", 4)]) (N := N__law_world) (sc := defScope s__law_world) (by decide +kernel)) (fun _ _ _ _ _ => (dg_tup rfl (dgs_cons (dg_name (i := 2) sc__law_world.nd rfl (by first | exact Or.inl rfl | exact Or.inr rfl)) (dgs_cons (dg_name (i := 3) sc__law_world.nd rfl (by first | exact Or.inl rfl | exact Or.inr rfl)) (dgs_cons (dg_name (i := 4) sc__law_world.nd rfl (by first | exact Or.inl rfl | exact Or.inr rfl)) dgs_nil))))) (fun _ _ _ _ _ => dts_nil) (fun _ _ _ _ _ => (de_tup (da_cons (dv 2) (da_cons (dv 3) da_nil)))))
  (dss_one (ds_ret (de_dispM (.str (dv 1) (.str (de_ix (hu1 hr) (dv 0) de_int) (.str de_int (.str de_int .nil))))))))
abbrev s__law_can_test : Stmt := top 18
abbrev N__law_can_test : List Str := ["_law_world_here", "_law_inner"]
theorem sc__law_can_test : FnScope N__law_can_test ["_law_world_here", "_law_inner"] (defScope s__law_can_test) := ⟨rfl, rfl, rfl, by decide +kernel, rfl, by decide +kernel, by decide +kernel⟩
theorem d__law_can_test {cA : Nat → Addr} {P : Program} {w : World} {K : PySem.W.Frag} {mg : Str → Option Value} {base : Heap} {k : Nat} : BodyD cA P w K mg base k "_law_can_test" s__law_can_test N__law_can_test (t__law_can_test) :=
  fun f cdv A outer s H hr hgd =>
  (dss_one (ds_ret (de_and (de_gt  (de_ix (hu1 hr) (dv 0) de_str) de_int) (de_one (de_or (de_ne (hu64 hr) (de_ix (hu1 hr) (dv 0) de_str) (de_lst da_nil)) (de_one (de_notN  (dv 1) de_non)))))))
abbrev s__law_leaf : Stmt := top 17
abbrev N__law_leaf : List Str := ["_law_box_here", "_law_world_here", "_law_sort", "_law_inner", "_law_sent", "_law_some", "_law_form", "_law_name", "_law_own"]
theorem sc__law_leaf : FnScope N__law_leaf ["_law_box_here", "_law_world_here", "_law_sort", "_law_inner", "_law_sent"] (defScope s__law_leaf) := ⟨rfl, rfl, rfl, by decide +kernel, rfl, by decide +kernel, by decide +kernel⟩
theorem d__law_leaf {cA : Nat → Addr} {P : Program} {w : World} {K : PySem.W.Frag} {mg : Str → Option Value} {base : Heap} {k : Nat} {k__law_take : Nat} {ps__law_take : List Str} {_law_take : DSp} (c__law_take : Cal cA P w K mg base k__law_take "_law_take" ps__law_take _law_take) {k__law_pick : Nat} {ps__law_pick : List Str} {_law_pick : DSp} (c__law_pick : Cal cA P w K mg base k__law_pick "_law_pick" ps__law_pick _law_pick) {k__law_number : Nat} {ps__law_number : List Str} {_law_number : DSp} (c__law_number : Cal cA P w K mg base k__law_number "_law_number" ps__law_number _law_number) {k__law_value : Nat} {ps__law_value : List Str} {_law_value : DSp} (c__law_value : Cal cA P w K mg base k__law_value "_law_value" ps__law_value _law_value) (b_int : mg "int" = none) (le__law_take : k__law_take ≤ k) (le__law_pick : k__law_pick ≤ k) (le__law_number : k__law_number ≤ k) (le__law_value : k__law_value ≤ k) : BodyD cA P w K mg base k "_law_leaf" s__law_leaf N__law_leaf (t__law_leaf _law_take _law_pick _law_number _law_value) :=
  fun f cdv A outer s H hr hgd =>
  (dss_cons (ds_set (i := 5) sc__law_leaf.nd rfl (by first | exact Or.inl rfl | exact Or.inr rfl) (de_add (de_lc (own := [("_law_name", 7), ("_law_own", 8)]) rfl sc__law_leaf.nd (di_any (de_ix (hu1 hr) (dv 1) de_str)) (blkOk_by (own := [("_law_name", 7), ("_law_own", 8)]) (N := N__law_leaf) (sc := defScope s__law_leaf) (by decide +kernel)) (fun _ _ _ _ _ => (dg_tup rfl (dgs_cons (dg_name (i := 7) sc__law_leaf.nd rfl (by first | exact Or.inl rfl | exact Or.inr rfl)) (dgs_cons (dg_name (i := 8) sc__law_leaf.nd rfl (by first | exact Or.inl rfl | exact Or.inr rfl)) dgs_nil)))) (fun _ _ _ _ _ => (dts_one (dt_eq (hu64 hr) (dv 8) (dv 2)))) (fun _ _ _ _ _ => (dv 7))) (de_mul (de_lst (da_cons de_str da_nil)) (de_mul de_int (de_intf (by rfl) b_int (de_eq (hu64 hr) (dv 3) (dv 2)))))))
  (dss_cons (ds_set (i := 6) sc__law_leaf.nd rfl (by first | exact Or.inl rfl | exact Or.inr rfl) (dc_call c__law_take (hr.mono (by omega)) hgd (by rfl) (da_cons (dv 0) (da_cons de_int da_nil))))
  (dss_cons (ds_if (dt_w (dw_and (dt_eq (hu64 hr) (dv 6) de_int) (dw_and1 (dt_not (dt_val (dv 4))))))
  (dss_one (ds_ret (de_tup (da_cons de_str da_nil))))
  dss_nil)
  (dss_cons (ds_if (dt_w (dw_and (dt_eq (hu64 hr) (dv 6) de_int) (dw_and (dt_not (dt_val (dv 4))) (dw_and1 (dt_eq (hu64 hr) (dc_call c__law_take (hr.mono (by omega)) hgd (by rfl) (da_cons (dv 0) (da_cons de_int da_nil))) de_int)))))
  (dss_one (ds_ret (de_tup (da_cons de_str (da_cons (dc_call c__law_pick (hr.mono (by omega)) hgd (by rfl) (da_cons (dv 0) (da_cons (de_lst (da_cons de_str (da_cons de_str (da_cons de_str da_nil)))) da_nil))) da_nil)))))
  dss_nil)
  (dss_cons (ds_if (dt_w (dw_and (dt_lt  (dv 6) de_int) (dw_and (dt_ne (hu64 hr) (dv 5) (de_lst da_nil)) (dw_and (dt_eq (hu64 hr) (dv 2) de_str) (dw_and1 (dt_gt  (de_ix (hu1 hr) (dv 1) de_str) de_int))))))
  (dss_cons (ds_put (hu1 hr) (dv 1) de_str (de_sub (de_ix (hu1 hr) (dv 1) de_str) de_int))
  (dss_one (ds_ret (de_tup (da_cons de_str (da_cons (dc_call c__law_pick (hr.mono (by omega)) hgd (by rfl) (da_cons (dv 0) (da_cons (dv 5) da_nil))) (da_cons (dc_call c__law_number (hr.mono (by omega)) hgd (by rfl) (da_cons (dv 0) da_nil)) da_nil)))))))
  dss_nil)
  (dss_cons (ds_if (dt_w (dw_and (dt_lt  (dv 6) de_int) (dw_and1 (dt_ne (hu64 hr) (dv 5) (de_lst da_nil)))))
  (dss_one (ds_ret (de_tup (da_cons de_str (da_cons (dc_call c__law_pick (hr.mono (by omega)) hgd (by rfl) (da_cons (dv 0) (da_cons (dv 5) da_nil))) da_nil)))))
  dss_nil)
  (dss_one (ds_ret (de_ifExp (dt_eq (hu64 hr) (dv 2) de_str) (de_tup (da_cons de_str (da_cons (dc_call c__law_number (hr.mono (by omega)) hgd (by rfl) (da_cons (dv 0) da_nil)) da_nil))) (de_tup (da_cons de_str (da_cons (dc_call c__law_value (hr.mono (by omega)) hgd (by rfl) (da_cons (dv 0) (da_cons de_str da_nil))) da_nil))))))))))))
abbrev s__law_test : Stmt := top 16
abbrev N__law_test : List Str := ["_law_box_here", "_law_world_here", "_law_inner", "_law_deep", "_law_form", "_law_first", "_law_some", "_law_name", "_law_sort"]
theorem sc__law_test : FnScope N__law_test ["_law_box_here", "_law_world_here", "_law_inner", "_law_deep"] (defScope s__law_test) := ⟨rfl, rfl, rfl, by decide +kernel, rfl, by decide +kernel, by decide +kernel⟩
theorem d__law_test {cA : Nat → Addr} {P : Program} {w : World} {K : PySem.W.Frag} {mg : Str → Option Value} {base : Heap} {k : Nat} {k__law_take : Nat} {ps__law_take : List Str} {_law_take : DSp} (c__law_take : Cal cA P w K mg base k__law_take "_law_take" ps__law_take _law_take) {k__law_test : Nat} {ps__law_test : List Str} {_law_test : DSp} (c__law_test : Cal cA P w K mg base k__law_test "_law_test" ps__law_test _law_test) {k__law_pick : Nat} {ps__law_pick : List Str} {_law_pick : DSp} (c__law_pick : Cal cA P w K mg base k__law_pick "_law_pick" ps__law_pick _law_pick) {k__law_number : Nat} {ps__law_number : List Str} {_law_number : DSp} (c__law_number : Cal cA P w K mg base k__law_number "_law_number" ps__law_number _law_number) {k__law_value : Nat} {ps__law_value : List Str} {_law_value : DSp} (c__law_value : Cal cA P w K mg base k__law_value "_law_value" ps__law_value _law_value) (b_int : mg "int" = none) (le__law_take : k__law_take ≤ k) (le__law_test : k__law_test ≤ k) (le__law_pick : k__law_pick ≤ k) (le__law_number : k__law_number ≤ k) (le__law_value : k__law_value ≤ k) : BodyD cA P w K mg base k "_law_test" s__law_test N__law_test (t__law_test _law_take _law_test _law_pick _law_number _law_value) :=
  fun f cdv A outer s H hr hgd =>
  (dss_cons (ds_put (hu1 hr) (dv 1) de_str (de_sub (de_ix (hu1 hr) (dv 1) de_str) de_int))
  (dss_cons (ds_set (i := 4) sc__law_test.nd rfl (by first | exact Or.inl rfl | exact Or.inr rfl) (dc_call c__law_take (hr.mono (by omega)) hgd (by rfl) (da_cons (dv 0) (da_cons de_int da_nil))))
  (dss_cons (ds_if (dt_w (dw_and (dt_gt  (dv 3) de_int) (dw_and1 (dt_eq (hu64 hr) (dv 4) de_int))))
  (dss_cons (ds_put (hu1 hr) (dv 1) de_str (de_add (de_ix (hu1 hr) (dv 1) de_str) de_int))
  (dss_one (ds_ret (de_tup (da_cons de_str (da_cons (dc_call c__law_test (hr.mono (by omega)) hgd (by rfl) (da_cons (dv 0) (da_cons (dv 1) (da_cons (dv 2) (da_cons (de_sub (dv 3) de_int) da_nil))))) da_nil))))))
  dss_nil)
  (dss_cons (ds_if (dt_w (dw_and (dt_gt  (dv 3) de_int) (dw_and (dt_lt  (dv 4) de_int) (dw_and1 (dt_gt  (de_ix (hu1 hr) (dv 1) de_str) de_int)))))
  (dss_cons (ds_set (i := 5) sc__law_test.nd rfl (by first | exact Or.inl rfl | exact Or.inr rfl) (dc_call c__law_test (hr.mono (by omega)) hgd (by rfl) (da_cons (dv 0) (da_cons (dv 1) (da_cons (dv 2) (da_cons de_int da_nil))))))
  (dss_cons (ds_put (hu1 hr) (dv 1) de_str (de_add (de_ix (hu1 hr) (dv 1) de_str) de_int))
  (dss_one (ds_ret (de_tup (da_cons (de_ix (hu1 hr) (de_lst (da_cons de_str (da_cons de_str da_nil))) (de_sub (dv 4) de_int)) (da_cons (dv 5) (da_cons (dc_call c__law_test (hr.mono (by omega)) hgd (by rfl) (da_cons (dv 0) (da_cons (dv 1) (da_cons (dv 2) (da_cons de_int da_nil))))) da_nil))))))))
  dss_nil)
  (dss_cons (ds_set (i := 6) sc__law_test.nd rfl (by first | exact Or.inl rfl | exact Or.inr rfl) (de_add (de_ix (hu1 hr) (dv 1) de_str) (de_mul (de_lst (da_cons (de_tup (da_cons de_str (da_cons (dv 2) da_nil))) da_nil)) (de_mul de_int (de_intf (by rfl) b_int (de_notN  (dv 2) de_non))))))
  (dss_cons (ds_if (dt_w (dw_and (dt_notN  (dv 2) de_non) (dw_and1 (dt_eq (hu64 hr) (dv 4) de_int))))
  (dss_one (ds_ret (de_tup (da_cons de_str da_nil))))
  dss_nil)
  (dss_cons (ds_asg (js := [7, 8]) (dc_call c__law_pick (hr.mono (by omega)) hgd (by rfl) (da_cons (dv 0) (da_cons (dv 6) da_nil))) (dg_tup rfl (dgs_cons (dg_name (i := 7) sc__law_test.nd rfl (by first | exact Or.inl rfl | exact Or.inr rfl)) (dgs_cons (dg_name (i := 8) sc__law_test.nd rfl (by first | exact Or.inl rfl | exact Or.inr rfl)) dgs_nil))))
  (dss_cons (ds_if (dt_eq (hu64 hr) (dv 8) de_str)
  (dss_one (ds_ret (de_tup (da_cons de_str (da_cons (dv 7) (da_cons (dc_call c__law_number (hr.mono (by omega)) hgd (by rfl) (da_cons (dv 0) da_nil)) da_nil))))))
  dss_nil)
  (dss_one (ds_ret (de_tup (da_cons de_str (da_cons (dv 7) (da_cons (dc_call c__law_value (hr.mono (by omega)) hgd (by rfl) (da_cons (dv 0) (da_cons de_str da_nil))) da_nil))))))))))))))
abbrev s__law_expression : Stmt := top 19
abbrev N__law_expression : List Str := ["_law_box_here", "_law_world_here", "_law_sort", "_law_inner", "_law_sent", "_law_deep", "_law_test_here", "_law_one", "_law_other"]
theorem sc__law_expression : FnScope N__law_expression ["_law_box_here", "_law_world_here", "_law_sort", "_law_inner", "_law_sent", "_law_deep"] (defScope s__law_expression) := ⟨rfl, rfl, rfl, by decide +kernel, rfl, by decide +kernel, by decide +kernel⟩
theorem d__law_expression {cA : Nat → Addr} {P : Program} {w : World} {K : PySem.W.Frag} {mg : Str → Option Value} {base : Heap} {k : Nat} {k__law_can_test : Nat} {ps__law_can_test : List Str} {_law_can_test : DSp} (c__law_can_test : Cal cA P w K mg base k__law_can_test "_law_can_test" ps__law_can_test _law_can_test) {k__law_take : Nat} {ps__law_take : List Str} {_law_take : DSp} (c__law_take : Cal cA P w K mg base k__law_take "_law_take" ps__law_take _law_take) {k__law_leaf : Nat} {ps__law_leaf : List Str} {_law_leaf : DSp} (c__law_leaf : Cal cA P w K mg base k__law_leaf "_law_leaf" ps__law_leaf _law_leaf) {k__law_test : Nat} {ps__law_test : List Str} {_law_test : DSp} (c__law_test : Cal cA P w K mg base k__law_test "_law_test" ps__law_test _law_test) {k__law_expression : Nat} {ps__law_expression : List Str} {_law_expression : DSp} (c__law_expression : Cal cA P w K mg base k__law_expression "_law_expression" ps__law_expression _law_expression) (le__law_can_test : k__law_can_test ≤ k) (le__law_take : k__law_take ≤ k) (le__law_leaf : k__law_leaf ≤ k) (le__law_test : k__law_test ≤ k) (le__law_expression : k__law_expression ≤ k) : BodyD cA P w K mg base k "_law_expression" s__law_expression N__law_expression (t__law_expression _law_can_test _law_take _law_leaf _law_test _law_expression) :=
  fun f cdv A outer s H hr hgd =>
  (dss_cons (ds_if (dt_w (dw_or (dt_lt  (dv 5) de_int) (dw_or (dt_not (dt_val (dc_call c__law_can_test (hr.mono (by omega)) hgd (by rfl) (da_cons (dv 1) (da_cons (dv 3) da_nil))))) (dw_or1 (dt_eq (hu64 hr) (dc_call c__law_take (hr.mono (by omega)) hgd (by rfl) (da_cons (dv 0) (da_cons de_int da_nil))) de_int)))))
  (dss_one (ds_ret (dc_call c__law_leaf (hr.mono (by omega)) hgd (by rfl) (da_cons (dv 0) (da_cons (dv 1) (da_cons (dv 2) (da_cons (dv 3) (da_cons (dv 4) da_nil))))))))
  dss_nil)
  (dss_cons (ds_set (i := 6) sc__law_expression.nd rfl (by first | exact Or.inl rfl | exact Or.inr rfl) (dc_call c__law_test (hr.mono (by omega)) hgd (by rfl) (da_cons (dv 0) (da_cons (dv 1) (da_cons (dv 3) (da_cons de_int da_nil))))))
  (dss_cons (ds_set (i := 7) sc__law_expression.nd rfl (by first | exact Or.inl rfl | exact Or.inr rfl) (dc_call c__law_expression (hr.mono (by omega)) hgd (by rfl) (da_cons (dv 0) (da_cons (dv 1) (da_cons (dv 2) (da_cons (dv 3) (da_cons (dv 4) (da_cons (de_sub (dv 5) de_int) da_nil))))))))
  (dss_cons (ds_set (i := 8) sc__law_expression.nd rfl (by first | exact Or.inl rfl | exact Or.inr rfl) (dc_call c__law_leaf (hr.mono (by omega)) hgd (by rfl) (da_cons (dv 0) (da_cons (dv 1) (da_cons (dv 2) (da_cons (dv 3) (da_cons (dv 4) da_nil)))))))
  (dss_one (ds_ret (de_ifExp (dt_eq (hu64 hr) (dc_call c__law_take (hr.mono (by omega)) hgd (by rfl) (da_cons (dv 0) (da_cons de_int da_nil))) de_int) (de_tup (da_cons de_str (da_cons (dv 6) (da_cons (dv 7) (da_cons (dv 8) da_nil))))) (de_tup (da_cons de_str (da_cons (dv 6) (da_cons (dv 8) (da_cons (dv 7) da_nil))))))))))))
abbrev s__law_ask : Stmt := top 20
abbrev N__law_ask : List Str := ["_law_box_here", "_law_world_here", "_law_deep", "_law_sends", "_law_name", "_law_sort", "_law_few", "_law_turned", "_law_failing"]
theorem sc__law_ask : FnScope N__law_ask ["_law_box_here", "_law_world_here", "_law_deep"] (defScope s__law_ask) := ⟨rfl, rfl, rfl, by decide +kernel, rfl, by decide +kernel, by decide +kernel⟩
theorem d__law_ask {cA : Nat → Addr} {P : Program} {w : World} {K : PySem.W.Frag} {mg : Str → Option Value} {base : Heap} {k : Nat} {k__law_mixed : Nat} {ps__law_mixed : List Str} {_law_mixed : DSp} (c__law_mixed : Cal cA P w K mg base k__law_mixed "_law_mixed" ps__law_mixed _law_mixed) {k__law_take : Nat} {ps__law_take : List Str} {_law_take : DSp} (c__law_take : Cal cA P w K mg base k__law_take "_law_take" ps__law_take _law_take) {k__law_expression : Nat} {ps__law_expression : List Str} {_law_expression : DSp} (c__law_expression : Cal cA P w K mg base k__law_expression "_law_expression" ps__law_expression _law_expression) {k__law_leaf : Nat} {ps__law_leaf : List Str} {_law_leaf : DSp} (c__law_leaf : Cal cA P w K mg base k__law_leaf "_law_leaf" ps__law_leaf _law_leaf) (b_int : mg "int" = none) (b_tuple : mg "tuple" = none) (le__law_mixed : k__law_mixed ≤ k) (le__law_take : k__law_take ≤ k) (le__law_expression : k__law_expression ≤ k) (le__law_leaf : k__law_leaf ≤ k) : BodyD cA P w K mg base k "_law_ask" s__law_ask N__law_ask (t__law_ask _law_mixed _law_take _law_expression _law_leaf) :=
  fun f cdv A outer s H hr hgd =>
  (dss_cons (ds_set (i := 3) sc__law_ask.nd rfl (by first | exact Or.inl rfl | exact Or.inr rfl) (de_lstM da_nil))
  (dss_cons (ds_for (js := [4, 5]) PassesOwn.never rfl (di_any (de_slice (dc_call c__law_mixed (hr.mono (by omega)) hgd (by rfl) (da_cons (dv 0) (da_cons (de_ix (hu1 hr) (dv 1) de_str) da_nil))) do_none (do_some (dc_call c__law_take (hr.mono (by omega)) hgd (by rfl) (da_cons (dv 0) (da_cons (de_add de_int (dv 2)) da_nil)))))) (dg_tup rfl (dgs_cons (dg_name (i := 4) sc__law_ask.nd rfl (by first | exact Or.inl rfl | exact Or.inr rfl)) (dgs_cons (dg_name (i := 5) sc__law_ask.nd rfl (by first | exact Or.inl rfl | exact Or.inr rfl)) dgs_nil)))
  (dss_cons (ds_set (i := 6) sc__law_ask.nd rfl (by first | exact Or.inl rfl | exact Or.inr rfl) (de_mul (dv 2) (de_intf (by rfl) b_int (de_eq (hu64 hr) (dc_call c__law_take (hr.mono (by omega)) hgd (by rfl) (da_cons (dv 0) (da_cons de_int da_nil))) de_int))))
  (dss_one (ds_expr (de_append (dv 3) (de_tup (da_cons (dv 4) (da_cons (dc_call c__law_expression (hr.mono (by omega)) hgd (by rfl) (da_cons (dv 0) (da_cons (dv 1) (da_cons (dv 5) (da_cons de_non (da_cons de_bl (da_cons (dv 6) da_nil))))))) da_nil))))))))
  (dss_cons (ds_set (i := 7) sc__law_ask.nd rfl (by first | exact Or.inl rfl | exact Or.inr rfl) (de_tup (da_cons de_str (da_cons de_str da_nil))))
  (dss_cons (ds_if (dt_gt  (dc_call c__law_take (hr.mono (by omega)) hgd (by rfl) (da_cons (dv 0) (da_cons de_int da_nil))) de_int)
  (dss_cons (ds_par (i := 6) (j := 5) rfl sc__law_ask.nd rfl rfl (by decide) rfl rfl (da_cons (de_mul (dv 2) (dc_call c__law_take (hr.mono (by omega)) hgd (by rfl) (da_cons (dv 0) (da_cons de_int da_nil)))) (da_cons (de_ix (hu1 hr) (dv 1) de_str) da_nil)) rfl)
  (dss_one (ds_set (i := 7) sc__law_ask.nd rfl (by first | exact Or.inl rfl | exact Or.inr rfl) (dc_call c__law_expression (hr.mono (by omega)) hgd (by rfl) (da_cons (dv 0) (da_cons (dv 1) (da_cons (dv 5) (da_cons (dv 5) (da_cons de_bl (da_cons (dv 6) da_nil))))))))))
  dss_nil)
  (dss_cons (ds_set (i := 8) sc__law_ask.nd rfl (by first | exact Or.inl rfl | exact Or.inr rfl) (de_ifExp (dt_eq (hu64 hr) (dc_call c__law_take (hr.mono (by omega)) hgd (by rfl) (da_cons (dv 0) (da_cons de_int da_nil))) de_int) (dc_call c__law_leaf (hr.mono (by omega)) hgd (by rfl) (da_cons (dv 0) (da_cons (dv 1) (da_cons (de_ix (hu1 hr) (dv 1) de_str) (da_cons de_non (da_cons de_bl da_nil)))))) de_non))
  (dss_one (ds_ret (de_tup (da_cons de_str (da_cons (de_tuple (by rfl) b_tuple (dv 3)) (da_cons (dv 7) (da_cons (dv 8) da_nil))))))))))))
abbrev s__law_wrapping : Stmt := top 21
abbrev N__law_wrapping : List Str := ["_law_box_here", "_law_world_here", "_law_deep", "_law_leaf_here", "_law_test_here", "_law_some"]
theorem sc__law_wrapping : FnScope N__law_wrapping ["_law_box_here", "_law_world_here", "_law_deep"] (defScope s__law_wrapping) := ⟨rfl, rfl, rfl, by decide +kernel, rfl, by decide +kernel, by decide +kernel⟩
theorem d__law_wrapping {cA : Nat → Addr} {P : Program} {w : World} {K : PySem.W.Frag} {mg : Str → Option Value} {base : Heap} {k : Nat} {k__law_can_test : Nat} {ps__law_can_test : List Str} {_law_can_test : DSp} (c__law_can_test : Cal cA P w K mg base k__law_can_test "_law_can_test" ps__law_can_test _law_can_test) {k__law_leaf : Nat} {ps__law_leaf : List Str} {_law_leaf : DSp} (c__law_leaf : Cal cA P w K mg base k__law_leaf "_law_leaf" ps__law_leaf _law_leaf) {k__law_take : Nat} {ps__law_take : List Str} {_law_take : DSp} (c__law_take : Cal cA P w K mg base k__law_take "_law_take" ps__law_take _law_take) {k__law_ask : Nat} {ps__law_ask : List Str} {_law_ask : DSp} (c__law_ask : Cal cA P w K mg base k__law_ask "_law_ask" ps__law_ask _law_ask) {k__law_test : Nat} {ps__law_test : List Str} {_law_test : DSp} (c__law_test : Cal cA P w K mg base k__law_test "_law_test" ps__law_test _law_test) {k__law_wrapping : Nat} {ps__law_wrapping : List Str} {_law_wrapping : DSp} (c__law_wrapping : Cal cA P w K mg base k__law_wrapping "_law_wrapping" ps__law_wrapping _law_wrapping) (le__law_can_test : k__law_can_test ≤ k) (le__law_leaf : k__law_leaf ≤ k) (le__law_take : k__law_take ≤ k) (le__law_ask : k__law_ask ≤ k) (le__law_test : k__law_test ≤ k) (le__law_wrapping : k__law_wrapping ≤ k) : BodyD cA P w K mg base k "_law_wrapping" s__law_wrapping N__law_wrapping (t__law_wrapping _law_can_test _law_leaf _law_take _law_ask _law_test _law_wrapping) :=
  fun f cdv A outer s H hr hgd =>
  (dss_cons (ds_if (dt_w (dw_or (dt_lt  (dv 2) de_int) (dw_or1 (dt_not (dt_val (dc_call c__law_can_test (hr.mono (by omega)) hgd (by rfl) (da_cons (dv 1) (da_cons de_non da_nil))))))))
  (dss_cons (ds_set (i := 3) sc__law_wrapping.nd rfl (by first | exact Or.inl rfl | exact Or.inr rfl) (dc_call c__law_leaf (hr.mono (by omega)) hgd (by rfl) (da_cons (dv 0) (da_cons (dv 1) (da_cons (de_ix (hu1 hr) (dv 1) de_str) (da_cons de_non (da_cons de_bl da_nil)))))))
  (dss_one (ds_ret (de_ifExp (dt_gt  (dc_call c__law_take (hr.mono (by omega)) hgd (by rfl) (da_cons (dv 0) (da_cons de_int da_nil))) de_int) (dc_call c__law_ask (hr.mono (by omega)) hgd (by rfl) (da_cons (dv 0) (da_cons (dv 1) (da_cons de_int da_nil)))) (dv 3)))))
  dss_nil)
  (dss_cons (ds_set (i := 4) sc__law_wrapping.nd rfl (by first | exact Or.inl rfl | exact Or.inr rfl) (dc_call c__law_test (hr.mono (by omega)) hgd (by rfl) (da_cons (dv 0) (da_cons (dv 1) (da_cons de_non (da_cons de_int da_nil))))))
  (dss_cons (ds_set (i := 5) sc__law_wrapping.nd rfl (by first | exact Or.inl rfl | exact Or.inr rfl) (de_lst (da_cons (dc_call c__law_wrapping (hr.mono (by omega)) hgd (by rfl) (da_cons (dv 0) (da_cons (dv 1) (da_cons (de_sub (dv 2) de_int) da_nil)))) (da_cons (dc_call c__law_wrapping (hr.mono (by omega)) hgd (by rfl) (da_cons (dv 0) (da_cons (dv 1) (da_cons de_int da_nil)))) da_nil))))
  (dss_cons (ds_set (i := 5) sc__law_wrapping.nd rfl (by first | exact Or.inl rfl | exact Or.inr rfl) (de_ifExp (dt_eq (hu64 hr) (dc_call c__law_take (hr.mono (by omega)) hgd (by rfl) (da_cons (dv 0) (da_cons de_int da_nil))) de_int) (dv 5) (de_rev (dv 5))))
  (dss_one (ds_ret (de_tup (da_cons de_str (da_cons (dv 4) (da_cons (de_ix (hu1 hr) (dv 5) de_int) (da_cons (de_ix (hu1 hr) (dv 5) de_int) da_nil)))))))))))
abbrev s__law_body : Stmt := top 22
abbrev N__law_body : List Str := ["_law_box_here", "_law_world_here", "_law_is_outer"]
theorem sc__law_body : FnScope N__law_body ["_law_box_here", "_law_world_here", "_law_is_outer"] (defScope s__law_body) := ⟨rfl, rfl, rfl, by decide +kernel, rfl, by decide +kernel, by decide +kernel⟩
theorem d__law_body {cA : Nat → Addr} {P : Program} {w : World} {K : PySem.W.Frag} {mg : Str → Option Value} {base : Heap} {k : Nat} {k__law_expression : Nat} {ps__law_expression : List Str} {_law_expression : DSp} (c__law_expression : Cal cA P w K mg base k__law_expression "_law_expression" ps__law_expression _law_expression) {k__law_take : Nat} {ps__law_take : List Str} {_law_take : DSp} (c__law_take : Cal cA P w K mg base k__law_take "_law_take" ps__law_take _law_take) {k__law_can_test : Nat} {ps__law_can_test : List Str} {_law_can_test : DSp} (c__law_can_test : Cal cA P w K mg base k__law_can_test "_law_can_test" ps__law_can_test _law_can_test) {k__law_ask : Nat} {ps__law_ask : List Str} {_law_ask : DSp} (c__law_ask : Cal cA P w K mg base k__law_ask "_law_ask" ps__law_ask _law_ask) {k__law_wrapping : Nat} {ps__law_wrapping : List Str} {_law_wrapping : DSp} (c__law_wrapping : Cal cA P w K mg base k__law_wrapping "_law_wrapping" ps__law_wrapping _law_wrapping) (le__law_expression : k__law_expression ≤ k) (le__law_take : k__law_take ≤ k) (le__law_can_test : k__law_can_test ≤ k) (le__law_ask : k__law_ask ≤ k) (le__law_wrapping : k__law_wrapping ≤ k) : BodyD cA P w K mg base k "_law_body" s__law_body N__law_body (t__law_body _law_expression _law_take _law_can_test _law_ask _law_wrapping) :=
  fun f cdv A outer s H hr hgd =>
  (dss_cons (ds_if (dt_not (dt_val (dv 2)))
  (dss_one (ds_ret (dc_call c__law_expression (hr.mono (by omega)) hgd (by rfl) (da_cons (dv 0) (da_cons (dv 1) (da_cons (de_ix (hu1 hr) (dv 1) de_str) (da_cons de_non (da_cons de_bl (da_cons (dc_call c__law_take (hr.mono (by omega)) hgd (by rfl) (da_cons (dv 0) (da_cons de_int da_nil))) da_nil)))))))))
  dss_nil)
  (dss_cons (ds_if (dt_w (dw_or (dt_eq (hu64 hr) (dc_call c__law_take (hr.mono (by omega)) hgd (by rfl) (da_cons (dv 0) (da_cons de_int da_nil))) de_int) (dw_or1 (dt_not (dt_val (dc_call c__law_can_test (hr.mono (by omega)) hgd (by rfl) (da_cons (dv 1) (da_cons de_non da_nil))))))))
  (dss_one (ds_ret (dc_call c__law_ask (hr.mono (by omega)) hgd (by rfl) (da_cons (dv 0) (da_cons (dv 1) (da_cons de_int da_nil))))))
  dss_nil)
  (dss_one (ds_ret (dc_call c__law_wrapping (hr.mono (by omega)) hgd (by rfl) (da_cons (dv 0) (da_cons (dv 1) (da_cons (de_add de_int (dc_call c__law_take (hr.mono (by omega)) hgd (by rfl) (da_cons (dv 0) (da_cons de_int da_nil)))) da_nil))))))))
abbrev s__law_any_hook : Stmt := top 23
abbrev N__law_any_hook : List Str := ["_law_box_here"]
theorem sc__law_any_hook : FnScope N__law_any_hook ["_law_box_here"] (defScope s__law_any_hook) := ⟨rfl, rfl, rfl, by decide +kernel, rfl, by decide +kernel, by decide +kernel⟩
theorem d__law_any_hook {cA : Nat → Addr} {P : Program} {w : World} {K : PySem.W.Frag} {mg : Str → Option Value} {base : Heap} {k : Nat} {k__law_hook : Nat} {ps__law_hook : List Str} {_law_hook : DSp} (c__law_hook : Cal cA P w K mg base k__law_hook "_law_hook" ps__law_hook _law_hook) {k__law_pick : Nat} {ps__law_pick : List Str} {_law_pick : DSp} (c__law_pick : Cal cA P w K mg base k__law_pick "_law_pick" ps__law_pick _law_pick) (le__law_hook : k__law_hook ≤ k) (le__law_pick : k__law_pick ≤ k) : BodyD cA P w K mg base k "_law_any_hook" s__law_any_hook N__law_any_hook (t__law_any_hook _law_hook _law_pick) :=
  fun f cdv A outer s H hr hgd =>
  (dss_one (ds_ret (dc_call c__law_hook (hr.mono (by omega)) hgd (by rfl) (da_cons (dv 0) (da_cons de_str (da_cons (dc_call c__law_pick (hr.mono (by omega)) hgd (by rfl) (da_cons (dv 0) (da_cons (de_lst (da_cons de_str (da_cons de_str (da_cons de_str da_nil)))) da_nil))) da_nil))))))
abbrev s_forms_of : Stmt := top 3
abbrev N_forms_of : List Str := ["tree"]
theorem sc_forms_of : FnScope N_forms_of ["tree"] (defScope s_forms_of) := ⟨rfl, rfl, rfl, by decide +kernel, rfl, by decide +kernel, by decide +kernel⟩
theorem d_forms_of {cA : Nat → Addr} {P : Program} {w : World} {K : PySem.W.Frag} {mg : Str → Option Value} {base : Heap} {k : Nat} {a_TESTS : Addr} {TESTS : List (Str × D)} (k_TESTS : KTab K cA w a_TESTS TESTS) (m_TESTS : mg "TESTS" = some (.ref a_TESTS)) {a_EXPRESSIONS : Addr} {EXPRESSIONS : List (Str × D)} (k_EXPRESSIONS : KTab K cA w a_EXPRESSIONS EXPRESSIONS) (m_EXPRESSIONS : mg "EXPRESSIONS" = some (.ref a_EXPRESSIONS)) : BodyD cA P w K mg base k "forms_of" s_forms_of N_forms_of (t_forms_of TESTS EXPRESSIONS) :=
  fun f cdv A outer s H hr hgd =>
  (dss_one (ds_ret (de_kget k_EXPRESSIONS (by rfl) m_EXPRESSIONS (de_ix (hu1 hr) (dv 0) de_int) (de_kget k_TESTS (by rfl) m_TESTS (de_ix (hu1 hr) (dv 0) de_int) de_str))))
abbrev s_children : Stmt := top 4
abbrev N_children : List Str := ["tree", "found", "at", "slot", "k", "pair"]
theorem sc_children : FnScope N_children ["tree"] (defScope s_children) := ⟨rfl, rfl, rfl, by decide +kernel, rfl, by decide +kernel, by decide +kernel⟩
theorem d_children {cA : Nat → Addr} {P : Program} {w : World} {K : PySem.W.Frag} {mg : Str → Option Value} {base : Heap} {k : Nat} {k_forms_of : Nat} {ps_forms_of : List Str} {forms_of : DSp} (c_forms_of : Cal cA P w K mg base k_forms_of "forms_of" ps_forms_of forms_of) (b_enumerate : mg "enumerate" = none) (b_tuple : mg "tuple" = none) (le_forms_of : k_forms_of ≤ k) : BodyD cA P w K mg base k "children" s_children N_children (t_children forms_of) :=
  fun f cdv A outer s H hr hgd =>
  (dss_cons (ds_set (i := 1) sc_children.nd rfl (by first | exact Or.inl rfl | exact Or.inr rfl) (de_lstM da_nil))
  (dss_cons (ds_for (js := [2, 3]) PassesOwn.never rfl (di_enK (by rfl) b_enumerate (dc_call c_forms_of (hr.mono (by omega)) hgd (by rfl) (da_cons (dv 0) da_nil))) (dg_tup rfl (dgs_cons (dg_name (i := 2) sc_children.nd rfl (by first | exact Or.inl rfl | exact Or.inr rfl)) (dgs_cons (dg_name (i := 3) sc_children.nd rfl (by first | exact Or.inl rfl | exact Or.inr rfl)) dgs_nil)))
  (dss_one (ds_if (dt_eq (hu64 hr) (dv 3) de_str)
  (dss_one (ds_for (js := [4, 5]) PassesOwn.never rfl (di_en (by rfl) b_enumerate (de_ix (hu1 hr) (dv 0) (dv 2))) (dg_tup rfl (dgs_cons (dg_name (i := 4) sc_children.nd rfl (by first | exact Or.inl rfl | exact Or.inr rfl)) (dgs_cons (dg_name (i := 5) sc_children.nd rfl (by first | exact Or.inl rfl | exact Or.inr rfl)) dgs_nil)))
  (dss_one (ds_expr (de_append (dv 1) (de_tup (da_cons (de_tup (da_cons (dv 2) (da_cons (dv 4) (da_cons de_int da_nil)))) (da_cons (de_ix (hu1 hr) (dv 5) de_int) da_nil))))))))
  (dss_one (ds_if (dt_w (dw_or (dt_in (hu65 hr) (dv 3) de_str) (dw_or1 (dt_w (dw_and (dt_eq (hu64 hr) (dv 3) de_str) (dw_and1 (dt_notN  (de_ix (hu1 hr) (dv 0) (dv 2)) de_non)))))))
  (dss_one (ds_expr (de_append (dv 1) (de_tup (da_cons (de_tup (da_cons (dv 2) da_nil)) (da_cons (de_ix (hu1 hr) (dv 0) (dv 2)) da_nil))))))
  dss_nil)))))
  (dss_one (ds_ret (de_tuple (by rfl) b_tuple (dv 1))))))
abbrev s_count : Stmt := top 5
abbrev N_count : List Str := ["tree", "path", "inner"]
theorem sc_count : FnScope N_count ["tree"] (defScope s_count) := ⟨rfl, rfl, rfl, by decide +kernel, rfl, by decide +kernel, by decide +kernel⟩
theorem d_count {cA : Nat → Addr} {P : Program} {w : World} {K : PySem.W.Frag} {mg : Str → Option Value} {base : Heap} {k : Nat} {k_children : Nat} {ps_children : List Str} {children : DSp} (c_children : Cal cA P w K mg base k_children "children" ps_children children) {k_count : Nat} {ps_count : List Str} {count : DSp} (c_count : Cal cA P w K mg base k_count "count" ps_count count) (b_sum : mg "sum" = none) (le_children : k_children ≤ k) (le_count : k_count ≤ k) : BodyD cA P w K mg base k "count" s_count N_count (t_count children count) :=
  fun f cdv A outer s H hr hgd =>
  (dss_one (ds_ret (de_add de_int (de_sum rfl (by rfl) b_sum (de_lc (own := [("path", 1), ("inner", 2)]) rfl sc_count.nd (di_any (dc_call c_children (hr.mono (by omega)) hgd (by rfl) (da_cons (dv 0) da_nil))) (blkOk_by (own := [("path", 1), ("inner", 2)]) (N := N_count) (sc := defScope s_count) (by decide +kernel)) (fun _ _ _ _ _ => (dg_tup rfl (dgs_cons (dg_name (i := 1) sc_count.nd rfl (by first | exact Or.inl rfl | exact Or.inr rfl)) (dgs_cons (dg_name (i := 2) sc_count.nd rfl (by first | exact Or.inl rfl | exact Or.inr rfl)) dgs_nil)))) (fun _ _ _ _ _ => dts_nil) (fun _ _ _ _ _ => (dc_call c_count (hr.mono (by omega)) hgd (by rfl) (da_cons (dv 2) da_nil))))))))
abbrev s__law_children : Stmt := top 24
abbrev N__law_children : List Str := ["_law_tree", "_law_slots", "_law_found", "_law_k", "_law_pair"]
theorem sc__law_children : FnScope N__law_children ["_law_tree"] (defScope s__law_children) := ⟨rfl, rfl, rfl, by decide +kernel, rfl, by decide +kernel, by decide +kernel⟩
theorem d__law_children {cA : Nat → Addr} {P : Program} {w : World} {K : PySem.W.Frag} {mg : Str → Option Value} {base : Heap} {k : Nat} (b_range : mg "range" = none) (b_enumerate : mg "enumerate" = none) (b_int : mg "int" = none) (b_tuple : mg "tuple" = none) : BodyD cA P w K mg base k "_law_children" s__law_children N__law_children (t__law_children) :=
  fun f cdv A outer s H hr hgd =>
  (dss_cons (ds_set (i := 1) sc__law_children.nd rfl (by first | exact Or.inl rfl | exact Or.inr rfl) (de_get2 (hu1 hr) (de_disp (.str de_int (.str de_int (.str de_int (.str de_int .nil))))) (de_ix (hu1 hr) (dv 0) de_int) de_int))
  (dss_cons (ds_setLc (i := 2) (own := [("_law_k", 3)]) rfl sc__law_children.nd rfl rfl (sw_true rfl rfl rfl (by decide +kernel)) (di_range2 (by rfl) b_range de_int (de_add (dv 1) de_int)) (blkOk_by (own := [("_law_k", 3)]) (N := N__law_children) (sc := defScope s__law_children) (by decide +kernel)) (fun _ _ _ _ _ => (dg_name (i := 3) sc__law_children.nd rfl (by first | exact Or.inl rfl | exact Or.inr rfl))) (fun _ _ _ _ _ => dts_nil) (fun _ _ _ _ _ => (de_tup (da_cons (de_tup (da_cons (dv 3) da_nil)) (da_cons (de_ix (hu1 hr) (dv 0) (dv 3)) da_nil)))))
  (dss_cons (ds_if (dt_eq (hu64 hr) (de_ix (hu1 hr) (dv 0) de_int) de_str)
  (dss_cons (ds_set (i := 2) sc__law_children.nd rfl (by first | exact Or.inl rfl | exact Or.inr rfl) (de_add (de_lc (own := [("_law_k", 3), ("_law_pair", 4)]) rfl sc__law_children.nd (di_en (by rfl) b_enumerate (de_ix (hu1 hr) (dv 0) de_int)) (blkOk_by (own := [("_law_k", 3), ("_law_pair", 4)]) (N := N__law_children) (sc := defScope s__law_children) (by decide +kernel)) (fun _ _ _ _ _ => (dg_tup rfl (dgs_cons (dg_name (i := 3) sc__law_children.nd rfl (by first | exact Or.inl rfl | exact Or.inr rfl)) (dgs_cons (dg_name (i := 4) sc__law_children.nd rfl (by first | exact Or.inl rfl | exact Or.inr rfl)) dgs_nil)))) (fun _ _ _ _ _ => dts_nil) (fun _ _ _ _ _ => (de_tup (da_cons (de_tup (da_cons de_int (da_cons (dv 3) (da_cons de_int da_nil)))) (da_cons (de_ix (hu1 hr) (dv 4) de_int) da_nil))))) (de_lst (da_cons (de_tup (da_cons (de_tup (da_cons de_int da_nil)) (da_cons (de_ix (hu1 hr) (dv 0) de_int) da_nil))) da_nil))))
  (dss_one (ds_set (i := 2) sc__law_children.nd rfl (by first | exact Or.inl rfl | exact Or.inr rfl) (de_add (dv 2) (de_mul (de_lst (da_cons (de_tup (da_cons (de_tup (da_cons de_int da_nil)) (da_cons (de_ix (hu1 hr) (dv 0) de_int) da_nil))) da_nil)) (de_intf (by rfl) b_int (de_notN  (de_ix (hu1 hr) (dv 0) de_int) de_non)))))))
  dss_nil)
  (dss_one (ds_ret (de_tuple (by rfl) b_tuple (dv 2)))))))
abbrev s__law_all : Stmt := top 25
abbrev N__law_all : List Str := ["_law_tree", "_law_found", "_law_left", "_law_here", "_law_path", "_law_inner"]
theorem sc__law_all : FnScope N__law_all ["_law_tree"] (defScope s__law_all) := ⟨rfl, rfl, rfl, by decide +kernel, rfl, by decide +kernel, by decide +kernel⟩
theorem d__law_all {cA : Nat → Addr} {P : Program} {w : World} {K : PySem.W.Frag} {mg : Str → Option Value} {base : Heap} {k : Nat} {k__law_children : Nat} {ps__law_children : List Str} {_law_children : DSp} (c__law_children : Cal cA P w K mg base k__law_children "_law_children" ps__law_children _law_children) (le__law_children : k__law_children ≤ k) : BodyD cA P w K mg base k "_law_all" s__law_all N__law_all (t__law_all _law_children) :=
  fun f cdv A outer s H hr hgd =>
  (dss_cons (ds_par (i := 1) (j := 2) rfl sc__law_all.nd rfl rfl (by decide) rfl rfl (da_cons (de_lstM da_nil) (da_cons (de_lstM (da_cons (dv 0) da_nil)) da_nil)) rfl)
  (dss_cons (ds_while PassesOwn.never (dt_ne (hu64 hr) (dv 2) (de_lst da_nil))
  (dss_cons (ds_set (i := 3) sc__law_all.nd rfl (by first | exact Or.inl rfl | exact Or.inr rfl) (de_pop (dv 2)))
  (dss_cons (ds_expr (de_append (dv 1) (dv 3)))
  (dss_one (ds_expr (de_extend (dv 2) (de_lc (own := [("_law_path", 4), ("_law_inner", 5)]) rfl sc__law_all.nd (di_any (dc_call c__law_children (hr.mono (by omega)) hgd (by rfl) (da_cons (dv 3) da_nil))) (blkOk_by (own := [("_law_path", 4), ("_law_inner", 5)]) (N := N__law_all) (sc := defScope s__law_all) (by decide +kernel)) (fun _ _ _ _ _ => (dg_tup rfl (dgs_cons (dg_name (i := 4) sc__law_all.nd rfl (by first | exact Or.inl rfl | exact Or.inr rfl)) (dgs_cons (dg_name (i := 5) sc__law_all.nd rfl (by first | exact Or.inl rfl | exact Or.inr rfl)) dgs_nil)))) (fun _ _ _ _ _ => dts_nil) (fun _ _ _ _ _ => (dv 5)))))))))
  (dss_one (ds_ret (de_frz (dv 1))))))
abbrev s__law_greatest : Stmt := top 26
abbrev N__law_greatest : List Str := ["_law_least", "_law_test_here", "_law_own", "_law_sent", "_law_turned"]
theorem sc__law_greatest : FnScope N__law_greatest [] (defScope s__law_greatest) := ⟨rfl, rfl, rfl, by decide +kernel, rfl, by decide +kernel, by decide +kernel⟩
theorem d__law_greatest {cA : Nat → Addr} {P : Program} {w : World} {K : PySem.W.Frag} {mg : Str → Option Value} {base : Heap} {k : Nat} : BodyD cA P w K mg base k "_law_greatest" s__law_greatest N__law_greatest (t__law_greatest) :=
  fun f cdv A outer s H hr hgd =>
  (dss_cons (ds_set (i := 0) sc__law_greatest.nd rfl (by first | exact Or.inl rfl | exact Or.inr rfl) (de_tup (da_cons de_str (da_cons de_str (da_cons de_int da_nil)))))
  (dss_cons (ds_set (i := 1) sc__law_greatest.nd rfl (by first | exact Or.inl rfl | exact Or.inr rfl) (de_tup (da_cons de_str (da_cons (de_tup (da_cons de_str (da_cons (dv 0) (da_cons (dv 0) da_nil)))) (da_cons (de_tup (da_cons de_str (da_cons (de_tup (da_cons de_str (da_cons (dv 0) (da_cons (dv 0) da_nil)))) da_nil))) da_nil)))))
  (dss_cons (ds_set (i := 2) sc__law_greatest.nd rfl (by first | exact Or.inl rfl | exact Or.inr rfl) (de_tup (da_cons de_str (da_cons (de_tup (da_cons de_str (da_cons (dv 0) da_nil))) (da_cons (de_tup (da_cons de_str (da_cons de_str da_nil))) (da_cons (de_tup (da_cons de_str (da_cons de_str da_nil))) da_nil))))))
  (dss_cons (ds_set (i := 3) sc__law_greatest.nd rfl (by first | exact Or.inl rfl | exact Or.inr rfl) (de_tup (da_cons de_str (da_cons (de_tup (da_cons de_str (da_cons (dv 0) (da_cons (dv 0) da_nil)))) (da_cons (dv 2) (da_cons (de_tup (da_cons de_str (da_cons de_str da_nil))) da_nil))))))
  (dss_cons (ds_set (i := 4) sc__law_greatest.nd rfl (by first | exact Or.inl rfl | exact Or.inr rfl) (de_tup (da_cons de_str (da_cons (de_tup (da_cons de_str da_nil)) (da_cons (de_tup (da_cons de_str da_nil)) (da_cons (de_tup (da_cons de_str (da_cons de_str da_nil))) da_nil))))))
  (dss_one (ds_ret (de_tup (da_cons de_str (da_cons (dv 1) (da_cons (de_tup (da_cons de_str (da_cons (de_tup (da_cons (de_tup (da_cons de_str (da_cons (dv 3) da_nil))) da_nil)) (da_cons (dv 4) (da_cons de_non da_nil))))) (da_cons (de_tup (da_cons de_str da_nil)) da_nil))))))))))))
abbrev s__law_at_path : Stmt := top 27
abbrev N__law_at_path : List Str := ["_law_tree", "_law_path", "_law_step"]
theorem sc__law_at_path : FnScope N__law_at_path ["_law_tree", "_law_path"] (defScope s__law_at_path) := ⟨rfl, rfl, rfl, by decide +kernel, rfl, by decide +kernel, by decide +kernel⟩
theorem d__law_at_path {cA : Nat → Addr} {P : Program} {w : World} {K : PySem.W.Frag} {mg : Str → Option Value} {base : Heap} {k : Nat} : BodyD cA P w K mg base k "_law_at_path" s__law_at_path N__law_at_path (t__law_at_path) :=
  fun f cdv A outer s H hr hgd =>
  (dss_cons (ds_for (js := [2]) PassesOwn.never rfl (di_any (dv 1)) (dg_name (i := 2) sc__law_at_path.nd rfl (by first | exact Or.inl rfl | exact Or.inr rfl))
  (dss_one (ds_set (i := 0) sc__law_at_path.nd rfl (by first | exact Or.inl rfl | exact Or.inr rfl) (de_ix (hu1 hr) (dv 0) (dv 2)))))
  (dss_one (ds_ret (dv 0))))
abbrev s_law : Stmt := top 28
abbrev N_law : List Str := ["_law_script", "_law_box_here", "_law_turn", "_law_hook_here", "_law_more", "_law_body_here", "_law_tree", "_law_found", "_law_path", "_law_inner"]
theorem sc_law : FnScope N_law ["_law_script"] (defScope s_law) := ⟨rfl, rfl, rfl, by decide +kernel, rfl, by decide +kernel, by decide +kernel⟩
theorem d_law {cA : Nat → Addr} {P : Program} {w : World} {K : PySem.W.Frag} {mg : Str → Option Value} {base : Heap} {k : Nat} {k__law_box : Nat} {ps__law_box : List Str} {_law_box : DSp} (c__law_box : Cal cA P w K mg base k__law_box "_law_box" ps__law_box _law_box) {k__law_any_hook : Nat} {ps__law_any_hook : List Str} {_law_any_hook : DSp} (c__law_any_hook : Cal cA P w K mg base k__law_any_hook "_law_any_hook" ps__law_any_hook _law_any_hook) {k__law_body : Nat} {ps__law_body : List Str} {_law_body : DSp} (c__law_body : Cal cA P w K mg base k__law_body "_law_body" ps__law_body _law_body) {k__law_take : Nat} {ps__law_take : List Str} {_law_take : DSp} (c__law_take : Cal cA P w K mg base k__law_take "_law_take" ps__law_take _law_take) {k__law_world : Nat} {ps__law_world : List Str} {_law_world : DSp} (c__law_world : Cal cA P w K mg base k__law_world "_law_world" ps__law_world _law_world) {k__law_all : Nat} {ps__law_all : List Str} {_law_all : DSp} (c__law_all : Cal cA P w K mg base k__law_all "_law_all" ps__law_all _law_all) {k__law_greatest : Nat} {ps__law_greatest : List Str} {_law_greatest : DSp} (c__law_greatest : Cal cA P w K mg base k__law_greatest "_law_greatest" ps__law_greatest _law_greatest) {k_children : Nat} {ps_children : List Str} {children : DSp} (c_children : Cal cA P w K mg base k_children "children" ps_children children) {k__law_children : Nat} {ps__law_children : List Str} {_law_children : DSp} (c__law_children : Cal cA P w K mg base k__law_children "_law_children" ps__law_children _law_children) {k_count : Nat} {ps_count : List Str} {count : DSp} (c_count : Cal cA P w K mg base k_count "count" ps_count count) {k__law_at_path : Nat} {ps__law_at_path : List Str} {_law_at_path : DSp} (c__law_at_path : Cal cA P w K mg base k__law_at_path "_law_at_path" ps__law_at_path _law_at_path) (b_range : mg "range" = none) (b_repr : mg "repr" = none) (b_len : mg "len" = none) (le__law_box : k__law_box ≤ k) (le__law_any_hook : k__law_any_hook ≤ k) (le__law_body : k__law_body ≤ k) (le__law_take : k__law_take ≤ k) (le__law_world : k__law_world ≤ k) (le__law_all : k__law_all ≤ k) (le__law_greatest : k__law_greatest ≤ k) (le_children : k_children ≤ k) (le__law_children : k__law_children ≤ k) (le_count : k_count ≤ k) (le__law_at_path : k__law_at_path ≤ k) : BodyD cA P w K mg base k "law" s_law N_law (t_law _law_box _law_any_hook _law_body _law_take _law_world _law_all _law_greatest children _law_children count _law_at_path) :=
  fun f cdv A outer s H hr hgd =>
  (dss_cons (ds_set (i := 1) sc_law.nd rfl (by first | exact Or.inl rfl | exact Or.inr rfl) (dc_call c__law_box (hr.mono (by omega)) hgd (by rfl) (da_cons (dv 0) (da_cons de_int da_nil))))
  (dss_cons (ds_for (js := [2]) PassesOwn.never rfl (di_range1 (by rfl) b_range de_int) (dg_name (i := 2) sc_law.nd rfl (by first | exact Or.inl rfl | exact Or.inr rfl))
  (dss_cons (ds_set (i := 3) sc_law.nd rfl (by first | exact Or.inl rfl | exact Or.inr rfl) (dc_call c__law_any_hook (hr.mono (by omega)) hgd (by rfl) (da_cons (dv 1) da_nil)))
  (dss_one (ds_for (js := [4]) PassesOwn.never rfl (di_range1 (by rfl) b_range de_int) (dg_name (i := 4) sc_law.nd rfl (by first | exact Or.inl rfl | exact Or.inr rfl))
  (dss_cons (ds_set (i := 5) sc_law.nd rfl (by first | exact Or.inl rfl | exact Or.inr rfl) (dc_call c__law_body (hr.mono (by omega)) hgd (by rfl) (da_cons (dv 1) (da_cons (dc_call c__law_world (hr.mono (by omega)) hgd (by rfl) (da_cons (dv 3) da_nil)) (da_cons (de_gt  (dc_call c__law_take (hr.mono (by omega)) hgd (by rfl) (da_cons (dv 1) (da_cons de_int da_nil))) de_int) da_nil)))))
  (dss_one (ds_for (js := [6]) PassesOwn.never rfl (di_any (dc_call c__law_all (hr.mono (by omega)) hgd (by rfl) (da_cons (de_ifExp (dt_gt  (dv 4) de_int) (dv 5) (dc_call0 c__law_greatest (hr.mono (by omega)) hgd (by rfl))) da_nil))) (dg_name (i := 6) sc_law.nd rfl (by first | exact Or.inl rfl | exact Or.inr rfl))
  (dss_cons (ds_set (i := 7) sc_law.nd rfl (by first | exact Or.inl rfl | exact Or.inr rfl) (dc_call c_children (hr.mono (by omega)) hgd (by rfl) (da_cons (dv 6) da_nil)))
  (dss_cons (ds_if (dt_w (dw_or (dt_ne (hu64 hr) (de_repr hgd (hu70 hr) (by rfl) b_repr (dv 7)) (de_repr hgd (hu70 hr) (by rfl) b_repr (dc_call c__law_children (hr.mono (by omega)) hgd (by rfl) (da_cons (dv 6) da_nil)))) (dw_or1 (dt_ne (hu64 hr) (de_repr hgd (hu70 hr) (by rfl) b_repr (dc_call c_count (hr.mono (by omega)) hgd (by rfl) (da_cons (dv 6) da_nil))) (de_repr hgd (hu70 hr) (by rfl) b_repr (de_len (by rfl) b_len (dc_call c__law_all (hr.mono (by omega)) hgd (by rfl) (da_cons (dv 6) da_nil))))))))
  (dss_one (ds_ret de_bl))
  dss_nil)
  (dss_one (ds_if (dt_ne (hu64 hr) (de_lc (own := [("_law_path", 8), ("_law_inner", 9)]) rfl sc_law.nd (di_any (dv 7)) (blkOk_by (own := [("_law_path", 8), ("_law_inner", 9)]) (N := N_law) (sc := defScope s_law) (by decide +kernel)) (fun _ _ _ _ _ => (dg_tup rfl (dgs_cons (dg_name (i := 8) sc_law.nd rfl (by first | exact Or.inl rfl | exact Or.inr rfl)) (dgs_cons (dg_name (i := 9) sc_law.nd rfl (by first | exact Or.inl rfl | exact Or.inr rfl)) dgs_nil)))) (fun _ _ _ _ _ => (dts_one (dt_ne (hu64 hr) (dc_call c__law_at_path (hr.mono (by omega)) hgd (by rfl) (da_cons (dv 6) (da_cons (dv 8) da_nil))) (dv 9)))) (fun _ _ _ _ _ => de_int)) (de_lst da_nil))
  (dss_one (ds_ret de_bl))
  dss_nil)))))))))))
  (dss_one (ds_ret (de_eq (hu64 hr) (dc_call c_count (hr.mono (by omega)) hgd (by rfl) (da_cons (dc_call0 c__law_greatest (hr.mono (by omega)) hgd (by rfl)) da_nil)) de_int)))))
end TL
namespace TL
open PySem PySem.Spec PyProof.Rows L2
theorem ch__law_take {cA : Nat → Addr} {P : Program} {w : World} {K : PySem.W.Frag} {mg : Str → Option Value} {base : Heap} (W__law_take : FnW K mg "_law_take" s__law_take ["_law_box_here", "_law_many"]) (b_len : mg "len" = none) : Cal cA P w K mg base 1 "_law_take" ["_law_box_here", "_law_many"] spTake :=
  (W__law_take.cal (sp := spTakeO) sc__law_take (by intro ds st Q E h; unfold spTakeO at h; (repeat (obtain ⟨_, h⟩ := h)); subst_vars; rfl) (d__law_take b_len) (by rintro ds s0 Q ⟨n, m, gs, now, seed, turn, many, rfl, h1, h2, h3, h4, h5, q⟩; exact rd_take h1 h2 h3 h4 h5 q)).take rfl
theorem ch__law_box {cA : Nat → Addr} {P : Program} {w : World} {K : PySem.W.Frag} {mg : Str → Option Value} {base : Heap} (W__law_box : FnW K mg "_law_box" s__law_box ["_law_script", "_law_base"]) (b_abs : mg "abs" = none) : Cal cA P w K mg base 1 "_law_box" ["_law_script", "_law_base"] spBox :=
  (W__law_box.cal (sp := spBoxO) sc__law_box (by intro ds st Q E h; unfold spBoxO at h; (repeat (obtain ⟨_, h⟩ := h)); subst_vars; rfl) (d__law_box b_abs) (by rintro ds s0 Q ⟨ns, b, rfl, _, _, q⟩; exact rd_box q)).box rfl
theorem ch__law_pick {cA : Nat → Addr} {P : Program} {w : World} {K : PySem.W.Frag} {mg : Str → Option Value} {base : Heap} (W__law_pick : FnW K mg "_law_pick" s__law_pick ["_law_box_here", "_law_items"]) (c__law_take : Cal cA P w K mg base 1 "_law_take" ["_law_box_here", "_law_many"] spTake) (b_len : mg "len" = none) : Cal cA P w K mg base 2 "_law_pick" ["_law_box_here", "_law_items"] spPick :=
  W__law_pick.cal (sp := spPick) sc__law_pick (by intro ds st Q E h; unfold spPick at h; (repeat (obtain ⟨_, h⟩ := h)); subst_vars; rfl) (d__law_pick c__law_take b_len (by omega)) (by rintro ds s0 Q ⟨n, d, xs, rfl, h1, h2, h3, h4, q⟩; exact rd_pick h1 h2 h3 h4 q)
theorem ch__law_mixed {cA : Nat → Addr} {P : Program} {w : World} {K : PySem.W.Frag} {mg : Str → Option Value} {base : Heap} (W__law_mixed : FnW K mg "_law_mixed" s__law_mixed ["_law_box_here", "_law_items"]) (c__law_take : Cal cA P w K mg base 1 "_law_take" ["_law_box_here", "_law_many"] spTake) (b_list : mg "list" = none) (b_len : mg "len" = none) (b_range : mg "range" = none) : Cal cA P w K mg base 2 "_law_mixed" ["_law_box_here", "_law_items"] spMixed :=
  W__law_mixed.cal (sp := spMixed) sc__law_mixed (by intro ds st Q E h; unfold spMixed at h; (repeat (obtain ⟨_, h⟩ := h)); subst_vars; rfl) (d__law_mixed c__law_take b_list b_len b_range (by omega)) (by rintro ds s0 Q ⟨n, d, xs, rfl, h1, h2, h3, q⟩; exact rd_mixed h1 h2 h3 q)
theorem ch__law_names {cA : Nat → Addr} {P : Program} {w : World} {K : PySem.W.Frag} {mg : Str → Option Value} {base : Heap} (W__law_names : FnW K mg "_law_names" s__law_names ["_law_box_here", "_law_many"]) (c__law_take : Cal cA P w K mg base 1 "_law_take" ["_law_box_here", "_law_many"] spTake) (c__law_mixed : Cal cA P w K mg base 2 "_law_mixed" ["_law_box_here", "_law_items"] spMixed) (b_range : mg "range" = none) (b_len : mg "len" = none) (b_enumerate : mg "enumerate" = none) : Cal cA P w K mg base 3 "_law_names" ["_law_box_here", "_law_many"] spNames :=
  W__law_names.cal (sp := spNames) sc__law_names (by intro ds st Q E h; unfold spNames at h; (repeat (obtain ⟨_, h⟩ := h)); subst_vars; rfl) (d__law_names c__law_take c__law_mixed b_range b_len b_enumerate (by omega) (by omega)) (by rintro ds s0 Q ⟨n, many, rfl, h1, h2, h3, q⟩; exact rd_names h1 h2 h3 q)
theorem ch__law_value {cA : Nat → Addr} {P : Program} {w : World} {K : PySem.W.Frag} {mg : Str → Option Value} {base : Heap} (W__law_value : FnW K mg "_law_value" s__law_value ["_law_box_here", "_law_sort"]) (c__law_pick : Cal cA P w K mg base 2 "_law_pick" ["_law_box_here", "_law_items"] spPick) (c__law_take : Cal cA P w K mg base 1 "_law_take" ["_law_box_here", "_law_many"] spTake) : Cal cA P w K mg base 3 "_law_value" ["_law_box_here", "_law_sort"] spValue :=
  W__law_value.cal (sp := spValue) sc__law_value (by intro ds st Q E h; unfold spValue at h; (repeat (obtain ⟨_, h⟩ := h)); subst_vars; rfl) (d__law_value c__law_pick c__law_take (by omega) (by omega)) (by rintro ds s0 Q ⟨n, sort, rfl, h1, h2, q⟩; exact rd_value h1 h2 q)
theorem ch__law_number {cA : Nat → Addr} {P : Program} {w : World} {K : PySem.W.Frag} {mg : Str → Option Value} {base : Heap} (W__law_number : FnW K mg "_law_number" s__law_number ["_law_box_here"]) (c__law_take : Cal cA P w K mg base 1 "_law_take" ["_law_box_here", "_law_many"] spTake) : Cal cA P w K mg base 2 "_law_number" ["_law_box_here"] spNumber :=
  W__law_number.cal (sp := spNumber) sc__law_number (by intro ds st Q E h; unfold spNumber at h; (repeat (obtain ⟨_, h⟩ := h)); subst_vars; rfl) (d__law_number c__law_take (by omega)) (by rintro ds s0 Q ⟨n, rfl, h1, q⟩; exact rd_number h1 q)
theorem ch__law_hook {cA : Nat → Addr} {P : Program} {w : World} {K : PySem.W.Frag} {mg : Str → Option Value} {base : Heap} (W__law_hook : FnW K mg "_law_hook" s__law_hook ["_law_box_here", "_law_name", "_law_kind"]) (c__law_names : Cal cA P w K mg base 3 "_law_names" ["_law_box_here", "_law_many"] spNames) (c__law_take : Cal cA P w K mg base 1 "_law_take" ["_law_box_here", "_law_many"] spTake) (c__law_pick : Cal cA P w K mg base 2 "_law_pick" ["_law_box_here", "_law_items"] spPick) (c__law_value : Cal cA P w K mg base 3 "_law_value" ["_law_box_here", "_law_sort"] spValue) (b_max : mg "max" = none) (b_range : mg "range" = none) : Cal cA P w K mg base 4 "_law_hook" ["_law_box_here", "_law_name", "_law_kind"] spHook :=
  W__law_hook.cal (sp := spHook) sc__law_hook (by intro ds st Q E h; unfold spHook at h; (repeat (obtain ⟨_, h⟩ := h)); subst_vars; rfl) (d__law_hook c__law_names c__law_take c__law_pick c__law_value b_max b_range (by omega) (by omega) (by omega) (by omega)) (by rintro ds s0 Q ⟨n, name, kind, rfl, h1, q⟩; exact rd_hook h1 q)
theorem ch__law_world {cA : Nat → Addr} {P : Program} {w : World} {K : PySem.W.Frag} {mg : Str → Option Value} {base : Heap} (W__law_world : FnW K mg "_law_world" s__law_world ["_law_hook_here"]) : Cal cA P w K mg base 1 "_law_world" ["_law_hook_here"] spWorld :=
  W__law_world.cal (sp := spWorld) sc__law_world (by intro ds st Q E h; unfold spWorld at h; (repeat (obtain ⟨_, h⟩ := h)); subst_vars; rfl) (d__law_world ) (by rintro ds s0 Q ⟨name, kind, es, ls, outs, rfl, h1, q⟩; exact rd_world h1 q)
theorem ch__law_can_test {cA : Nat → Addr} {P : Program} {w : World} {K : PySem.W.Frag} {mg : Str → Option Value} {base : Heap} (W__law_can_test : FnW K mg "_law_can_test" s__law_can_test ["_law_world_here", "_law_inner"]) : Cal cA P w K mg base 1 "_law_can_test" ["_law_world_here", "_law_inner"] spCan :=
  W__law_can_test.cal (sp := spCan) sc__law_can_test (by intro ds st Q E h; unfold spCan at h; (repeat (obtain ⟨_, h⟩ := h)); subst_vars; rfl) (d__law_can_test ) (by rintro ds s0 Q ⟨w, inner, ps, gv, t, p, rfl, h1, h2, q⟩; exact rd_can h1 h2 q)
theorem ch__law_leaf {cA : Nat → Addr} {P : Program} {w : World} {K : PySem.W.Frag} {mg : Str → Option Value} {base : Heap} (W__law_leaf : FnW K mg "_law_leaf" s__law_leaf ["_law_box_here", "_law_world_here", "_law_sort", "_law_inner", "_law_sent"]) (c__law_take : Cal cA P w K mg base 1 "_law_take" ["_law_box_here", "_law_many"] spTake) (c__law_pick : Cal cA P w K mg base 2 "_law_pick" ["_law_box_here", "_law_items"] spPick) (c__law_number : Cal cA P w K mg base 2 "_law_number" ["_law_box_here"] spNumber) (c__law_value : Cal cA P w K mg base 3 "_law_value" ["_law_box_here", "_law_sort"] spValue) (b_int : mg "int" = none) : Cal cA P w K mg base 4 "_law_leaf" ["_law_box_here", "_law_world_here", "_law_sort", "_law_inner", "_law_sent"] spLeaf :=
  W__law_leaf.cal (sp := spLeaf) sc__law_leaf (by intro ds st Q E h; unfold spLeaf at h; (repeat (obtain ⟨_, h⟩ := h)); subst_vars; rfl) (d__law_leaf c__law_take c__law_pick c__law_number c__law_value b_int (by omega) (by omega) (by omega) (by omega)) (by rintro ds s0 Q ⟨b, w, sort, inner, sent, ps, gv, t, p, rfl, h1, h2, h3, h4, h5, q⟩; exact rd_leaf h1 h2 h3 h4 h5 q)
theorem ch__law_test {cA : Nat → Addr} {P : Program} {w : World} {K : PySem.W.Frag} {mg : Str → Option Value} {base : Heap} (W__law_test : FnW K mg "_law_test" s__law_test ["_law_box_here", "_law_world_here", "_law_inner", "_law_deep"]) (c__law_take : Cal cA P w K mg base 1 "_law_take" ["_law_box_here", "_law_many"] spTake) (c__law_pick : Cal cA P w K mg base 2 "_law_pick" ["_law_box_here", "_law_items"] spPick) (c__law_number : Cal cA P w K mg base 2 "_law_number" ["_law_box_here"] spNumber) (c__law_value : Cal cA P w K mg base 3 "_law_value" ["_law_box_here", "_law_sort"] spValue) (b_int : mg "int" = none) (m : Nat) : Cal cA P w K mg base (3 + m) "_law_test" ["_law_box_here", "_law_world_here", "_law_inner", "_law_deep"] (spTest m) := by
  induction m with
  | zero => exact ((W__law_test.bot).imp (fun ds st Q E h => by unfold spTest at h; (repeat (obtain ⟨_, h⟩ := h)); omega)).mono (Nat.zero_le _)
  | succ m ih => exact W__law_test.cal (k := 3 + m) sc__law_test (by intro ds st Q E h; unfold spTest at h; (repeat (obtain ⟨_, h⟩ := h)); subst_vars; rfl) (d__law_test c__law_take ih c__law_pick c__law_number c__law_value b_int (by omega) (Nat.le_refl _) (by omega) (by omega) (by omega)) (by rintro ds s0 Q ⟨b, w, inner, deep, ps, gv, t, p, rfl, h1, h2, h3, h4, h5, h6, h7, q⟩; exact rd_test h1 h2 h3 h4 (by simpa using h5) h6 h7 q)
theorem ch__law_expression {cA : Nat → Addr} {P : Program} {w : World} {K : PySem.W.Frag} {mg : Str → Option Value} {base : Heap} (W__law_expression : FnW K mg "_law_expression" s__law_expression ["_law_box_here", "_law_world_here", "_law_sort", "_law_inner", "_law_sent", "_law_deep"]) (c__law_can_test : Cal cA P w K mg base 1 "_law_can_test" ["_law_world_here", "_law_inner"] spCan) (c__law_take : Cal cA P w K mg base 1 "_law_take" ["_law_box_here", "_law_many"] spTake) (c__law_leaf : Cal cA P w K mg base 4 "_law_leaf" ["_law_box_here", "_law_world_here", "_law_sort", "_law_inner", "_law_sent"] spLeaf) (c__law_test : Cal cA P w K mg base 5 "_law_test" ["_law_box_here", "_law_world_here", "_law_inner", "_law_deep"] (spTest 2)) (m : Nat) : Cal cA P w K mg base (5 + m) "_law_expression" ["_law_box_here", "_law_world_here", "_law_sort", "_law_inner", "_law_sent", "_law_deep"] (spExpr m) := by
  induction m with
  | zero => exact ((W__law_expression.bot).imp (fun ds st Q E h => by unfold spExpr at h; (repeat (obtain ⟨_, h⟩ := h)); omega)).mono (Nat.zero_le _)
  | succ m ih => exact W__law_expression.cal (k := 5 + m) sc__law_expression (by intro ds st Q E h; unfold spExpr at h; (repeat (obtain ⟨_, h⟩ := h)); subst_vars; rfl) (d__law_expression c__law_can_test c__law_take c__law_leaf c__law_test ih (by omega) (by omega) (by omega) (by omega) (Nat.le_refl _)) (by rintro ds s0 Q ⟨b, w, sort, inner, sent, deep, ps, gv, t, p, rfl, h1, h2, h3, h4, h5, h6, h7, q⟩; exact rd_expr h1 h2 h3 h4 (by simpa using h5) h6 h7 q)
theorem ch__law_ask {cA : Nat → Addr} {P : Program} {w : World} {K : PySem.W.Frag} {mg : Str → Option Value} {base : Heap} (W__law_ask : FnW K mg "_law_ask" s__law_ask ["_law_box_here", "_law_world_here", "_law_deep"]) (c__law_mixed : Cal cA P w K mg base 2 "_law_mixed" ["_law_box_here", "_law_items"] spMixed) (c__law_take : Cal cA P w K mg base 1 "_law_take" ["_law_box_here", "_law_many"] spTake) (c__law_expression : Cal cA P w K mg base 8 "_law_expression" ["_law_box_here", "_law_world_here", "_law_sort", "_law_inner", "_law_sent", "_law_deep"] (spExpr 3)) (c__law_leaf : Cal cA P w K mg base 4 "_law_leaf" ["_law_box_here", "_law_world_here", "_law_sort", "_law_inner", "_law_sent"] spLeaf) (b_int : mg "int" = none) (b_tuple : mg "tuple" = none) : Cal cA P w K mg base 9 "_law_ask" ["_law_box_here", "_law_world_here", "_law_deep"] spAsk :=
  W__law_ask.cal (sp := spAsk) sc__law_ask (by intro ds st Q E h; unfold spAsk at h; (repeat (obtain ⟨_, h⟩ := h)); subst_vars; rfl) (d__law_ask c__law_mixed c__law_take c__law_expression c__law_leaf b_int b_tuple (by omega) (by omega) (by omega) (by omega)) (by rintro ds s0 Q ⟨b, w, deep, ps, gv, t, p, rfl, h1, h2, h3, h4, h5, h6, q⟩; exact rd_ask h1 h2 h3 h4 h5 h6 q)
theorem ch__law_wrapping {cA : Nat → Addr} {P : Program} {w : World} {K : PySem.W.Frag} {mg : Str → Option Value} {base : Heap} (W__law_wrapping : FnW K mg "_law_wrapping" s__law_wrapping ["_law_box_here", "_law_world_here", "_law_deep"]) (c__law_can_test : Cal cA P w K mg base 1 "_law_can_test" ["_law_world_here", "_law_inner"] spCan) (c__law_leaf : Cal cA P w K mg base 4 "_law_leaf" ["_law_box_here", "_law_world_here", "_law_sort", "_law_inner", "_law_sent"] spLeaf) (c__law_take : Cal cA P w K mg base 1 "_law_take" ["_law_box_here", "_law_many"] spTake) (c__law_ask : Cal cA P w K mg base 9 "_law_ask" ["_law_box_here", "_law_world_here", "_law_deep"] spAsk) (c__law_test : Cal cA P w K mg base 5 "_law_test" ["_law_box_here", "_law_world_here", "_law_inner", "_law_deep"] (spTest 2)) (m : Nat) : Cal cA P w K mg base (9 + m) "_law_wrapping" ["_law_box_here", "_law_world_here", "_law_deep"] (spWrap m) := by
  induction m with
  | zero => exact ((W__law_wrapping.bot).imp (fun ds st Q E h => by unfold spWrap at h; (repeat (obtain ⟨_, h⟩ := h)); omega)).mono (Nat.zero_le _)
  | succ m ih => exact W__law_wrapping.cal (k := 9 + m) sc__law_wrapping (by intro ds st Q E h; unfold spWrap at h; (repeat (obtain ⟨_, h⟩ := h)); subst_vars; rfl) (d__law_wrapping c__law_can_test c__law_leaf c__law_take c__law_ask c__law_test ih (by omega) (by omega) (by omega) (by omega) (by omega) (Nat.le_refl _)) (by rintro ds s0 Q ⟨b, w, deep, ps, gv, t, p, rfl, h1, h2, h3, h4, h5, h6, q⟩; exact rd_wrap h1 h2 h3 (by simpa using h4) h5 h6 q)
theorem ch__law_body {cA : Nat → Addr} {P : Program} {w : World} {K : PySem.W.Frag} {mg : Str → Option Value} {base : Heap} (W__law_body : FnW K mg "_law_body" s__law_body ["_law_box_here", "_law_world_here", "_law_is_outer"]) (c__law_expression : Cal cA P w K mg base 8 "_law_expression" ["_law_box_here", "_law_world_here", "_law_sort", "_law_inner", "_law_sent", "_law_deep"] (spExpr 3)) (c__law_take : Cal cA P w K mg base 1 "_law_take" ["_law_box_here", "_law_many"] spTake) (c__law_can_test : Cal cA P w K mg base 1 "_law_can_test" ["_law_world_here", "_law_inner"] spCan) (c__law_ask : Cal cA P w K mg base 9 "_law_ask" ["_law_box_here", "_law_world_here", "_law_deep"] spAsk) (c__law_wrapping : Cal cA P w K mg base 12 "_law_wrapping" ["_law_box_here", "_law_world_here", "_law_deep"] (spWrap 3)) : Cal cA P w K mg base 13 "_law_body" ["_law_box_here", "_law_world_here", "_law_is_outer"] spBody :=
  W__law_body.cal (sp := spBody) sc__law_body (by intro ds st Q E h; unfold spBody at h; (repeat (obtain ⟨_, h⟩ := h)); subst_vars; rfl) (d__law_body c__law_expression c__law_take c__law_can_test c__law_ask c__law_wrapping (by omega) (by omega) (by omega) (by omega) (by omega)) (by rintro ds s0 Q ⟨b, w, outer, ps, gv, t, p, rfl, h1, h2, h3, h4, q⟩; exact rd_body h1 h2 h3 h4 q)
theorem ch__law_any_hook {cA : Nat → Addr} {P : Program} {w : World} {K : PySem.W.Frag} {mg : Str → Option Value} {base : Heap} (W__law_any_hook : FnW K mg "_law_any_hook" s__law_any_hook ["_law_box_here"]) (c__law_hook : Cal cA P w K mg base 4 "_law_hook" ["_law_box_here", "_law_name", "_law_kind"] spHook) (c__law_pick : Cal cA P w K mg base 2 "_law_pick" ["_law_box_here", "_law_items"] spPick) : Cal cA P w K mg base 5 "_law_any_hook" ["_law_box_here"] spAny :=
  W__law_any_hook.cal (sp := spAny) sc__law_any_hook (by intro ds st Q E h; unfold spAny at h; (repeat (obtain ⟨_, h⟩ := h)); subst_vars; rfl) (d__law_any_hook c__law_hook c__law_pick (by omega) (by omega)) (by rintro ds s0 Q ⟨b, rfl, h1, q⟩; exact rd_any h1 q)
theorem ch_forms_of {cA : Nat → Addr} {P : Program} {w : World} {K : PySem.W.Frag} {mg : Str → Option Value} {base : Heap} (W_forms_of : FnW K mg "forms_of" s_forms_of ["tree"]) {a_TESTS : Addr} (k_TESTS : KTab K cA w a_TESTS teT) (m_TESTS : mg "TESTS" = some (.ref a_TESTS)) {a_EXPRESSIONS : Addr} (k_EXPRESSIONS : KTab K cA w a_EXPRESSIONS exT) (m_EXPRESSIONS : mg "EXPRESSIONS" = some (.ref a_EXPRESSIONS)) : Cal cA P w K mg base 1 "forms_of" ["tree"] spForms :=
  W_forms_of.cal (sp := spForms) sc_forms_of (by intro ds st Q E h; unfold spForms at h; (repeat (obtain ⟨_, h⟩ := h)); subst_vars; rfl) (d_forms_of k_TESTS m_TESTS k_EXPRESSIONS m_EXPRESSIONS) (by rintro ds s0 Q ⟨h, r, rfl, q⟩; exact rd_forms q)
theorem ch_children {cA : Nat → Addr} {P : Program} {w : World} {K : PySem.W.Frag} {mg : Str → Option Value} {base : Heap} (W_children : FnW K mg "children" s_children ["tree"]) (c_forms_of : Cal cA P w K mg base 1 "forms_of" ["tree"] spForms) (b_enumerate : mg "enumerate" = none) (b_tuple : mg "tuple" = none) : Cal cA P w K mg base 2 "children" ["tree"] spKids :=
  W_children.cal (sp := spKids) sc_children (by intro ds st Q E h; unfold spKids at h; (repeat (obtain ⟨_, h⟩ := h)); subst_vars; rfl) (d_children c_forms_of b_enumerate b_tuple (by omega)) (by rintro ds s0 Q ⟨d, ks, rfl, h, q⟩; exact rd_kids h q)
theorem ch_count {cA : Nat → Addr} {P : Program} {w : World} {K : PySem.W.Frag} {mg : Str → Option Value} {base : Heap} (W_count : FnW K mg "count" s_count ["tree"]) (c_children : Cal cA P w K mg base 2 "children" ["tree"] spKids) (b_sum : mg "sum" = none) (m : Nat) : Cal cA P w K mg base (2 + m) "count" ["tree"] (spCount m) := by
  induction m with
  | zero => exact ((W_count.bot).imp (fun ds st Q E h => by unfold spCount at h; (repeat (obtain ⟨_, h⟩ := h)); omega)).mono (Nat.zero_le _)
  | succ m ih => exact W_count.cal (k := 2 + m) sc_count (by intro ds st Q E h; unfold spCount at h; (repeat (obtain ⟨_, h⟩ := h)); subst_vars; rfl) (d_count c_children ih b_sum (by omega) (Nat.le_refl _)) (by rintro ds s0 Q ⟨n, d, k, rfl, h1, h2, h3, q⟩; exact rd_count h1 h2 h3 q)
theorem ch__law_children {cA : Nat → Addr} {P : Program} {w : World} {K : PySem.W.Frag} {mg : Str → Option Value} {base : Heap} (W__law_children : FnW K mg "_law_children" s__law_children ["_law_tree"]) (b_range : mg "range" = none) (b_enumerate : mg "enumerate" = none) (b_int : mg "int" = none) (b_tuple : mg "tuple" = none) : Cal cA P w K mg base 1 "_law_children" ["_law_tree"] spKids :=
  W__law_children.cal (sp := spKids) sc__law_children (by intro ds st Q E h; unfold spKids at h; (repeat (obtain ⟨_, h⟩ := h)); subst_vars; rfl) (d__law_children b_range b_enumerate b_int b_tuple) (by rintro ds s0 Q ⟨d, ks, rfl, h, q⟩; exact rd_lkids h q)
theorem ch__law_all {cA : Nat → Addr} {P : Program} {w : World} {K : PySem.W.Frag} {mg : Str → Option Value} {base : Heap} (W__law_all : FnW K mg "_law_all" s__law_all ["_law_tree"]) (c__law_children : Cal cA P w K mg base 1 "_law_children" ["_law_tree"] spKids) : Cal cA P w K mg base 2 "_law_all" ["_law_tree"] spAll :=
  W__law_all.cal (sp := spAll) sc__law_all (by intro ds st Q E h; unfold spAll at h; (repeat (obtain ⟨_, h⟩ := h)); subst_vars; rfl) (d__law_all c__law_children (by omega)) (by rintro ds s0 Q ⟨d, k, rfl, h1, h2, q⟩; exact rd_all h1 h2 q)
theorem ch__law_greatest {cA : Nat → Addr} {P : Program} {w : World} {K : PySem.W.Frag} {mg : Str → Option Value} {base : Heap} (W__law_greatest : FnW K mg "_law_greatest" s__law_greatest []) : Cal cA P w K mg base 1 "_law_greatest" [] spGreat :=
  W__law_greatest.cal (sp := spGreat) sc__law_greatest (by intro ds st Q E h; unfold spGreat at h; (repeat (obtain ⟨_, h⟩ := h)); subst_vars; rfl) (d__law_greatest ) (by rintro ds s0 Q ⟨rfl, q⟩; exact rd_great q)
theorem ch__law_at_path {cA : Nat → Addr} {P : Program} {w : World} {K : PySem.W.Frag} {mg : Str → Option Value} {base : Heap} (W__law_at_path : FnW K mg "_law_at_path" s__law_at_path ["_law_tree", "_law_path"]) : Cal cA P w K mg base 1 "_law_at_path" ["_law_tree", "_law_path"] spAt :=
  W__law_at_path.cal (sp := spAt) sc__law_at_path (by intro ds st Q E h; unfold spAt at h; (repeat (obtain ⟨_, h⟩ := h)); subst_vars; rfl) (d__law_at_path ) (by rintro ds s0 Q ⟨d, is, c, rfl, h, q⟩; exact rd_at h q)
theorem law_body {cA : Nat → Addr} {P : Program} {w : World} {K : PySem.W.Frag} {mg : Str → Option Value} (W__law_take : FnW K mg "_law_take" s__law_take ["_law_box_here", "_law_many"]) (W__law_box : FnW K mg "_law_box" s__law_box ["_law_script", "_law_base"]) (W__law_pick : FnW K mg "_law_pick" s__law_pick ["_law_box_here", "_law_items"]) (W__law_mixed : FnW K mg "_law_mixed" s__law_mixed ["_law_box_here", "_law_items"]) (W__law_names : FnW K mg "_law_names" s__law_names ["_law_box_here", "_law_many"]) (W__law_value : FnW K mg "_law_value" s__law_value ["_law_box_here", "_law_sort"]) (W__law_number : FnW K mg "_law_number" s__law_number ["_law_box_here"]) (W__law_hook : FnW K mg "_law_hook" s__law_hook ["_law_box_here", "_law_name", "_law_kind"]) (W__law_world : FnW K mg "_law_world" s__law_world ["_law_hook_here"]) (W__law_can_test : FnW K mg "_law_can_test" s__law_can_test ["_law_world_here", "_law_inner"]) (W__law_leaf : FnW K mg "_law_leaf" s__law_leaf ["_law_box_here", "_law_world_here", "_law_sort", "_law_inner", "_law_sent"]) (W__law_test : FnW K mg "_law_test" s__law_test ["_law_box_here", "_law_world_here", "_law_inner", "_law_deep"]) (W__law_expression : FnW K mg "_law_expression" s__law_expression ["_law_box_here", "_law_world_here", "_law_sort", "_law_inner", "_law_sent", "_law_deep"]) (W__law_ask : FnW K mg "_law_ask" s__law_ask ["_law_box_here", "_law_world_here", "_law_deep"]) (W__law_wrapping : FnW K mg "_law_wrapping" s__law_wrapping ["_law_box_here", "_law_world_here", "_law_deep"]) (W__law_body : FnW K mg "_law_body" s__law_body ["_law_box_here", "_law_world_here", "_law_is_outer"]) (W__law_any_hook : FnW K mg "_law_any_hook" s__law_any_hook ["_law_box_here"]) (W_forms_of : FnW K mg "forms_of" s_forms_of ["tree"]) (W_children : FnW K mg "children" s_children ["tree"]) (W_count : FnW K mg "count" s_count ["tree"]) (W__law_children : FnW K mg "_law_children" s__law_children ["_law_tree"]) (W__law_all : FnW K mg "_law_all" s__law_all ["_law_tree"]) (W__law_greatest : FnW K mg "_law_greatest" s__law_greatest []) (W__law_at_path : FnW K mg "_law_at_path" s__law_at_path ["_law_tree", "_law_path"]) (W_law : FnW K mg "law" s_law ["_law_script"]) (b_abs : mg "abs" = none) (b_enumerate : mg "enumerate" = none) (b_int : mg "int" = none) (b_len : mg "len" = none) (b_list : mg "list" = none) (b_max : mg "max" = none) (b_range : mg "range" = none) (b_repr : mg "repr" = none) (b_sum : mg "sum" = none) (b_tuple : mg "tuple" = none) {a_EXPRESSIONS : Addr} (k_EXPRESSIONS : KTab K cA w a_EXPRESSIONS exT) (m_EXPRESSIONS : mg "EXPRESSIONS" = some (.ref a_EXPRESSIONS)) {a_TESTS : Addr} (k_TESTS : KTab K cA w a_TESTS teT) (m_TESTS : mg "TESTS" = some (.ref a_TESTS)) (base : Heap) : BodyD cA P w K mg base 13 "law" s_law N_law (t_law spBox spAny spBody spTake spWorld spAll spGreat spKids spKids (spCount 7) spAt) := by
  have c__law_take := ch__law_take (P := P) (cA := cA) (w := w) (base := base) W__law_take b_len
  have c__law_box := ch__law_box (P := P) (cA := cA) (w := w) (base := base) W__law_box b_abs
  have c__law_pick := ch__law_pick (P := P) (cA := cA) (w := w) (base := base) W__law_pick c__law_take b_len
  have c__law_mixed := ch__law_mixed (P := P) (cA := cA) (w := w) (base := base) W__law_mixed c__law_take b_list b_len b_range
  have c__law_names := ch__law_names (P := P) (cA := cA) (w := w) (base := base) W__law_names c__law_take c__law_mixed b_range b_len b_enumerate
  have c__law_value := ch__law_value (P := P) (cA := cA) (w := w) (base := base) W__law_value c__law_pick c__law_take
  have c__law_number := ch__law_number (P := P) (cA := cA) (w := w) (base := base) W__law_number c__law_take
  have c__law_hook := ch__law_hook (P := P) (cA := cA) (w := w) (base := base) W__law_hook c__law_names c__law_take c__law_pick c__law_value b_max b_range
  have c__law_world := ch__law_world (P := P) (cA := cA) (w := w) (base := base) W__law_world
  have c__law_can_test := ch__law_can_test (P := P) (cA := cA) (w := w) (base := base) W__law_can_test
  have c__law_leaf := ch__law_leaf (P := P) (cA := cA) (w := w) (base := base) W__law_leaf c__law_take c__law_pick c__law_number c__law_value b_int
  have c__law_test := ch__law_test (P := P) (cA := cA) (w := w) (base := base) W__law_test c__law_take c__law_pick c__law_number c__law_value b_int
  have c__law_expression := ch__law_expression (P := P) (cA := cA) (w := w) (base := base) W__law_expression c__law_can_test c__law_take c__law_leaf (c__law_test 2)
  have c__law_ask := ch__law_ask (P := P) (cA := cA) (w := w) (base := base) W__law_ask c__law_mixed c__law_take (c__law_expression 3) c__law_leaf b_int b_tuple
  have c__law_wrapping := ch__law_wrapping (P := P) (cA := cA) (w := w) (base := base) W__law_wrapping c__law_can_test c__law_leaf c__law_take c__law_ask (c__law_test 2)
  have c__law_body := ch__law_body (P := P) (cA := cA) (w := w) (base := base) W__law_body (c__law_expression 3) c__law_take c__law_can_test c__law_ask (c__law_wrapping 3)
  have c__law_any_hook := ch__law_any_hook (P := P) (cA := cA) (w := w) (base := base) W__law_any_hook c__law_hook c__law_pick
  have c_forms_of := ch_forms_of (P := P) (cA := cA) (w := w) (base := base) W_forms_of k_TESTS m_TESTS k_EXPRESSIONS m_EXPRESSIONS
  have c_children := ch_children (P := P) (cA := cA) (w := w) (base := base) W_children c_forms_of b_enumerate b_tuple
  have c_count := ch_count (P := P) (cA := cA) (w := w) (base := base) W_count c_children b_sum
  have c__law_children := ch__law_children (P := P) (cA := cA) (w := w) (base := base) W__law_children b_range b_enumerate b_int b_tuple
  have c__law_all := ch__law_all (P := P) (cA := cA) (w := w) (base := base) W__law_all c__law_children
  have c__law_greatest := ch__law_greatest (P := P) (cA := cA) (w := w) (base := base) W__law_greatest
  have c__law_at_path := ch__law_at_path (P := P) (cA := cA) (w := w) (base := base) W__law_at_path
  exact d_law c__law_box c__law_any_hook c__law_body c__law_take c__law_world c__law_all c__law_greatest c_children c__law_children (c_count 7) c__law_at_path b_range b_repr b_len (by omega) (by omega) (by omega) (by omega) (by omega) (by omega) (by omega) (by omega) (by omega) (by omega) (by omega)
theorem law_all {cA : Nat → Addr} {P : Program} {w : World} {K : PySem.W.Frag} {mg : Str → Option Value} {fa : Addr} (hfa : mg "law" = some (.ref fa)) (W__law_take : FnW K mg "_law_take" s__law_take ["_law_box_here", "_law_many"]) (W__law_box : FnW K mg "_law_box" s__law_box ["_law_script", "_law_base"]) (W__law_pick : FnW K mg "_law_pick" s__law_pick ["_law_box_here", "_law_items"]) (W__law_mixed : FnW K mg "_law_mixed" s__law_mixed ["_law_box_here", "_law_items"]) (W__law_names : FnW K mg "_law_names" s__law_names ["_law_box_here", "_law_many"]) (W__law_value : FnW K mg "_law_value" s__law_value ["_law_box_here", "_law_sort"]) (W__law_number : FnW K mg "_law_number" s__law_number ["_law_box_here"]) (W__law_hook : FnW K mg "_law_hook" s__law_hook ["_law_box_here", "_law_name", "_law_kind"]) (W__law_world : FnW K mg "_law_world" s__law_world ["_law_hook_here"]) (W__law_can_test : FnW K mg "_law_can_test" s__law_can_test ["_law_world_here", "_law_inner"]) (W__law_leaf : FnW K mg "_law_leaf" s__law_leaf ["_law_box_here", "_law_world_here", "_law_sort", "_law_inner", "_law_sent"]) (W__law_test : FnW K mg "_law_test" s__law_test ["_law_box_here", "_law_world_here", "_law_inner", "_law_deep"]) (W__law_expression : FnW K mg "_law_expression" s__law_expression ["_law_box_here", "_law_world_here", "_law_sort", "_law_inner", "_law_sent", "_law_deep"]) (W__law_ask : FnW K mg "_law_ask" s__law_ask ["_law_box_here", "_law_world_here", "_law_deep"]) (W__law_wrapping : FnW K mg "_law_wrapping" s__law_wrapping ["_law_box_here", "_law_world_here", "_law_deep"]) (W__law_body : FnW K mg "_law_body" s__law_body ["_law_box_here", "_law_world_here", "_law_is_outer"]) (W__law_any_hook : FnW K mg "_law_any_hook" s__law_any_hook ["_law_box_here"]) (W_forms_of : FnW K mg "forms_of" s_forms_of ["tree"]) (W_children : FnW K mg "children" s_children ["tree"]) (W_count : FnW K mg "count" s_count ["tree"]) (W__law_children : FnW K mg "_law_children" s__law_children ["_law_tree"]) (W__law_all : FnW K mg "_law_all" s__law_all ["_law_tree"]) (W__law_greatest : FnW K mg "_law_greatest" s__law_greatest []) (W__law_at_path : FnW K mg "_law_at_path" s__law_at_path ["_law_tree", "_law_path"]) (W_law : FnW K mg "law" s_law ["_law_script"]) (b_abs : mg "abs" = none) (b_enumerate : mg "enumerate" = none) (b_int : mg "int" = none) (b_len : mg "len" = none) (b_list : mg "list" = none) (b_max : mg "max" = none) (b_range : mg "range" = none) (b_repr : mg "repr" = none) (b_sum : mg "sum" = none) (b_tuple : mg "tuple" = none) {a_EXPRESSIONS : Addr} (k_EXPRESSIONS : KTab K cA w a_EXPRESSIONS exT) (m_EXPRESSIONS : mg "EXPRESSIONS" = some (.ref a_EXPRESSIONS)) {a_TESTS : Addr} (k_TESTS : KTab K cA w a_TESTS teT) (m_TESTS : mg "TESTS" = some (.ref a_TESTS)) :
    ∃ (fd : FuncData) (cA : Nat → Addr), (∀ (s : Shared) (u : Value), BindsTo s fd ⟨[u], []⟩ [("_law_script", u)]) ∧ ∀ base : Heap, K.In base → base.Ns mainGlobals mg → FnT cA P w K mg base 14 fa fd ["_law_script"] spLaw11 :=
  law_fin W_law hfa sc_law (by intro ds st Q E h; unfold spLaw11 at h; (repeat (obtain ⟨_, h⟩ := h)); subst_vars; rfl) (fun base => law_body W__law_take W__law_box W__law_pick W__law_mixed W__law_names W__law_value W__law_number W__law_hook W__law_world W__law_can_test W__law_leaf W__law_test W__law_expression W__law_ask W__law_wrapping W__law_body W__law_any_hook W_forms_of W_children W_count W__law_children W__law_all W__law_greatest W__law_at_path W_law b_abs b_enumerate b_int b_len b_list b_max b_range b_repr b_sum b_tuple k_EXPRESSIONS m_EXPRESSIONS k_TESTS m_TESTS base) (by rintro ds s0 Q ⟨ns, rfl, _, q⟩; exact rd_law11 q)
end TL
open PySem PySem.W PyProof.Rows
set_option maxRecDepth 100000 in
set_option maxHeartbeats 0 in
theorem PySem.Challenge.cw_hookrow_k11_trees_taken_apart_holds : PySem.Challenge.rw_hookrow_k11_trees_taken_apart.Holds := by
  w_on; o_law; k_head; (case hw => w_witness2)
  k_fill
  refine TL.walk_t (l := PySem.Challenge.rw_hookrow_k11_trees_taken_apart) (n := 63) (k := 14) (x := "_law_script") (sp := TL.spLaw11) rfl (by decide) rfl ⟨rfl, by decide, by decide⟩ (fun w h Y => PySem.W.kIn_of Y) ?F (fun ns hn => ⟨ns, rfl, by omega, fun _ => rfl⟩)
  case F =>
    intro w mg fa h KX G hmg
    refine' TL.law_all (cA := fun _ => 0) hmg (TL.fnw_mk KX G ?a0 ?l0 ?c0 ?k0 (fun _ _ _ _ _ _ us hl => match us, hl with | [_, _], _ => rfl)) (TL.fnw_mk KX G ?a1 ?l1 ?c1 ?k1 (fun _ _ _ _ _ _ us hl => match us, hl with | [_, _], _ => rfl)) (TL.fnw_mk KX G ?a2 ?l2 ?c2 ?k2 (fun _ _ _ _ _ _ us hl => match us, hl with | [_, _], _ => rfl)) (TL.fnw_mk KX G ?a3 ?l3 ?c3 ?k3 (fun _ _ _ _ _ _ us hl => match us, hl with | [_, _], _ => rfl)) (TL.fnw_mk KX G ?a4 ?l4 ?c4 ?k4 (fun _ _ _ _ _ _ us hl => match us, hl with | [_, _], _ => rfl)) (TL.fnw_mk KX G ?a5 ?l5 ?c5 ?k5 (fun _ _ _ _ _ _ us hl => match us, hl with | [_, _], _ => rfl)) (TL.fnw_mk KX G ?a6 ?l6 ?c6 ?k6 (fun _ _ _ _ _ _ us hl => match us, hl with | [_], _ => rfl)) (TL.fnw_mk KX G ?a7 ?l7 ?c7 ?k7 (fun _ _ _ _ _ _ us hl => match us, hl with | [_, _, _], _ => rfl)) (TL.fnw_mk KX G ?a8 ?l8 ?c8 ?k8 (fun _ _ _ _ _ _ us hl => match us, hl with | [_], _ => rfl)) (TL.fnw_mk KX G ?a9 ?l9 ?c9 ?k9 (fun _ _ _ _ _ _ us hl => match us, hl with | [_, _], _ => rfl)) (TL.fnw_mk KX G ?a10 ?l10 ?c10 ?k10 (fun _ _ _ _ _ _ us hl => match us, hl with | [_, _, _, _, _], _ => rfl)) (TL.fnw_mk KX G ?a11 ?l11 ?c11 ?k11 (fun _ _ _ _ _ _ us hl => match us, hl with | [_, _, _, _], _ => rfl)) (TL.fnw_mk KX G ?a12 ?l12 ?c12 ?k12 (fun _ _ _ _ _ _ us hl => match us, hl with | [_, _, _, _, _, _], _ => rfl)) (TL.fnw_mk KX G ?a13 ?l13 ?c13 ?k13 (fun _ _ _ _ _ _ us hl => match us, hl with | [_, _, _], _ => rfl)) (TL.fnw_mk KX G ?a14 ?l14 ?c14 ?k14 (fun _ _ _ _ _ _ us hl => match us, hl with | [_, _, _], _ => rfl)) (TL.fnw_mk KX G ?a15 ?l15 ?c15 ?k15 (fun _ _ _ _ _ _ us hl => match us, hl with | [_, _, _], _ => rfl)) (TL.fnw_mk KX G ?a16 ?l16 ?c16 ?k16 (fun _ _ _ _ _ _ us hl => match us, hl with | [_], _ => rfl)) (TL.fnw_mk KX G ?a17 ?l17 ?c17 ?k17 (fun _ _ _ _ _ _ us hl => match us, hl with | [_], _ => rfl)) (TL.fnw_mk KX G ?a18 ?l18 ?c18 ?k18 (fun _ _ _ _ _ _ us hl => match us, hl with | [_], _ => rfl)) (TL.fnw_mk KX G ?a19 ?l19 ?c19 ?k19 (fun _ _ _ _ _ _ us hl => match us, hl with | [_], _ => rfl)) (TL.fnw_mk KX G ?a20 ?l20 ?c20 ?k20 (fun _ _ _ _ _ _ us hl => match us, hl with | [_], _ => rfl)) (TL.fnw_mk KX G ?a21 ?l21 ?c21 ?k21 (fun _ _ _ _ _ _ us hl => match us, hl with | [_], _ => rfl)) (TL.fnw_mk KX G ?a22 ?l22 ?c22 ?k22 (fun _ _ _ _ _ _ us hl => match us, hl with | [], _ => rfl)) (TL.fnw_mk KX G ?a23 ?l23 ?c23 ?k23 (fun _ _ _ _ _ _ us hl => match us, hl with | [_, _], _ => rfl)) (TL.fnw_mk KX G ?a24 ?l24 ?c24 ?k24 (fun _ _ _ _ _ _ us hl => match us, hl with | [_], _ => rfl)) (PySem.W.mg_none_of KX G ?z_abs) (PySem.W.mg_none_of KX G ?z_enumerate) (PySem.W.mg_none_of KX G ?z_int) (PySem.W.mg_none_of KX G ?z_len) (PySem.W.mg_none_of KX G ?z_list) (PySem.W.mg_none_of KX G ?z_max) (PySem.W.mg_none_of KX G ?z_range) (PySem.W.mg_none_of KX G ?z_repr) (PySem.W.mg_none_of KX G ?z_sum) (PySem.W.mg_none_of KX G ?z_tuple) ?t_EXPRESSIONS (PySem.W.mg_of KX G ?m_EXPRESSIONS) ?t_TESTS (PySem.W.mg_of KX G ?m_TESTS)
    (case a0 => k_is)
    (case l0 => k_is)
    (case c0 => k_is)
    (case k0 => k_is)
    (case a1 => k_is)
    (case l1 => k_is)
    (case c1 => k_is)
    (case k1 => k_is)
    (case a2 => k_is)
    (case l2 => k_is)
    (case c2 => k_is)
    (case k2 => k_is)
    (case a3 => k_is)
    (case l3 => k_is)
    (case c3 => k_is)
    (case k3 => k_is)
    (case a4 => k_is)
    (case l4 => k_is)
    (case c4 => k_is)
    (case k4 => k_is)
    (case a5 => k_is)
    (case l5 => k_is)
    (case c5 => k_is)
    (case k5 => k_is)
    (case a6 => k_is)
    (case l6 => k_is)
    (case c6 => k_is)
    (case k6 => k_is)
    (case a7 => k_is)
    (case l7 => k_is)
    (case c7 => k_is)
    (case k7 => k_is)
    (case a8 => k_is)
    (case l8 => k_is)
    (case c8 => k_is)
    (case k8 => k_is)
    (case a9 => k_is)
    (case l9 => k_is)
    (case c9 => k_is)
    (case k9 => k_is)
    (case a10 => k_is)
    (case l10 => k_is)
    (case c10 => k_is)
    (case k10 => k_is)
    (case a11 => k_is)
    (case l11 => k_is)
    (case c11 => k_is)
    (case k11 => k_is)
    (case a12 => k_is)
    (case l12 => k_is)
    (case c12 => k_is)
    (case k12 => k_is)
    (case a13 => k_is)
    (case l13 => k_is)
    (case c13 => k_is)
    (case k13 => k_is)
    (case a14 => k_is)
    (case l14 => k_is)
    (case c14 => k_is)
    (case k14 => k_is)
    (case a15 => k_is)
    (case l15 => k_is)
    (case c15 => k_is)
    (case k15 => k_is)
    (case a16 => k_is)
    (case l16 => k_is)
    (case c16 => k_is)
    (case k16 => k_is)
    (case a17 => k_is)
    (case l17 => k_is)
    (case c17 => k_is)
    (case k17 => k_is)
    (case a18 => k_is)
    (case l18 => k_is)
    (case c18 => k_is)
    (case k18 => k_is)
    (case a19 => k_is)
    (case l19 => k_is)
    (case c19 => k_is)
    (case k19 => k_is)
    (case a20 => k_is)
    (case l20 => k_is)
    (case c20 => k_is)
    (case k20 => k_is)
    (case a21 => k_is)
    (case l21 => k_is)
    (case c21 => k_is)
    (case k21 => k_is)
    (case a22 => k_is)
    (case l22 => k_is)
    (case c22 => k_is)
    (case k22 => k_is)
    (case a23 => k_is)
    (case l23 => k_is)
    (case c23 => k_is)
    (case k23 => k_is)
    (case a24 => k_is)
    (case l24 => k_is)
    (case c24 => k_is)
    (case k24 => k_is)
    (case z_abs => k_is)
    (case z_enumerate => k_is)
    (case z_int => k_is)
    (case z_len => k_is)
    (case z_list => k_is)
    (case z_max => k_is)
    (case z_range => k_is)
    (case z_repr => k_is)
    (case z_sum => k_is)
    (case z_tuple => k_is)
    (case m_EXPRESSIONS => k_is)
    (case m_TESTS => k_is)
    (case t_EXPRESSIONS => refine' TL.ktab_mk ?q1 ?q2 ?q3 ?q4; (case q1 => k_is); (case q2 => rfl); (case q3 => repeat' (first | exact trivial | exact ⟨_, _, rfl, rfl⟩ | apply TL.lit_cons)); (case q4 => repeat' (first | exact trivial | exact ⟨_, rfl⟩ | apply TL.tab_str)))
    (case t_TESTS => refine' TL.ktab_mk ?q1 ?q2 ?q3 ?q4; (case q1 => k_is); (case q2 => rfl); (case q3 => repeat' (first | exact trivial | exact ⟨_, _, rfl, rfl⟩ | apply TL.lit_cons)); (case q4 => repeat' (first | exact trivial | exact ⟨_, rfl⟩ | apply TL.tab_str)))
