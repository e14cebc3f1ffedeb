import PyProof.Rows.All
import Wide.All
import OpenK.AllK
import Wide.FinOn
import HandS.ForMost
import HandS.ForExc
import HandS.TupAny
import HandS.Flow
import HandS.Style
import KE.GoesEnum
import KE.GoesEnumKw
import KE.GoesMore
import HandS.Deep
import HandS.RaiseMore
import PyProof.ListStr
import PyProof.ReprRoads
import HandS.More
import HandS.Defaults
import HandS.Star
import HandS.IsInst
import HandS.NamedTupSort
import HandS.FStr
import KE.KFmtOwn
import HandS.ListItems
import HandS.DictTup
import HandS.Finally
import HandS.DictComp
import HandS.TryOnly
import HandS.ExcInit
import HandS.ExcField
import HandS.ExcIs
import HandS.WordsExc
import KE.KExcIs
import PySem.Challenge.RW_hookrow_k03_hooks_refused
set_option Elab.async false
set_option linter.all false
set_option maxRecDepth 100000
/-! The tree layer: values as trees, mutable cells in a store. -/
namespace TL
open PySem L2

/-- a value as a tree; ref n: the mutable cell n -/
inductive D where
  | non | bl (b : Bool) | int (i : Int) | str (x : Str)
  | tup (ds : List D) | lst (ds : List D)
  | dct (kvs : List (Key × D))
  | obj (c : Nat) (fs : List (Str × D))
  | ref (n : Nat)
  | scr (ns : List Int)
/-- what stands in a mutable cell -/
inductive MO where
  | lst (ds : List D) | dct (kvs : List (Key × D)) | obj (c : Nat) (fs : List (Str × D)) | box
abbrev Sto := Nat → Option MO
def sup (st : Sto) (n : Nat) (m : MO) : Sto := fun k => if k = n then some m else st k
theorem sup_same {st : Sto} {n : Nat} {m : MO} : sup st n m n = some m := by simp [sup]
theorem sup_ne {st : Sto} {n k : Nat} {m : MO} (h : k ≠ n) : sup st n m k = st k := by simp [sup, h]
theorem sup_sup {st : Sto} {n : Nat} {m m' : MO} : sup (sup st n m) n m' = sup st n m' := by
  funext k; by_cases h : k = n <;> simp [sup, h]
/-- the cell n is given up -/
def sdel (st : Sto) (n : Nat) : Sto := fun k => if k = n then none else st k
theorem sdel_ne {st : Sto} {n k : Nat} (h : k ≠ n) : sdel st n k = st k := by simp [sdel, h]
theorem sdel_same {st : Sto} {n : Nat} : sdel st n n = none := by simp [sdel]
theorem sdel_sup {st : Sto} {n : Nat} {m : MO} (h : st n = none) : sdel (sup st n m) n = st := by
  funext k
  by_cases e : k = n
  · subst e; rw [sdel_same, h]
  · rw [sdel_ne e, sup_ne e]
/-- st' knows all that st knows -/
def Sub (st st' : Sto) : Prop := ∀ n m, st n = some m → st' n = some m
theorem Sub.refl (st : Sto) : Sub st st := fun _ _ h => h
theorem Sub.trans {a b c : Sto} (x : Sub a b) (y : Sub b c) : Sub a c := fun n m h => y n m (x n m h)
theorem Sub.new {st : Sto} {n : Nat} {m : MO} (h : st n = none) : Sub st (sup st n m) := fun k m' e => by
  have : k ≠ n := by rintro rfl; rw [h] at e; cases e
  rw [sup_ne this]; exact e
theorem Sub.upd {st st' : Sto} {n : Nat} {m : MO} (s : Sub st st') (h : st n = none) : Sub st (sup st' n m) := fun k m' e => by
  have : k ≠ n := by rintro rfl; rw [h] at e; cases e
  rw [sup_ne this]; exact s k m' e
theorem Sub.del {st st' : Sto} {n : Nat} (s : Sub st st') (h : st n = none) : Sub st (sdel st' n) := fun k m' e => by
  have : k ≠ n := by rintro rfl; rw [h] at e; cases e
  rw [sdel_ne this]; exact s k m' e
theorem Sub.none {st st' : Sto} {n : Nat} (s : Sub st st') (h : st' n = Option.none) : st n = Option.none := by
  cases e : st n with
  | none => rfl
  | some m => rw [s n m e] at h; cases h

/-- the fixed part: the written heap, the classes -/
structure Gx where
  K : PySem.W.Frag
  cA : Nat → Addr
/-- the ghost: where the cells stand, who owns an address -/
structure Gh where
  rho : Nat → Option Addr
  own : Addr → Option Nat

/-- nobody's, holding u -/
def Fz (g : Gh) (H : Hp) (a : Addr) (u : HO) : Prop := g.own a = none ∧ Rd H a u
def FT (X : Gx) (g : Gh) (H : Hp) (a : Addr) (vs : List V) : Prop := Fz g H a (.tup vs) ∨
  ∃ (o : Obj) (its : Array Value) (n : Nat), X.K.lookup a = some o ∧ o.cls = .type "tuple" ∧ o.data = .seq its n ∧ its.size ≤ sizeLine ∧ Vals vs its.toList
def FL (X : Gx) (g : Gh) (H : Hp) (a : Addr) (vs : List V) : Prop := Fz g H a (.lst vs) ∨
  ∃ (o : Obj) (its : Array Value) (n : Nat), X.K.lookup a = some o ∧ o.cls = .type "list" ∧ o.dict = none ∧ o.data = .seq its n ∧ its.size ≤ sizeLine ∧ Vals vs its.toList
theorem FT.sq {X : Gx} {g : Gh} {H : Hp} {a : Addr} {vs : List V} (h : FT X g H a vs) : SqT X.K H a vs := h.elim (fun h => .inl h.2) .inr
theorem FL.sq {X : Gx} {g : Gh} {H : Hp} {a : Addr} {vs : List V} (h : FL X g H a vs) : SqL X.K H a vs := h.elim (fun h => .inl h.2) .inr

mutual
/-- v in H stands for the tree d -/
inductive Rep (X : Gx) (g : Gh) (H : Hp) : V → D → Prop
  | non : Rep X g H .non .non
  | bl (b : Bool) : Rep X g H (.bl b) (.bl b)
  | int (i : Int) : Rep X g H (.int i) (.int i)
  | str (x : Str) : Rep X g H (.str x) (.str x)
  | tup {a : Addr} {vs : List V} {ds : List D} : FT X g H a vs → Reps X g H vs ds → Rep X g H (.ref a) (.tup ds)
  | lst {a : Addr} {vs : List V} {ds : List D} : g.own a = none → H a = some (.lst vs) → Reps X g H vs ds → Rep X g H (.ref a) (.lst ds)
  | scr {a : Addr} {ns : List Int} : FL X g H a (ns.map V.int) → Rep X g H (.ref a) (.scr ns)
  | dct {a : Addr} {kv : List (Key × V)} {kd : List (Key × D)} : Fz g H a (.dK kv) → RepK X g H kv kd → Rep X g H (.ref a) (.dct kd)
  | obj {a dx : Addr} {c : Nat} {fv : List (Str × V)} {fd : List (Str × D)} : g.own a = none → H a = some (.ins (X.cA c) dx fv) → RepF X g H fv fd → Rep X g H (.ref a) (.obj c fd)
  | ref {a : Addr} {n : Nat} : g.rho n = some a → Rep X g H (.ref a) (.ref n)
inductive Reps (X : Gx) (g : Gh) (H : Hp) : List V → List D → Prop
  | nil : Reps X g H [] []
  | cons {v : V} {vs : List V} {d : D} {ds : List D} : Rep X g H v d → Reps X g H vs ds → Reps X g H (v :: vs) (d :: ds)
inductive RepK (X : Gx) (g : Gh) (H : Hp) : List (Key × V) → List (Key × D) → Prop
  | nil : RepK X g H [] []
  | cons {k : Key} {v : V} {vs : List (Key × V)} {d : D} {ds : List (Key × D)} : Rep X g H v d → RepK X g H vs ds → RepK X g H ((k, v) :: vs) ((k, d) :: ds)
inductive RepF (X : Gx) (g : Gh) (H : Hp) : List (Str × V) → List (Str × D) → Prop
  | nil : RepF X g H [] []
  | cons {k : Str} {v : V} {vs : List (Str × V)} {d : D} {ds : List (Str × D)} : Rep X g H v d → RepF X g H vs ds → RepF X g H ((k, v) :: vs) ((k, d) :: ds)
end

def isDk : HO → Bool
  | .dK _ => true
  | .frz _ (.dK _) => true
  | _ => false
/-- no cell that st knows owns a -/
def Nob (g : Gh) (st : Sto) (a : Addr) : Prop := ∀ n, g.own a = some n → st n = none ∧ ∃ b, g.rho n = some b
theorem Nob.of {g : Gh} {st : Sto} {a : Addr} (h : g.own a = none) : Nob g st a := fun n e => by rw [h] at e; cases e
/-- what belongs to no cell of st stays as it was; cells keep their places -/
structure Step (g : Gh) (st : Sto) (H : Hp) (g' : Gh) (st' : Sto) (H' : Hp) : Prop where
  rho : ∀ n a, g.rho n = some a → g'.rho n = some a
  hid : ∀ n a, g.rho n = some a → st n = none → st' n = none
  own : ∀ a o, Nob g st a → H a = some o → g'.own a = g.own a
  ex : ∀ a o, Nob g st a → H a = some o → (isDk o = false ∨ g.own a ≠ none) → H' a = some o
  dk : ∀ a kv, g.own a = none → Rd H a (.dK kv) → Rd H' a (.dK kv)
theorem Step.refl (g : Gh) (st : Sto) (H : Hp) : Step g st H g st H := ⟨fun _ _ h => h, fun _ _ _ h => h, fun _ _ _ _ => rfl, fun _ _ _ h _ => h, fun _ _ _ h => h⟩
theorem rd_some {H : Hp} {a : Addr} {u : HO} (h : Rd H a u) : ∃ o, H a = Option.some o := h.elim (fun h => ⟨_, h⟩) fun ⟨_, h⟩ => ⟨_, h⟩
theorem isDk_rd {H : Hp} {a : Addr} {o : HO} (e : H a = some o) (q : isDk o = true) : ∃ kv, Rd H a (.dK kv) := by
  cases o with
  | dK kv => exact ⟨kv, .inl e⟩
  | frz ob u => cases u with
    | dK kv => exact ⟨kv, .inr ⟨ob, e⟩⟩
    | _ => cases q
  | _ => cases q
theorem Step.trans {g g1 g2 : Gh} {st st1 st2 : Sto} {H H1 H2 : Hp} (a : Step g st H g1 st1 H1) (b : Step g1 st1 H1 g2 st2 H2) : Step g st H g2 st2 H2 := by
  have nob : ∀ x o, Nob g st x → H x = some o → Nob g1 st1 x := fun x o w e n hn => by
    rw [a.own x o w e] at hn
    obtain ⟨h1, b, h2⟩ := w n hn
    exact ⟨a.hid n b h2 h1, b, a.rho n b h2⟩
  have there : ∀ x o, Nob g st x → H x = some o → ∃ o', H1 x = some o' := fun x o w e => by
    cases q : isDk o with
    | false => exact ⟨o, a.ex x o w e (.inl q)⟩
    | true =>
      cases hw : g.own x with
      | some n => exact ⟨o, a.ex x o w e (.inr (by rw [hw]; exact fun z => nomatch z))⟩
      | none =>
        obtain ⟨kv, r⟩ := isDk_rd e q
        exact rd_some (a.dk x kv hw r)
  refine ⟨fun n x h => b.rho n x (a.rho n x h), fun n x hn e => b.hid n x (a.rho n x hn) (a.hid n x hn e), fun x o w e => ?_, fun x o w e q => ?_, fun x kv w r => ?_⟩
  · obtain ⟨o1, e1⟩ := there x o w e
    rw [b.own x o1 (nob x o w e) e1, a.own x o w e]
  · refine b.ex x o (nob x o w e) (a.ex x o w e q) ?_
    rw [a.own x o w e]; exact q
  · obtain ⟨o, e⟩ := rd_some r
    refine b.dk x kv ?_ (a.dk x kv w r)
    rw [a.own x o (.of w) e]; exact w
theorem Step.fz {g g' : Gh} {st st' : Sto} {H H' : Hp} (s : Step g st H g' st' H') {a : Addr} {u : HO} (h : Fz g H a u) (hu : isDk u = false) (hu2 : ∀ ob, isDk (.frz ob u) = false) : Fz g' H' a u := by
  obtain ⟨w, r⟩ := h
  rcases r with r | ⟨ob, r⟩
  · exact ⟨by rw [s.own a _ (.of w) r]; exact w, .inl (s.ex a _ (.of w) r (.inl hu))⟩
  · exact ⟨by rw [s.own a _ (.of w) r]; exact w, .inr ⟨ob, s.ex a _ (.of w) r (.inl (hu2 ob))⟩⟩
section
variable {X : Gx} {g g' : Gh} {st st' : Sto} {H H' : Hp}
theorem FT.mono (s : Step g st H g' st' H') {a : Addr} {vs : List V} (h : FT X g H a vs) : FT X g' H' a vs := h.elim (fun h => .inl (s.fz h rfl fun _ => rfl)) .inr
theorem FL.mono (s : Step g st H g' st' H') {a : Addr} {vs : List V} (h : FL X g H a vs) : FL X g' H' a vs := h.elim (fun h => .inl (s.fz h rfl fun _ => rfl)) .inr
theorem Fz.dmono (s : Step g st H g' st' H') {a : Addr} {kv : List (Key × V)} (h : Fz g H a (.dK kv)) : Fz g' H' a (.dK kv) := let ⟨o, e⟩ := rd_some h.2; ⟨by rw [s.own a o (.of h.1) e]; exact h.1, s.dk a kv h.1 h.2⟩
mutual
theorem Rep.mono (s : Step g st H g' st' H') : ∀ {v : V} {d : D}, Rep X g H v d → Rep X g' H' v d
  | _, _, .non => .non
  | _, _, .bl b => .bl b
  | _, _, .int i => .int i
  | _, _, .str x => .str x
  | _, _, .tup h r => .tup (h.mono s) (Reps.mono s r)
  | _, _, .lst w h r => .lst ((s.own _ _ (.of w) h).trans w) (s.ex _ _ (.of w) h (.inl rfl)) (Reps.mono s r)
  | _, _, .scr h => .scr (h.mono s)
  | _, _, .dct h r => .dct (h.dmono s) (RepK.mono s r)
  | _, _, .obj w h r => .obj ((s.own _ _ (.of w) h).trans w) (s.ex _ _ (.of w) h (.inl rfl)) (RepF.mono s r)
  | _, _, .ref h => .ref (s.rho _ _ h)
theorem Reps.mono (s : Step g st H g' st' H') : ∀ {v : List V} {d : List D}, Reps X g H v d → Reps X g' H' v d
  | _, _, .nil => .nil
  | _, _, .cons r t => .cons (Rep.mono s r) (Reps.mono s t)
theorem RepK.mono (s : Step g st H g' st' H') : ∀ {v : List (Key × V)} {d : List (Key × D)}, RepK X g H v d → RepK X g' H' v d
  | _, _, .nil => .nil
  | _, _, .cons r t => .cons (Rep.mono s r) (RepK.mono s t)
theorem RepF.mono (s : Step g st H g' st' H') : ∀ {v : List (Str × V)} {d : List (Str × D)}, RepF X g H v d → RepF X g' H' v d
  | _, _, .nil => .nil
  | _, _, .cons r t => .cons (Rep.mono s r) (RepF.mono s t)
end
theorem Reps.length : ∀ {vs : List V} {ds : List D}, Reps X g H vs ds → vs.length = ds.length
  | _, _, .nil => rfl
  | _, _, .cons _ t => by simp [Reps.length t]
theorem Reps.append : ∀ {vs ws : List V} {ds es : List D}, Reps X g H vs ds → Reps X g H ws es → Reps X g H (vs ++ ws) (ds ++ es)
  | _, _, _, _, .nil, s => s
  | _, _, _, _, .cons r t, s => .cons r (Reps.append t s)
theorem Reps.get : ∀ {vs : List V} {ds : List D} {i : Nat} {d : D}, Reps X g H vs ds → ds[i]? = some d → ∃ v, vs[i]? = some v ∧ Rep X g H v d
  | _, _, _, _, .nil, e => by simp at e
  | _, _, 0, _, .cons r _, e => by simp at e; subst e; exact ⟨_, rfl, r⟩
  | _, _, i + 1, d, .cons _ t, e => by
    obtain ⟨u, h1, h2⟩ := Reps.get (i := i) (d := d) t (by simpa using e)
    exact ⟨u, by simpa using h1, h2⟩
theorem Reps.getv : ∀ {vs : List V} {ds : List D} {i : Nat} {v : V}, Reps X g H vs ds → vs[i]? = some v → ∃ d, ds[i]? = some d ∧ Rep X g H v d
  | _, _, _, _, .nil, e => by simp at e
  | _, _, 0, _, .cons r _, e => by simp at e; subst e; exact ⟨_, rfl, r⟩
  | _, _, i + 1, d, .cons _ t, e => by
    obtain ⟨u, h1, h2⟩ := Reps.getv (i := i) (v := d) t (by simpa using e)
    exact ⟨u, by simpa using h1, h2⟩
theorem Reps.set {v : V} {d : D} (r : Rep X g H v d) : ∀ {vs : List V} {ds : List D} (i : Nat), Reps X g H vs ds → Reps X g H (vs.set i v) (ds.set i d)
  | _, _, _, .nil => .nil
  | _, _, 0, .cons _ t => .cons r t
  | _, _, i + 1, .cons q t => .cons q (Reps.set r i t)
theorem Reps.take : ∀ {vs : List V} {ds : List D} (n : Nat), Reps X g H vs ds → Reps X g H (vs.take n) (ds.take n)
  | _, _, 0, _ => by simpa using Reps.nil
  | _, _, _ + 1, .nil => .nil
  | _, _, n + 1, .cons r t => .cons r (Reps.take n t)
theorem Reps.drop : ∀ {vs : List V} {ds : List D} (n : Nat), Reps X g H vs ds → Reps X g H (vs.drop n) (ds.drop n)
  | _, _, 0, r => r
  | _, _, _ + 1, .nil => .nil
  | _, _, n + 1, .cons _ t => Reps.drop n t
theorem Reps.eraseIdx : ∀ {vs : List V} {ds : List D} (i : Nat), Reps X g H vs ds → Reps X g H (vs.eraseIdx i) (ds.eraseIdx i)
  | _, _, _, .nil => .nil
  | _, _, 0, .cons _ t => t
  | _, _, i + 1, .cons r t => .cons r (Reps.eraseIdx i t)
theorem Reps.reverse : ∀ {vs : List V} {ds : List D}, Reps X g H vs ds → Reps X g H vs.reverse ds.reverse
  | _, _, .nil => .nil
  | _, _, .cons r t => by
    rw [List.reverse_cons, List.reverse_cons]
    exact (Reps.reverse t).append (.cons r .nil)
end

/-- a cell's content at its address -/
def MRep (X : Gx) (g : Gh) (H : Hp) (n : Nat) (a : Addr) : MO → Prop
  | .lst ds => ∃ vs, H a = some (.lst vs) ∧ Reps X g H vs ds
  | .dct kd => ∃ kv, H a = some (.dK kv) ∧ RepK X g H kv kd
  | .obj c fd => ∃ dx fv, H a = some (.ins (X.cA c) dx fv) ∧ RepF X g H fv fd
  | .box => ∃ (b : Addr) (gs : List Int) (now seed turn : Int), H a = some (.dK [(.inr "great", .ref b), (.inr "now", .int now), (.inr "seed", .int seed), (.inr "turn", .int turn)]) ∧
      H b = some (.lst (gs.map V.int)) ∧ g.own b = some n ∧ b ≠ a
structure Rel (X : Gx) (g : Gh) (st : Sto) (H : Hp) : Prop where
  cell : ∀ n m, st n = some m → ∃ a, g.rho n = some a ∧ g.own a = some n ∧ MRep X g H n a m
  own : ∀ a n, g.own a = some n → (∃ o, H a = some o) ∧ ∃ b, g.rho n = some b
  fin : ∃ N, ∀ n, N ≤ n → g.rho n = none ∧ st n = none
/-- cells may be forgotten -/
theorem Rel.sub {X : Gx} {g : Gh} {st st' : Sto} {H : Hp} (r : Rel X g st' H) (s : Sub st st') : Rel X g st H :=
  ⟨fun n m h => r.cell n m (s n m h), r.own, let ⟨N, h⟩ := r.fin; ⟨N, fun n hn => ⟨(h n hn).1, s.none (h n hn).2⟩⟩⟩
theorem Step.sub {g g' : Gh} {st st' st'' : Sto} {H H' : Hp} (a : Step g st H g' st' H') (s : Sub st'' st') : Step g st H g' st'' H' :=
  ⟨a.rho, fun n x h e => s.none (a.hid n x h e), a.own, a.ex, a.dk⟩
theorem Rel.free {X : Gx} {g : Gh} {st : Sto} {H : Hp} (r : Rel X g st H) {a : Addr} (h : H a = none) : g.own a = none := by
  cases e : g.own a with
  | none => rfl
  | some n => obtain ⟨⟨o, ho⟩, _⟩ := r.own a n e; rw [h] at ho; cases ho
theorem Rel.hid {X : Gx} {g : Gh} {st : Sto} {H : Hp} (r : Rel X g st H) {n : Nat} (h : g.rho n = none) : st n = none := by
  cases e : st n with
  | none => rfl
  | some m => obtain ⟨a, e1, _⟩ := r.cell n m e; rw [h] at e1; cases e1

section
variable {X : Gx} {g : Gh} {st : Sto} {H : Hp}
/-- a step where all that stood stands -/
theorem Step.grow {g : Gh} {st : Sto} {H H' : Hp} (h : ∀ a o, H a = some o → H' a = some o) : Step g st H g st H' :=
  ⟨fun _ _ e => e, fun _ _ _ e => e, fun a o _ _ => rfl, fun a o _ e _ => h a o e, fun a kv _ r => r.elim (fun e => .inl (h _ _ e)) fun ⟨ob, e⟩ => .inr ⟨ob, h _ _ e⟩⟩
/-- what was not there ahead of a step may be written behind it -/
theorem Step.poke {g g' : Gh} {st st' : Sto} {H H' : Hp} (s : Step g st H g' st' H') {p : Addr} {o : HO} (hp : H p = none) : Step g st H g' st' (upd H' p o) :=
  ⟨s.rho, s.hid, s.own, fun a u w e q => by rw [upd_ne (ne_of_none e hp)]; exact s.ex a u w e q, fun a kv w r => by
    have hq := s.dk a kv w r
    have hne : a ≠ p := let ⟨o, e⟩ := rd_some r; ne_of_none e hp
    rcases hq with e | ⟨ob, e⟩
    · exact .inl (by rw [upd_ne hne]; exact e)
    · exact .inr ⟨ob, by rw [upd_ne hne]; exact e⟩⟩
theorem MRep.mono {g g' : Gh} {st st' : Sto} {H H' : Hp} (s : Step g st H g' st' H') {n : Nat} {a : Addr} {m : MO} (hH : ∀ b, g.own b = some n → H' b = H b) (ho : ∀ b, g.own b = some n → g'.own b = some n) (ha : g.own a = some n) (h : MRep X g H n a m) : MRep X g' H' n a m := by
  cases m with
  | lst ds => obtain ⟨vs, e, r⟩ := h; exact ⟨vs, (hH a ha).trans e, r.mono s⟩
  | dct kd => obtain ⟨vs, e, r⟩ := h; exact ⟨vs, (hH a ha).trans e, r.mono s⟩
  | obj c fd => obtain ⟨dx, vs, e, r⟩ := h; exact ⟨dx, vs, (hH a ha).trans e, r.mono s⟩
  | box =>
    obtain ⟨b, gs, now, seed, turn, e1, e2, o, ne⟩ := h
    exact ⟨b, gs, now, seed, turn, (hH a ha).trans e1, (hH b o).trans e2, ho b o, ne⟩
/-- something new is laid that is nobody's -/
theorem Rel.lay (r : Rel X g st H) {p : Addr} {o : HO} (hp : H p = none) : Step g st H g st (upd H p o) ∧ Rel X g st (upd H p o) := by
  have s : Step g st H g st (upd H p o) := Step.grow fun a u e => by rw [upd_ne (ne_of_none e hp)]; exact e
  have hown : ∀ b n, g.own b = some n → b ≠ p := fun b n e => by
    obtain ⟨⟨u, hu⟩, _⟩ := r.own b n e
    exact ne_of_none hu hp
  refine ⟨s, fun n m h => ?_, fun a n e => ?_, r.fin⟩
  · obtain ⟨a, e1, e2, e3⟩ := r.cell n m h
    exact ⟨a, e1, e2, e3.mono s (fun b hb => upd_ne (hown b n hb)) (fun _ h => h) e2⟩
  · obtain ⟨⟨u, hu⟩, q⟩ := r.own a n e
    exact ⟨⟨u, by rw [upd_ne (hown a n e)]; exact hu⟩, q⟩
/-- a new cell -/
def Gh.new (g : Gh) (n : Nat) (p : Addr) : Gh := ⟨fun k => if k = n then some p else g.rho k, fun a => if a = p then some n else g.own a⟩
theorem Rel.cellNew (r : Rel X g st H) {p : Addr} {o : HO} (hp : H p = none) {n : Nat} (hn : g.rho n = none) {m : MO}
    (hm : ∀ g' st', Step g st H g' st' (upd H p o) → MRep X g' (upd H p o) n p m) : Step g st H (g.new n p) (sup st n m) (upd H p o) ∧ Rel X (g.new n p) (sup st n m) (upd H p o) := by
  have hown : ∀ b k, g.own b = some k → b ≠ p := fun b n e => by
    obtain ⟨⟨u, hu⟩, _⟩ := r.own b n e
    exact ne_of_none hu hp
  have hrho : ∀ k a, g.rho k = some a → k ≠ n := fun k a e => by rintro rfl; rw [hn] at e; cases e
  have s : Step g st H (g.new n p) (sup st n m) (upd H p o) := by
    refine ⟨fun k a e => ?_, fun k a e q => ?_, fun a o w e => ?_, fun a o w e _ => ?_, fun a kv w r => ?_⟩
    · simp [Gh.new, hrho k a e, e]
    · rw [sup_ne (hrho k a e)]; exact q
    · simp [Gh.new, ne_of_none e hp]
    · rw [upd_ne (ne_of_none e hp)]; exact e
    · rcases r with e | ⟨ob, e⟩
      · exact .inl (by rw [upd_ne (ne_of_none e hp)]; exact e)
      · exact .inr ⟨ob, by rw [upd_ne (ne_of_none e hp)]; exact e⟩
  refine ⟨s, fun k m' h => ?_, fun a k e => ?_, ?_⟩
  · by_cases hk : k = n
    · subst hk
      rw [sup_same] at h; cases h
      exact ⟨p, by simp [Gh.new], by simp [Gh.new], hm _ _ s⟩
    · rw [sup_ne hk] at h
      obtain ⟨a, e1, e2, e3⟩ := r.cell k m' h
      have hap := hown a k e2
      exact ⟨a, by simp [Gh.new, hk, e1], by simp [Gh.new, hap, e2], e3.mono s (fun b hb => upd_ne (hown b k hb)) (fun b hb => by simp [Gh.new, hown b k hb, hb]) e2⟩
  · by_cases ha : a = p
    · subst ha
      have : k = n := by simpa [Gh.new, eq_comm] using e
      subst this
      exact ⟨⟨_, upd_same⟩, a, by simp [Gh.new]⟩
    · have : g.own a = some k := by simpa [Gh.new, ha] using e
      obtain ⟨⟨u, hu⟩, b, hb⟩ := r.own a k this
      exact ⟨⟨u, by rw [upd_ne ha]; exact hu⟩, b, by simp [Gh.new, hrho k b hb, hb]⟩
  · obtain ⟨N, hN⟩ := r.fin
    refine ⟨max N (n + 1), fun k hk => ?_⟩
    have h1 : N ≤ k := by omega
    have h2 : k ≠ n := by omega
    exact ⟨by simp [Gh.new, h2, (hN k h1).1], by rw [sup_ne h2]; exact (hN k h1).2⟩
/-- a cell is written -/
theorem Rel.write (r : Rel X g st H) {n : Nat} {a : Addr} {m m' : MO} {o : HO} (h : st n = some m) (ha : g.rho n = some a) (hm : ∀ st' H', Step g st H g st' H' → H' = upd H a o → MRep X g H' n a m') :
    Step g st H g (sup st n m') (upd H a o) ∧ Rel X g (sup st n m') (upd H a o) := by
  obtain ⟨a', e1, e2, e3⟩ := r.cell n m h
  rw [ha] at e1; cases e1
  have nb : ∀ b, Nob g st b → b ≠ a := fun b w => by
    rintro rfl
    rw [(w n e2).1] at h; cases h
  have s : Step g st H g (sup st n m') (upd H a o) := by
    refine ⟨fun _ _ e => e, fun k b e q => ?_, fun b o w _ => rfl, fun b o w e _ => by rw [upd_ne (nb b w)]; exact e, fun b kv w r => ?_⟩
    · have : k ≠ n := by rintro rfl; rw [q] at h; cases h
      rw [sup_ne this]; exact q
    · rcases r with e | ⟨ob, e⟩
      · exact .inl (by rw [upd_ne (nb b (.of w))]; exact e)
      · exact .inr ⟨ob, by rw [upd_ne (nb b (.of w))]; exact e⟩
  refine ⟨s, fun k mk hk => ?_, fun b k e => ?_, ?_⟩
  · by_cases hkn : k = n
    · subst hkn
      rw [sup_same] at hk; cases hk
      exact ⟨a, ha, e2, hm _ _ s rfl⟩
    · rw [sup_ne hkn] at hk
      obtain ⟨b, f1, f2, f3⟩ := r.cell k mk hk
      exact ⟨b, f1, f2, f3.mono s (fun c hc => upd_ne (by rintro rfl; rw [e2] at hc; exact hkn (Option.some.inj hc).symm)) (fun _ h => h) f2⟩
  · by_cases hb : b = a
    · subst hb; exact ⟨⟨_, upd_same⟩, (r.own b k e).2⟩
    · obtain ⟨⟨u, hu⟩, q⟩ := r.own b k e
      exact ⟨⟨u, by rw [upd_ne hb]; exact hu⟩, q⟩
  · obtain ⟨N, hN⟩ := r.fin
    refine ⟨N, fun k hk => ⟨(hN k hk).1, ?_⟩⟩
    have : k ≠ n := by rintro rfl; rw [(hN k hk).2] at h; cases h
    rw [sup_ne this]; exact (hN k hk).2
/-- a cell is frozen -/
def Gh.fr (g : Gh) (p : Addr) : Gh := ⟨g.rho, fun a => if a = p then none else g.own a⟩
theorem Rel.freeze (r : Rel X g st H) {n : Nat} {a : Addr} {m : MO} (h : st n = some m) (ha : g.rho n = some a) : Step g st H (g.fr a) (sdel st n) H ∧ Rel X (g.fr a) (sdel st n) H := by
  obtain ⟨a', e1, e2, e3⟩ := r.cell n m h
  rw [ha] at e1; cases e1
  have nb : ∀ b, Nob g st b → b ≠ a := fun b w => by
    rintro rfl
    rw [(w n e2).1] at h; cases h
  have s : Step g st H (g.fr a) (sdel st n) H := by
    refine ⟨fun _ _ e => e, fun k b e q => ?_, fun b o w _ => by simp [Gh.fr, nb b w], fun b o _ e _ => e, fun b kv _ r => r⟩
    by_cases hk : k = n
    · subst hk; exact sdel_same
    · rw [sdel_ne hk]; exact q
  refine ⟨s, fun k mk hk => ?_, fun b k e => ?_, ?_⟩
  · have hkn : k ≠ n := by rintro rfl; rw [sdel_same] at hk; cases hk
    rw [sdel_ne hkn] at hk
    obtain ⟨b, f1, f2, f3⟩ := r.cell k mk hk
    have nb : ∀ c, g.own c = some k → c ≠ a := fun c hc => by rintro rfl; rw [e2] at hc; exact hkn (Option.some.inj hc).symm
    exact ⟨b, f1, by simp [Gh.fr, nb b f2, f2], f3.mono s (fun _ _ => rfl) (fun c hc => by simp [Gh.fr, nb c hc, hc]) f2⟩
  · by_cases hb : b = a
    · subst hb; simp [Gh.fr] at e
    · exact r.own b k (by simpa [Gh.fr, hb] using e)
  · obtain ⟨N, hN⟩ := r.fin
    refine ⟨N, fun k hk => ⟨(hN k hk).1, ?_⟩⟩
    by_cases hkn : k = n
    · subst hkn; exact sdel_same
    · rw [sdel_ne hkn]; exact (hN k hk).2
end
end TL
namespace TL
open PySem L2

/-! ### readings over trees -/
abbrev DSt := List (Option D)
abbrev QD := D → Sto → Prop
abbrev TDE := DSt → Sto → QD → Prop
abbrev TDT := DSt → Sto → (Bool → Sto → Prop) → Prop
abbrev TDA := DSt → Sto → (List D → Sto → Prop) → Prop
structure DEnds where
  nx : DSt → Sto → Prop
  rt : QD
  bk : DSt → Sto → Prop := fun _ _ => False
  ct : DSt → Sto → Prop := fun _ _ => False
abbrev TDS := DEnds → DSt → Sto → Prop
structure EnvR (G : Gx) (g : Gh) (H : Hp) (σ : St) (env : DSt) : Prop where
  len : σ.length = env.length
  get : ∀ (i : Nat) d, env[i]? = some (some d) → ∃ v, σ[i]? = some (some v) ∧ Rep G g H v d
section
variable {G : Gx} {g g' : Gh} {st st' : Sto} {H H' : Hp} {σ : St} {env : DSt}
theorem EnvR.mono (s : Step g st H g' st' H') (e : EnvR G g H σ env) : EnvR G g' H' σ env := ⟨e.len, fun i d h => let ⟨v, a, b⟩ := e.get i d h; ⟨v, a, b.mono s⟩⟩
theorem EnvR.set (e : EnvR G g H σ env) {v : V} {d : D} (r : Rep G g H v d) (i : Nat) : EnvR G g H (σ.set i (some v)) (env.set i (some d)) := by
  refine ⟨by simp [e.len], fun j d' h => ?_⟩
  by_cases hj : j = i
  · subst hj
    by_cases hl : j < env.length
    · rw [List.getElem?_set_self hl] at h
      cases h
      exact ⟨v, List.getElem?_set_self (by rw [e.len]; exact hl), r⟩
    · rw [List.getElem?_eq_none (by simp; omega)] at h; cases h
  · rw [List.getElem?_set_ne (Ne.symm hj)] at h ⊢
    exact e.get j d' h
end
def Post (G : Gx) (g : Gh) (st : Sto) (H : Hp) (Qd : QD) (Q : VK) : Prop := ∀ d st' g' H' v, Step g st H g' st' H' → Rel G g' st' H' → Rep G g' H' v d → Qd d st' → Q v H'
def PostT (G : Gx) (g : Gh) (st : Sto) (H : Hp) (Qd : Bool → Sto → Prop) (Q : Bool → Hp → Prop) : Prop := ∀ b st' g' H', Step g st H g' st' H' → Rel G g' st' H' → Qd b st' → Q b H'
def PostA (G : Gx) (g : Gh) (st : Sto) (H : Hp) (Qd : List D → Sto → Prop) (Q : List V → Hp → Prop) : Prop := ∀ ds st' g' H' vs, Step g st H g' st' H' → Rel G g' st' H' → Reps G g' H' vs ds → Qd ds st' → Q vs H'
def PostN (G : Gx) (g : Gh) (st : Sto) (H : Hp) (Qd : DSt → Sto → Prop) (Q : St → Hp → Prop) : Prop := ∀ env st' g' H' σ, Step g st H g' st' H' → Rel G g' st' H' → EnvR G g' H' σ env → Qd env st' → Q σ H'
theorem Post.step {G : Gx} {g g1 : Gh} {st st1 : Sto} {H H1 : Hp} {Qd : QD} {Q : VK} (p : Post G g st H Qd Q) (s : Step g st H g1 st1 H1) : Post G g1 st1 H1 Qd Q := fun d st' g' H' v s1 => p d st' g' H' v (s.trans s1)
theorem PostT.step {G : Gx} {g g1 : Gh} {st st1 : Sto} {H H1 : Hp} {Qd : Bool → Sto → Prop} {Q : Bool → Hp → Prop} (p : PostT G g st H Qd Q) (s : Step g st H g1 st1 H1) : PostT G g1 st1 H1 Qd Q := fun d st' g' H' s1 => p d st' g' H' (s.trans s1)
theorem PostA.step {G : Gx} {g g1 : Gh} {st st1 : Sto} {H H1 : Hp} {Qd : List D → Sto → Prop} {Q : List V → Hp → Prop} (p : PostA G g st H Qd Q) (s : Step g st H g1 st1 H1) : PostA G g1 st1 H1 Qd Q := fun d st' g' H' v s1 => p d st' g' H' v (s.trans s1)
theorem PostN.step {G : Gx} {g g1 : Gh} {st st1 : Sto} {H H1 : Hp} {Qd : DSt → Sto → Prop} {Q : St → Hp → Prop} (p : PostN G g st H Qd Q) (s : Step g st H g1 st1 H1) : PostN G g1 st1 H1 Qd Q := fun d st' g' H' v s1 => p d st' g' H' v (s.trans s1)
theorem Post.now {G : Gx} {g : Gh} {st : Sto} {H : Hp} {Qd : QD} {Q : VK} (p : Post G g st H Qd Q) {d : D} {v : V} (r : Rel G g st H) (rv : Rep G g H v d) (q : Qd d st) : Q v H := p d st g H v (Step.refl g st H) r rv q
structure PostS (G : Gx) (g : Gh) (st : Sto) (H : Hp) (Dd : DEnds) (D : Ends) : Prop where
  nx : PostN G g st H Dd.nx D.nx
  rt : Post G g st H Dd.rt D.rt
  bk : PostN G g st H Dd.bk D.bk
  ct : PostN G g st H Dd.ct D.ct
theorem PostS.step {G : Gx} {g g1 : Gh} {st st1 : Sto} {H H1 : Hp} {Dd : DEnds} {D : Ends} (p : PostS G g st H Dd D) (s : Step g st H g1 st1 H1) : PostS G g1 st1 H1 Dd D := ⟨p.nx.step s, p.rt.step s, p.bk.step s, p.ct.step s⟩

def liftE (G : Gx) (t : TDE) : TE := fun σ H Q => ∃ g st env Qd, Rel G g st H ∧ EnvR G g H σ env ∧ t env st Qd ∧ Post G g st H Qd Q
def liftT (G : Gx) (t : TDT) : TT := fun σ H Q => ∃ g st env Qd, Rel G g st H ∧ EnvR G g H σ env ∧ t env st Qd ∧ PostT G g st H Qd Q
def liftA (G : Gx) (t : TDA) : TA := fun σ H Q => ∃ g st env Qd, Rel G g st H ∧ EnvR G g H σ env ∧ t env st Qd ∧ PostA G g st H Qd Q
def liftS (G : Gx) (t : TDS) : TS := fun D σ H => ∃ g st env Dd, Rel G g st H ∧ EnvR G g H σ env ∧ t Dd env st ∧ PostS G g st H Dd D

/-- the context's fixed part -/
abbrev gx (X : Cx) (cA : Nat → Addr) : Gx := ⟨X.K, cA⟩
def DE (cA : Nat → Addr) (X : Cx) (e : Expr) (t : TDE) : Prop := PE X e (liftE (gx X cA) t)
def DT (cA : Nat → Addr) (X : Cx) (e : Expr) (t : TDT) : Prop := PT X e (liftT (gx X cA) t)
def DW (cA : Nat → Addr) (X : Cx) (e : Expr) (t : TDT) : Prop := PW X e (liftT (gx X cA) t)
def DA (cA : Nat → Addr) (X : Cx) (es : List Expr) (t : TDA) : Prop := PA X es (liftA (gx X cA) t)
def DS (cA : Nat → Addr) (X : Cx) (st : Stmt) (t : TDS) : Prop := PS X st (liftS (gx X cA) t)
def DSs (cA : Nat → Addr) (X : Cx) (st : List Stmt) (t : TDS) : Prop := PSs X st (liftS (gx X cA) t)

/-! ### weakening -/
section
variable {X : Cx} {cA : Nat → Addr}
theorem pe_weak {e : Expr} {t t' : TE} (h : PE X e t) (i : ∀ σ H Q, t' σ H Q → t σ H Q) : PE X e t' := ⟨fun pins s σ H Q I q => h.run pins s σ H Q I (i σ H Q q)⟩
theorem pt_weak {e : Expr} {t t' : TT} (h : PT X e t) (i : ∀ σ H Q, t' σ H Q → t σ H Q) : PT X e t' := ⟨fun pins s σ H Q I q => h.run pins s σ H Q I (i σ H Q q)⟩
theorem pw_weak {e : Expr} {t t' : TT} (h : PW X e t) (i : ∀ σ H Q, t' σ H Q → t σ H Q) : PW X e t' := ⟨fun w pins s σ H Q I q => h.run w pins s σ H Q I (i σ H Q q)⟩
theorem pa_weak {e : List Expr} {t t' : TA} (h : PA X e t) (i : ∀ σ H Q, t' σ H Q → t σ H Q) : PA X e t' := ⟨fun pos pins s σ H Q I q => h.run pos pins s σ H Q I (i σ H Q q)⟩
theorem ps_weak {e : Stmt} {t t' : TS} (h : PS X e t) (i : ∀ σ H Q, t' Q σ H → t Q σ H) : PS X e t' := ⟨fun pins s σ H Q I q => h.run pins s σ H Q I (i σ H Q q)⟩
theorem pss_weak {e : List Stmt} {t t' : TS} (h : PSs X e t) (i : ∀ σ H Q, t' Q σ H → t Q σ H) : PSs X e t' := ⟨fun pins s σ H Q I q => h.run pins s σ H Q I (i σ H Q q)⟩

/-! ### names, constants -/
def dVar (i : Nat) : TDE := fun env st Q => match env[i]? with
  | some (some d) => Q d st
  | _ => False
theorem de_var {i : Nat} {x : Str} {pos : Pos} (hN : X.N[i]? = some x := by rfl) (hv : Vis X.env.scope x := by first | exact Or.inl rfl | exact Or.inr (Or.inl rfl) | exact Or.inr (Or.inr rfl)) (hd : (x == ("__debug__" : Str)) = false := by decide)
    (hcd : (x == ("__classdict__" : Str)) = false := by decide) : DE cA X (.Name x pos) (dVar i) :=
  pe_weak (pe_var hN hv hd hcd) fun σ H Q ⟨g, st, env, Qd, r, e, h, p⟩ => by
    unfold dVar at h
    split at h
    · rename_i d hd
      obtain ⟨v, hv, rv⟩ := e.get i d hd
      exact ⟨v, hv, p.now r rv h⟩
    · exact h.elim
theorem dv (i : Nat) {x : Str} {pos : Pos} (hN : X.N[i]? = some x := by rfl) (hv : Vis X.env.scope x := by first | exact Or.inl rfl | exact Or.inr (Or.inl rfl) | exact Or.inr (Or.inr rfl)) (hd : (x == ("__debug__" : Str)) = false := by decide)
    (hcd : (x == ("__classdict__" : Str)) = false := by decide) : DE cA X (.Name x pos) (dVar i) := de_var hN hv hd hcd
def dC (d : D) : TDE := fun _ st Q => Q d st
theorem de_const {e : Expr} {v : V} {d : D} (h : PE X e (tC v)) (r : ∀ g H, Rep (gx X cA) g H v d) : DE cA X e (dC d) :=
  pe_weak h fun σ H Q ⟨g, st, env, Qd, rl, e, h, p⟩ => p.now rl (r g H) h
theorem de_int {i j pos} : DE cA X (.Constant (.int i) j pos) (dC (.int i)) := de_const pe_int fun _ _ => .int i
theorem de_bl {i j pos} : DE cA X (.Constant (.bool i) j pos) (dC (.bl i)) := de_const pe_bl fun _ _ => .bl i
theorem de_non {j pos} : DE cA X (.Constant .none j pos) (dC .non) := de_const pe_non fun _ _ => .non
theorem de_str {i j pos} : DE cA X (.Constant (.str i) j pos) (dC (.str i)) := de_const pe_str fun _ _ => .str i

/-! ### operators by values -/
abbrev RD2 := D → D → Sto → QD → Prop
abbrev RD1 := D → Sto → QD → Prop
/-- the tree's reading implies the layer's -/
def Im2 (G : Gx) (r : R2) (rd : RD2) : Prop := ∀ g st H x y dx dy Qd Q, Rel G g st H → Rep G g H x dx → Rep G g H y dy → rd dx dy st Qd → Post G g st H Qd Q → r x y H Q
def Im1 (G : Gx) (r : V → Hp → VK → Prop) (rd : RD1) : Prop := ∀ g st H x dx Qd Q, Rel G g st H → Rep G g H x dx → rd dx st Qd → Post G g st H Qd Q → r x H Q
def ImA (G : Gx) (r : List V → Hp → VK → Prop) (rd : List D → Sto → QD → Prop) : Prop := ∀ g st H xs ds Qd Q, Rel G g st H → Reps G g H xs ds → rd ds st Qd → Post G g st H Qd Q → r xs H Q
def dOp (rd : RD2) (ta tb : TDE) : TDE := fun env st Q => ta env st fun x st1 => tb env st1 fun y st2 => rd x y st2 Q
def dUn (rd : RD1) (ta : TDE) : TDE := fun env st Q => ta env st fun x st1 => rd x st1 Q
theorem lift2 {r : R2} {rd : RD2} {ta tb : TDE} (im : Im2 (gx X cA) r rd) : ∀ σ H Q, liftE (gx X cA) (dOp rd ta tb) σ H Q → tOp r (liftE (gx X cA) ta) (liftE (gx X cA) tb) σ H Q := by
  rintro σ H Q ⟨g, st, env, Qd, rl, en, h, p⟩
  refine ⟨g, st, env, _, rl, en, h, fun d1 st1 g1 H1 v1 s1 rl1 r1 h1 => ?_⟩
  refine ⟨g1, st1, env, _, rl1, en.mono s1, h1, fun d2 st2 g2 H2 v2 s2 rl2 r2 h2 => ?_⟩
  exact im g2 st2 H2 v1 v2 d1 d2 Qd Q rl2 (r1.mono s2) r2 h2 (p.step (s1.trans s2))
theorem lift1 {r : V → Hp → VK → Prop} {rd : RD1} {ta : TDE} (im : Im1 (gx X cA) r rd) : ∀ σ H Q, liftE (gx X cA) (dUn rd ta) σ H Q → tUn r (liftE (gx X cA) ta) σ H Q := by
  rintro σ H Q ⟨g, st, env, Qd, rl, en, h, p⟩
  refine ⟨g, st, env, _, rl, en, h, fun d1 st1 g1 H1 v1 s1 rl1 r1 h1 => ?_⟩
  exact im g1 st1 H1 v1 d1 Qd Q rl1 r1 h1 (p.step s1)
theorem de_op {a b : Expr} {op : Operator} {pos : Pos} {r : R2} {rd : RD2} {ta tb : TDE} (ho : OpR X (binaryOp op) r) (im : Im2 (gx X cA) r rd) (ha : DE cA X a ta) (hb : DE cA X b tb) : DE cA X (.BinOp a op b pos) (dOp rd ta tb) :=
  pe_weak (pe_op ho ha hb) (lift2 im)
theorem de_cmp {a b : Expr} {op : CmpOp} {pos : Pos} {r : R2} {rd : RD2} {ta tb : TDE} (ho : OpR X (compareOp op) r) (im : Im2 (gx X cA) r rd) (ha : DE cA X a ta) (hb : DE cA X b tb) (hm : behindInMarks op b = false) : DE cA X (.Compare a [op] [b] pos) (dOp rd ta tb) :=
  pe_weak (pe_cmpR ho ha hb hm) (lift2 im)
/-- a test: the answer is a bool -/
def dTst (t : TDE) : TDT := fun env st Q => t env st fun d st1 => match d with
  | .bl b => Q b st1
  | _ => False
theorem liftTst {t : TDE} : ∀ σ H Q, liftT (gx X cA) (dTst t) σ H Q → tTest (liftE (gx X cA) t) σ H Q := by
  rintro σ H Q ⟨g, st, env, Qd, rl, en, h, p⟩
  refine ⟨g, st, env, _, rl, en, h, fun d1 st1 g1 H1 v1 s1 rl1 r1 h1 => ?_⟩
  cases r1 with
  | bl b => exact ⟨b, rfl, p b st1 g1 H1 s1 rl1 h1⟩
  | _ => exact h1.elim
theorem dt_val {e : Expr} {t : TDE} (h : DE cA X e t) (he : ∀ whole, isTrue e X.env whole = (do let v ← whole; standAt e.pos; holding [v] (truthy v)) := by intro _; rfl) : DT cA X e (dTst t) :=
  pt_weak (pt_val h he) liftTst
theorem dt_cmp {a b : Expr} {op : CmpOp} {pos : Pos} {r : R2} {rd : RD2} {ta tb : TDE} (ho : OpR X (compareOp op) r) (im : Im2 (gx X cA) r rd) (ha : DE cA X a ta) (hb : DE cA X b tb) (hm : behindInMarks op b = false) : DT cA X (.Compare a [op] [b] pos) (dTst (dOp rd ta tb)) :=
  pt_weak (pt_cmpR ho ha hb hm) fun σ H Q h => by
    obtain ⟨g, st, env, Qd, rl, en, h, p⟩ := h
    refine ⟨g, st, env, _, rl, en, h, fun d1 st1 g1 H1 v1 s1 rl1 r1 h1 => ?_⟩
    refine ⟨g1, st1, env, _, rl1, en.mono s1, h1, fun d2 st2 g2 H2 v2 s2 rl2 r2 h2 => ?_⟩
    refine im g2 st2 H2 v1 v2 d1 d2 _ _ rl2 (r1.mono s2) r2 h2 fun d3 st3 g3 H3 v3 s3 rl3 r3 h3 => ?_
    cases r3 with
    | bl b => exact ⟨b, rfl, p b st3 g3 H3 ((s1.trans s2).trans s3) rl3 h3⟩
    | _ => exact h3.elim

/-! ### and, or, not, if -/
def dAnd (t u : TDT) : TDT := fun env st Q => t env st fun c st1 => if c = true then u env st1 Q else Q false st1
def dOr (t u : TDT) : TDT := fun env st Q => t env st fun c st1 => if c = true then Q true st1 else u env st1 Q
def dNot (t : TDT) : TDT := fun env st Q => t env st fun c st1 => Q (!c) st1
theorem dt_w {e : Expr} {t : TDT} (h : DW cA X e t) : DT cA X e t := PW.pt h
theorem dw_and1 {a : Expr} {pos : Pos} {t : TDT} (h : DT cA X a t) : DW cA X (.BoolOp .And [a] pos) t := pw_and1 h
theorem dw_or1 {a : Expr} {pos : Pos} {t : TDT} (h : DT cA X a t) : DW cA X (.BoolOp .Or [a] pos) t := pw_or1 h
theorem dw_and {a b : Expr} {rest : List Expr} {pos : Pos} {t u : TDT} (ha : DT cA X a t) (hb : DW cA X (.BoolOp .And (b :: rest) pos) u) : DW cA X (.BoolOp .And (a :: b :: rest) pos) (dAnd t u) :=
  pw_weak (pw_and ha hb) fun σ H Q ⟨g, st, env, Qd, rl, en, h, p⟩ => ⟨g, st, env, _, rl, en, h, fun c st1 g1 H1 s1 rl1 h1 => by
    cases c with
    | true => exact ⟨g1, st1, env, Qd, rl1, en.mono s1, h1, p.step s1⟩
    | false => exact p _ _ _ _ s1 rl1 h1⟩
theorem dw_or {a b : Expr} {rest : List Expr} {pos : Pos} {t u : TDT} (ha : DT cA X a t) (hb : DW cA X (.BoolOp .Or (b :: rest) pos) u) : DW cA X (.BoolOp .Or (a :: b :: rest) pos) (dOr t u) :=
  pw_weak (pw_or ha hb) fun σ H Q ⟨g, st, env, Qd, rl, en, h, p⟩ => ⟨g, st, env, _, rl, en, h, fun c st1 g1 H1 s1 rl1 h1 => by
    cases c with
    | true => exact p _ _ _ _ s1 rl1 h1
    | false => exact ⟨g1, st1, env, Qd, rl1, en.mono s1, h1, p.step s1⟩⟩
theorem dt_not {a : Expr} {pos : Pos} {t : TDT} (ha : DT cA X a t) : DT cA X (.UnaryOp .Not a pos) (dNot t) :=
  pt_weak (pt_not ha) fun σ H Q ⟨g, st, env, Qd, rl, en, h, p⟩ => ⟨g, st, env, _, rl, en, h, fun c st1 g1 H1 s1 rl1 h1 => p _ _ _ _ s1 rl1 h1⟩
def dAndV (ta tb : TDE) : TDE := fun env st Q => ta env st fun x st1 => match x with
  | .bl c => if c = true then tb env st1 Q else Q (.bl false) st1
  | _ => False
def dOrV (ta tb : TDE) : TDE := fun env st Q => ta env st fun x st1 => match x with
  | .bl c => if c = true then Q (.bl true) st1 else tb env st1 Q
  | _ => False
def dNotV (ta : TDE) : TDE := fun env st Q => ta env st fun x st1 => match x with
  | .bl c => Q (.bl (!c)) st1
  | _ => False
theorem de_one {a : Expr} {op} {pos : Pos} {t : TDE} (h : DE cA X a t) : DE cA X (.BoolOp op [a] pos) t := pe_one h
theorem de_and {a b : Expr} {rest : List Expr} {pos : Pos} {t u : TDE} (ha : DE cA X a t) (hb : DE cA X (.BoolOp .And (b :: rest) pos) u) : DE cA X (.BoolOp .And (a :: b :: rest) pos) (dAndV t u) :=
  pe_weak (pe_and ha hb) fun σ H Q ⟨g, st, env, Qd, rl, en, h, p⟩ => ⟨g, st, env, _, rl, en, h, fun d st1 g1 H1 v s1 rl1 r1 h1 => by
    cases r1 with
    | bl c =>
      refine ⟨c, rfl, ?_⟩
      cases c with
      | true => exact ⟨g1, st1, env, Qd, rl1, en.mono s1, h1, p.step s1⟩
      | false => exact p _ _ _ _ _ s1 rl1 (.bl false) h1
    | _ => exact h1.elim⟩
theorem de_or {a b : Expr} {rest : List Expr} {pos : Pos} {t u : TDE} (ha : DE cA X a t) (hb : DE cA X (.BoolOp .Or (b :: rest) pos) u) : DE cA X (.BoolOp .Or (a :: b :: rest) pos) (dOrV t u) :=
  pe_weak (pe_or ha hb) fun σ H Q ⟨g, st, env, Qd, rl, en, h, p⟩ => ⟨g, st, env, _, rl, en, h, fun d st1 g1 H1 v s1 rl1 r1 h1 => by
    cases r1 with
    | bl c =>
      refine ⟨c, rfl, ?_⟩
      cases c with
      | false => exact ⟨g1, st1, env, Qd, rl1, en.mono s1, h1, p.step s1⟩
      | true => exact p _ _ _ _ _ s1 rl1 (.bl true) h1
    | _ => exact h1.elim⟩
theorem de_not {a : Expr} {pos : Pos} {t : TDE} (ha : DE cA X a t) : DE cA X (.UnaryOp .Not a pos) (dNotV t) :=
  pe_weak (pe_not ha) fun σ H Q ⟨g, st, env, Qd, rl, en, h, p⟩ => ⟨g, st, env, _, rl, en, h, fun d st1 g1 H1 v s1 rl1 r1 h1 => by
    cases r1 with
    | bl c => exact ⟨c, rfl, p _ _ _ _ _ s1 rl1 (.bl _) h1⟩
    | _ => exact h1.elim⟩
def dIf (t : TDT) (ta tb : TDE) : TDE := fun env st Q => t env st fun c st1 => if c = true then ta env st1 Q else tb env st1 Q
theorem de_ifExp {c a b : Expr} {pos : Pos} {t : TDT} {ta tb : TDE} (hc : DT cA X c t) (ha : DE cA X a ta) (hb : DE cA X b tb) : DE cA X (.IfExp c a b pos) (dIf t ta tb) :=
  pe_weak (pe_ifExp hc ha hb) fun σ H Q ⟨g, st, env, Qd, rl, en, h, p⟩ => ⟨g, st, env, _, rl, en, h, fun c st1 g1 H1 s1 rl1 h1 => by
    cases c with
    | true => exact ⟨g1, st1, env, Qd, rl1, en.mono s1, h1, p.step s1⟩
    | false => exact ⟨g1, st1, env, Qd, rl1, en.mono s1, h1, p.step s1⟩⟩

/-! ### argument lists -/
def dNil : TDA := fun _ st Q => Q [] st
def dCons (ta : TDE) (tr : TDA) : TDA := fun env st Q => ta env st fun x st1 => tr env st1 fun xs st2 => Q (x :: xs) st2
theorem da_nil : DA cA X [] dNil := pa_weak pa_nil fun σ H Q ⟨g, st, env, Qd, rl, en, h, p⟩ => p _ _ _ _ _ (Step.refl g st H) rl .nil h
theorem da_cons {e : Expr} {es : List Expr} {te : TDE} {t : TDA} (ha : DE cA X e te) (hr : DA cA X es t) (hs : starEach (e :: es) X.env = (false, eval e X.env) :: starEach es X.env := by rfl) : DA cA X (e :: es) (dCons te t) :=
  pa_weak (pa_cons ha hr hs) fun σ H Q ⟨g, st, env, Qd, rl, en, h, p⟩ => ⟨g, st, env, _, rl, en, h, fun d st1 g1 H1 v s1 rl1 r1 h1 =>
    ⟨g1, st1, env, _, rl1, en.mono s1, h1, fun ds st2 g2 H2 vs s2 rl2 r2 h2 => p _ _ _ _ _ (s1.trans s2) rl2 (.cons (r1.mono s2) r2) h2⟩⟩
/-- displays: a tuple; a list that is nobody's; a list in a new cell -/
def dTup (t : TDA) : TDE := fun env st Q => t env st fun ds st1 => ds.length ≤ sizeLine ∧ Q (.tup ds) st1
def dLst (t : TDA) : TDE := fun env st Q => t env st fun ds st1 => ds.length ≤ sizeLine ∧ Q (.lst ds) st1
def dLstM (t : TDA) : TDE := fun env st Q => t env st fun ds st1 => ds.length ≤ sizeLine ∧ ∀ n, st1 n = none → Q (.ref n) (sup st1 n (.lst ds))
theorem Rel.fresh {G : Gx} {g : Gh} {st : Sto} {H : Hp} (r : Rel G g st H) : ∃ n, g.rho n = none ∧ st n = none := let ⟨N, h⟩ := r.fin; ⟨N, h N (Nat.le_refl _)⟩
/-- what is new: nobody's -/
theorem lay_tup {G : Gx} {g : Gh} {st : Sto} {H : Hp} {vs : List V} {ds : List D} (rl : Rel G g st H) (r : Reps G g H vs ds) {Qd : QD} {Q : VK} (p : Post G g st H Qd Q) (q : Qd (.tup ds) st) : ∀ a, H a = none → Q (.ref a) (upd H a (.tup vs)) := fun a ha => by
  obtain ⟨s, rl'⟩ := rl.lay (o := .tup vs) ha
  exact p _ _ _ _ _ s rl' (.tup (.inl ⟨rl.free ha, .inl upd_same⟩) (r.mono s)) q
theorem lay_lst {G : Gx} {g : Gh} {st : Sto} {H : Hp} {vs : List V} {ds : List D} (rl : Rel G g st H) (r : Reps G g H vs ds) {Qd : QD} {Q : VK} (p : Post G g st H Qd Q) (q : Qd (.lst ds) st) : ∀ a, H a = none → Q (.ref a) (upd H a (.lst vs)) := fun a ha => by
  obtain ⟨s, rl'⟩ := rl.lay (o := .lst vs) ha
  exact p _ _ _ _ _ s rl' (.lst (rl.free ha) upd_same (r.mono s)) q
theorem lay_cell {G : Gx} {g : Gh} {st : Sto} {H : Hp} {vs : List V} {ds : List D} (rl : Rel G g st H) (r : Reps G g H vs ds) {Qd : QD} {Q : VK} (p : Post G g st H Qd Q) (q : ∀ n, st n = none → Qd (.ref n) (sup st n (.lst ds))) : ∀ a, H a = none → Q (.ref a) (upd H a (.lst vs)) := fun a ha => by
  obtain ⟨n, hn, hs⟩ := rl.fresh
  obtain ⟨s, rl'⟩ := rl.cellNew (o := .lst vs) (m := .lst ds) ha hn fun g' _ s' => ⟨vs, upd_same, r.mono s'⟩
  exact p _ _ _ _ _ s rl' (.ref (by simp [Gh.new])) (q n hs)
theorem de_tup {es : List Expr} {x1} {pos : Pos} {t : TDA} (h : DA cA X es t) : DE cA X (.Tuple es x1 pos) (dTup t) :=
  pe_weak (pe_tup h) fun σ H Q ⟨g, st, env, Qd, rl, en, h, p⟩ => ⟨g, st, env, _, rl, en, h, fun ds st1 g1 H1 vs s1 rl1 r1 h1 => ⟨by rw [r1.length]; exact h1.1, lay_tup rl1 r1 (p.step s1) h1.2⟩⟩
theorem de_lst {es : List Expr} {pos : Pos} {t : TDA} (h : DA cA X es t) : DE cA X (.List es pos) (dLst t) :=
  pe_weak (pe_lst h) fun σ H Q ⟨g, st, env, Qd, rl, en, h, p⟩ => ⟨g, st, env, _, rl, en, h, fun ds st1 g1 H1 vs s1 rl1 r1 h1 => ⟨by rw [r1.length]; exact h1.1, lay_lst rl1 r1 (p.step s1) h1.2⟩⟩
theorem de_lstM {es : List Expr} {pos : Pos} {t : TDA} (h : DA cA X es t) : DE cA X (.List es pos) (dLstM t) :=
  pe_weak (pe_lst h) fun σ H Q ⟨g, st, env, Qd, rl, en, h, p⟩ => ⟨g, st, env, _, rl, en, h, fun ds st1 g1 H1 vs s1 rl1 r1 h1 => ⟨by rw [r1.length]; exact h1.1, lay_cell rl1 r1 (p.step s1) h1.2⟩⟩
end
end TL
namespace TL
open PySem L2
section
variable {X : Cx} {cA : Nat → Addr}

/-! ### freezing a cell: a ghost's step behind an expression -/
def frz (d : D) (st : Sto) (Q : QD) : Prop := match d with
  | .ref n => match st n with
    | some (.lst ds) => Q (.lst ds) (sdel st n)
    | some (.dct kd) => Q (.dct kd) (sdel st n)
    | some (.obj c fd) => Q (.obj c fd) (sdel st n)
    | _ => False
  | d => Q d st
def dFrz (t : TDE) : TDE := fun env st Q => t env st fun d st1 => frz d st1 Q
theorem frz_post {G : Gx} {g : Gh} {st : Sto} {H : Hp} {v : V} {d : D} {Qd : QD} {Q : VK} (rl : Rel G g st H) (r : Rep G g H v d) (q : frz d st Qd) (p : Post G g st H Qd Q) : Q v H := by
  cases r with
  | @ref a n h =>
    unfold frz at q
    simp only at q
    split at q
    · rename_i ds e
      obtain ⟨s, rl'⟩ := rl.freeze e h
      obtain ⟨a', e1, e2, vs, e3, e4⟩ := rl.cell _ _ e
      rw [h] at e1; cases e1
      exact p _ _ _ _ _ s rl' (.lst (by simp [Gh.fr]) e3 (e4.mono s)) q
    · rename_i ds e
      obtain ⟨s, rl'⟩ := rl.freeze e h
      obtain ⟨a', e1, e2, vs, e3, e4⟩ := rl.cell _ _ e
      rw [h] at e1; cases e1
      exact p _ _ _ _ _ s rl' (.dct ⟨by simp [Gh.fr], .inl e3⟩ (e4.mono s)) q
    · rename_i c ds e
      obtain ⟨s, rl'⟩ := rl.freeze e h
      obtain ⟨a', e1, e2, dx, vs, e3, e4⟩ := rl.cell _ _ e
      rw [h] at e1; cases e1
      exact p _ _ _ _ _ s rl' (.obj (by simp [Gh.fr]) e3 (e4.mono s)) q
    · exact q.elim
  | non => exact p.now rl .non q
  | bl b => exact p.now rl (.bl b) q
  | int b => exact p.now rl (.int b) q
  | str b => exact p.now rl (.str b) q
  | tup h r => exact p.now rl (.tup h r) q
  | lst w h r => exact p.now rl (.lst w h r) q
  | dct h r => exact p.now rl (.dct h r) q
  | obj w h r => exact p.now rl (.obj w h r) q
  | scr h => exact p.now rl (.scr h) q
theorem de_frz {e : Expr} {t : TDE} (h : DE cA X e t) : DE cA X e (dFrz t) :=
  pe_weak h fun σ H Q ⟨g, st, env, Qd, rl, en, h, p⟩ => ⟨g, st, env, _, rl, en, h, fun d st1 g1 H1 v s1 rl1 r1 h1 => frz_post rl1 r1 h1 (p.step s1)⟩
/-- what an expression gives, weakened -/
theorem de_mono {e : Expr} {t t' : TDE} (h : DE cA X e t) (i : ∀ env st Q, t' env st Q → t env st Q) : DE cA X e t' :=
  pe_weak h fun σ H Q ⟨g, st, env, Qd, rl, en, h, p⟩ => ⟨g, st, env, Qd, rl, en, i _ _ _ h, p⟩

/-! ### statements -/
def dNext : TDS := fun D env st => D.nx env st
def dSeq (t u : TDS) : TDS := fun D env st => t { D with nx := u D } env st
theorem dss_nil : DSs cA X [] dNext := pss_weak pss_nil fun σ H Q ⟨g, st, env, Qd, rl, en, h, p⟩ => p.nx _ _ _ _ _ (Step.refl g st H) rl en h
theorem dss_cons {s : Stmt} {rest : List Stmt} {t u : TDS} (h1 : DS cA X s t) (h2 : DSs cA X rest u) : DSs cA X (s :: rest) (dSeq t u) :=
  pss_weak (pss_cons h1 h2) fun σ H Q ⟨g, st, env, Dd, rl, en, h, p⟩ => ⟨g, st, env, { Dd with nx := u Dd }, rl, en, h,
    ⟨fun env1 st1 g1 H1 σ1 s1 rl1 en1 h1 => ⟨g1, st1, env1, Dd, rl1, en1, h1, p.step s1⟩, p.rt, p.bk, p.ct⟩⟩
theorem dss_one {s : Stmt} {t : TDS} (h1 : DS cA X s t) : DSs cA X [s] t := pss_one h1
def dBreak : TDS := fun D env st => D.bk env st
def dCont : TDS := fun D env st => D.ct env st
theorem ds_pass {pos} : DS cA X (.Pass pos) dNext := ps_weak ps_pass fun σ H Q ⟨g, st, env, Qd, rl, en, h, p⟩ => p.nx _ _ _ _ _ (Step.refl g st H) rl en h
theorem ds_break {pos} : DS cA X (.Break pos) dBreak := ps_weak ps_break fun σ H Q ⟨g, st, env, Qd, rl, en, h, p⟩ => p.bk _ _ _ _ _ (Step.refl g st H) rl en h
theorem ds_continue {pos} : DS cA X (.Continue pos) dCont := ps_weak ps_continue fun σ H Q ⟨g, st, env, Qd, rl, en, h, p⟩ => p.ct _ _ _ _ _ (Step.refl g st H) rl en h
def dDrop (te : TDE) : TDS := fun D env st => te env st fun _ st1 => D.nx env st1
theorem ds_expr {e : Expr} {pos : Pos} {te : TDE} (he : DE cA X e te) (hs : swapsWith e none pos.line X.env = pure false := by rfl) : DS cA X (.Expr e pos) (dDrop te) :=
  ps_weak (ps_expr he hs) fun σ H Q ⟨g, st, env, Dd, rl, en, h, p⟩ => ⟨g, st, env, _, rl, en, h, fun d st1 g1 H1 v s1 rl1 r1 h1 => p.nx _ _ _ _ _ s1 rl1 (en.mono s1) h1⟩
def dRet (te : TDE) : TDS := fun D env st => te env st D.rt
theorem ds_ret {e : Expr} {pos : Pos} {te : TDE} (he : DE cA X e te) : DS cA X (.Return (some e) pos) (dRet te) :=
  ps_weak (ps_ret he) fun σ H Q ⟨g, st, env, Dd, rl, en, h, p⟩ => ⟨g, st, env, _, rl, en, h, p.rt⟩
def dRetN : TDS := fun D _ st => D.rt .non st
theorem ds_retN {pos : Pos} : DS cA X (.Return none pos) dRetN := ps_weak ps_retN fun σ H Q ⟨g, st, env, Dd, rl, en, h, p⟩ => p.rt.now rl .non h
def dIfS (c : TDT) (t u : TDS) : TDS := fun D env st => c env st fun b st1 => if b = true then t D env st1 else u D env st1
theorem ds_if {c : Expr} {a b : List Stmt} {pos : Pos} {tc : TDT} {t u : TDS} (hc : DT cA X c tc) (ha : DSs cA X a t) (hb : DSs cA X b u) : DS cA X (.If c a b pos) (dIfS tc t u) :=
  ps_weak (ps_if hc ha hb) fun σ H Q ⟨g, st, env, Dd, rl, en, h, p⟩ => ⟨g, st, env, _, rl, en, h, fun c st1 g1 H1 s1 rl1 h1 => by
    cases c with
    | true => exact ⟨g1, st1, env, Dd, rl1, en.mono s1, h1, p.step s1⟩
    | false => exact ⟨g1, st1, env, Dd, rl1, en.mono s1, h1, p.step s1⟩⟩
theorem ds_never {s : Stmt} : DS cA X s (fun _ _ _ => False) := ps_weak ps_never fun _ _ _ ⟨_, _, _, _, _, _, h, _⟩ => h
theorem dss_never {s : List Stmt} : DSs cA X s (fun _ _ _ => False) := pss_weak pss_never fun _ _ _ ⟨_, _, _, _, _, _, h, _⟩ => h
def dAsg (i : Nat) (te : TDE) : TDS := fun D env st => te env st fun d st1 => D.nx (env.set i (some d)) st1
theorem lift_asg {i : Nat} {te : TDE} : ∀ σ H Q, liftS (gx X cA) (dAsg i te) Q σ H → tAsg (liftE (gx X cA) te) (gName i) Q σ H := fun σ H Q ⟨g, st, env, Dd, rl, en, h, p⟩ =>
  ⟨g, st, env, _, rl, en, h, fun d st1 g1 H1 v s1 rl1 r1 h1 => p.nx _ _ _ _ _ s1 rl1 ((en.mono s1).set r1 i) h1⟩
theorem ds_set {i : Nat} {x : Str} {e : Expr} {te : TDE} {pos pos' : Pos} (hN : X.N.Nodup) (hi : X.N[i]? = some x) (hx : Loc X.env.scope x) (he : DE cA X e te) (hs : swapsWith e (some (.Name x pos')) pos.line X.env = pure false := by rfl) (hf : X.fn x = true ∨ X.env.scope.names.lookup x = some .local := by first | exact .inl rfl | exact .inr rfl | assumption) :
    DS cA X (.Assign [.Name x pos'] e pos) (dAsg i te) := ps_weak (ps_set hN hi hx he hs hf) lift_asg
/-- a, b = x, y -/
def dPar (i j : Nat) (ta : TDA) : TDS := fun D env st => ta env st fun ds st1 => match ds with
  | [v, w] => D.nx ((env.set i (some v)).set j (some w)) st1
  | _ => False
theorem ds_par {i j : Nat} {x y : Str} {a b : Expr} {ta : TDA} {px py pt pos : Pos} {kt k2 pt2} (hc : X.calm = true) (hN : X.N.Nodup) (hi : X.N[i]? = some x) (hj : X.N[j]? = some y) (hij : i ≠ j)
    (hx : X.env.scope.names.lookup x = some .local) (hy : X.env.scope.names.lookup y = some .local) (ha : DA cA X [a, b] ta)
    (hw : swappedStores [.Tuple [.Name x px, .Name y py] kt pt] (.Tuple [a, b] k2 pt2) X.env = pure (some [x, y]))
    (hs : swapsWithSole [.Tuple [.Name x px, .Name y py] kt pt] (.Tuple [a, b] k2 pt2) pos.line X.env = pure false := by rfl) :
    DS cA X (.Assign [.Tuple [.Name x px, .Name y py] kt pt] (.Tuple [a, b] k2 pt2) pos) (dPar i j ta) :=
  ps_weak (ps_par hc hN hi hj hij hx hy ha hw hs) fun σ H Q ⟨g, st, env, Dd, rl, en, h, p⟩ => ⟨g, st, env, _, rl, en, h, fun ds st1 g1 H1 vs s1 rl1 r1 h1 => by
    cases r1 with
    | nil => exact h1.elim
    | cons ra rt => cases rt with
      | nil => exact h1.elim
      | cons rb rt => cases rt with
        | nil => exact ⟨_, _, rfl, p.nx _ _ _ _ _ s1 rl1 (((en.mono s1).set ra i).set rb j) h1⟩
        | cons _ _ => exact h1.elim⟩

/-! ### while -/
def dWhile (c : TDT) (tb : TDS) : TDS := fun D env st => ∃ W : Nat → DSt → Sto → Prop, (∃ m, W m env st) ∧ ∀ m env st, W m env st →
  c env st fun b st1 => if b = true then ∃ N : DSt → Sto → Prop, (∀ env' st', N env' st' → ∃ m', m' < m ∧ W m' env' st') ∧ tb { D with nx := N, ct := N, bk := D.nx } env st1 else D.nx env st1
theorem ds_while {c : Expr} {body : List Stmt} {pos : Pos} {tc : TDT} {tb : TDS} (hp : PassesOwn (model X.prog X.w) X.A X.env X.xe) (hc : DT cA X c tc) (hb : DSs cA X body tb) : DS cA X (.While c body [] pos) (dWhile tc tb) :=
  ps_weak (ps_while hp hc hb) fun σ H Q ⟨g, st, env, Dd, rl, en, h, p⟩ => by
    obtain ⟨W, ⟨m0, w0⟩, turn⟩ := h
    refine ⟨fun m σ' H' => ∃ g' st' env', Step g st H g' st' H' ∧ Rel (gx X cA) g' st' H' ∧ EnvR (gx X cA) g' H' σ' env' ∧ W m env' st', ⟨m0, g, st, env, Step.refl g st H, rl, en, w0⟩, ?_⟩
    rintro m σ1 H1 ⟨g1, st1, env1, s1, rl1, en1, w1⟩
    refine ⟨g1, st1, env1, _, rl1, en1, turn m env1 st1 w1, fun b st2 g2 H2 s2 rl2 h2 => ?_⟩
    cases b with
    | false => exact p.nx _ _ _ _ _ (s1.trans s2) rl2 (en1.mono s2) h2
    | true =>
      obtain ⟨N, hN, h2⟩ := h2
      refine ⟨fun σ' H' => ∃ g' st' env', Step g st H g' st' H' ∧ Rel (gx X cA) g' st' H' ∧ EnvR (gx X cA) g' H' σ' env' ∧ N env' st', ?_, ?_⟩
      · rintro σ' H' ⟨g', st', env', s', rl', en', n'⟩
        obtain ⟨m', hm, w'⟩ := hN env' st' n'
        exact ⟨m', hm, g', st', env', s', rl', en', w'⟩
      · have again : PostN (gx X cA) g2 st2 H2 N (fun σ' H' => ∃ g' st' env', Step g st H g' st' H' ∧ Rel (gx X cA) g' st' H' ∧ EnvR (gx X cA) g' H' σ' env' ∧ N env' st') :=
          fun env3 st3 g3 H3 σ3 s3 rl3 en3 h3 => ⟨g3, st3, env3, (s1.trans s2).trans s3, rl3, en3, h3⟩
        exact ⟨g2, st2, env1, _, rl2, en1.mono s2, h2, ⟨again, p.rt.step (s1.trans s2), p.nx.step (s1.trans s2), again⟩⟩

/-! ### targets and walks -/
abbrev TDG := D → DSt → Sto → (DSt → Sto → Prop) → Prop
theorem set_none_comm (σ : St) (i j : Nat) (x : Option V) (h : i ≠ j) : (σ.set i x).set j none = (σ.set j none).set i x := List.set_comm _ _ h
theorem wipe_set {i : Nat} {x : Option V} : ∀ {is : List Nat} {σ : St}, i ∈ is → wipe (σ.set i x) is = wipe σ is
  | [], _, h => by simp at h
  | j :: r, σ, h => by
    unfold wipe
    by_cases hr : i ∈ r
    · rw [wipe_set hr]
    · have e : i = j := by
        rcases List.mem_cons.mp h with e | e
        · exact e
        · exact absurd e hr
      subst e
      have : ∀ (r : List Nat) (σ : St), i ∉ r → wipe (σ.set i x) r = (wipe σ r).set i x := by
        intro r
        induction r with
        | nil => intro σ _; rfl
        | cons k r ih =>
          intro σ hk
          have h1 : i ≠ k := fun z => hk (by simp [z])
          have h2 : i ∉ r := fun z => hk (by simp [z])
          show (wipe (σ.set i x) r).set k none = ((wipe σ r).set k none).set i x
          rw [ih σ h2, List.set_comm _ _ h1]
      rw [this r σ hr, List.set_set]
/-- behind a target: the slots outside of js are as they were -/
def PostG (G : Gx) (js : List Nat) (σ : St) (g : Gh) (st : Sto) (H : Hp) (Qd : DSt → Sto → Prop) (Q : St → Hp → Prop) : Prop := ∀ env st' g' H' σ', Step g st H g' st' H' → Rel G g' st' H' → EnvR G g' H' σ' env → wipe σ' js = wipe σ js → Qd env st' → Q σ' H'
def liftG (G : Gx) (js : List Nat) (t : TDG) : TG := fun v σ H Q => ∃ g st env d Qd, Rel G g st H ∧ EnvR G g H σ env ∧ Rep G g H v d ∧ t d env st Qd ∧ PostG G js σ g st H Qd Q
def DG (cA : Nat → Addr) (X : Cx) (js : List Nat) (e : Expr) (t : TDG) : Prop := PG X e (liftG (gx X cA) js t)
theorem pg_weak {e : Expr} {t t' : TG} (h : PG X e t) (i : ∀ v σ H Q, t' v σ H Q → t v σ H Q) : PG X e t' := ⟨fun pins s σ H v u Q I r q => h.run pins s σ H v u Q I r (i v σ H Q q)⟩
def gNm (i : Nat) : TDG := fun d env st Q => Q (env.set i (some d)) st
theorem dg_name {i : Nat} {js : List Nat} {x : Str} {pos : Pos} (hN : X.N.Nodup) (hi : X.N[i]? = some x) (hx : Loc X.env.scope x) (hj : i ∈ js := by decide) (hf : X.fn x = true ∨ X.env.scope.names.lookup x = some .local := by first | exact .inl rfl | exact .inr rfl | assumption) : DG cA X js (.Name x pos) (gNm i) :=
  pg_weak (pg_name hN hi hx hf) fun v σ H Q ⟨g, st, env, d, Qd, rl, en, r, h, p⟩ => p _ _ _ _ _ (Step.refl g st H) rl (en.set r i) (wipe_set hj) h
abbrev TDGs := List D → DSt → Sto → (DSt → Sto → Prop) → Prop
def liftGs (G : Gx) (js : List Nat) (t : TDGs) : TGs := fun vs σ H Q => ∃ g st env ds Qd, Rel G g st H ∧ EnvR G g H σ env ∧ Reps G g H vs ds ∧ t ds env st Qd ∧ PostG G js σ g st H Qd Q
def DGs (cA : Nat → Addr) (X : Cx) (js : List Nat) (es : List Expr) (t : TDGs) : Prop := PGs X es (liftGs (gx X cA) js t)
theorem pgs_weak {e : List Expr} {t t' : TGs} (h : PGs X e t) (i : ∀ v σ H Q, t' v σ H Q → t v σ H Q) : PGs X e t' := ⟨fun pins s σ H v u Q I r q => h.run pins s σ H v u Q I r (i v σ H Q q)⟩
def gsNil : TDGs := fun ds env st Q => match ds with
  | [] => Q env st
  | _ => False
def gsCons (t : TDG) (u : TDGs) : TDGs := fun ds env st Q => match ds with
  | d :: r => t d env st fun env1 st1 => u r env1 st1 Q
  | [] => False
theorem dgs_nil {js : List Nat} : DGs cA X js [] gsNil := pgs_weak pgs_nil fun v σ H Q ⟨g, st, env, d, Qd, rl, en, r, h, p⟩ => by
  cases r with
  | nil => exact ⟨rfl, p _ _ _ _ _ (Step.refl g st H) rl en rfl h⟩
  | cons _ _ => exact h.elim
theorem dgs_cons {js : List Nat} {e : Expr} {es : List Expr} {t : TDG} {u : TDGs} (h1 : DG cA X js e t) (h2 : DGs cA X js es u)
    (hs : (assignEach (e :: es) X.env).map (·.2) = assign e X.env :: (assignEach es X.env).map (·.2) := by rfl) : DGs cA X js (e :: es) (gsCons t u) :=
  pgs_weak (pgs_cons h1 h2 hs) fun v σ H Q ⟨g, st, env, d, Qd, rl, en, r, h, p⟩ => by
    cases r with
    | nil => exact h.elim
    | cons ra rt => exact ⟨_, _, rfl, g, st, env, _, _, rl, en, ra, h, fun env1 st1 g1 H1 σ1 s1 rl1 en1 w1 h1 => ⟨g1, st1, env1, _, Qd, rl1, en1, rt.mono s1, h1, fun env2 st2 g2 H2 σ2 s2 rl2 en2 w2 h2 => p _ _ _ _ _ (s1.trans s2) rl2 en2 (w2.trans w1) h2⟩⟩
def gTp (n : Nat) (t : TDGs) : TDG := fun d env st Q => match d with
  | .tup ds => ds.length = n ∧ t ds env st Q
  | _ => False
theorem dg_tup {js : List Nat} {es : List Expr} {k : Nat} {pos : Pos} {t : TDGs} {n : Nat} (hc : X.calm = true) (h : DGs cA X js es t)
    (hn : (assignEach es X.env).length = n := by rfl) (hst : (assignEach es X.env).findIdx? (·.1) = none := by rfl) : DG cA X js (.Tuple es k pos) (gTp n t) :=
  pg_weak (pg_tup hc h hn hst) fun v σ H Q ⟨g, st, env, d, Qd, rl, en, r, h, p⟩ => by
    cases r with
    | tup ft rs => exact ⟨_, _, rfl, ft.sq, by rw [rs.length]; exact h.1, g, st, env, _, Qd, rl, en, rs, h.2, p⟩
    | _ => exact h.elim
/-- target = e, any target -/
def dAsgG (te : TDE) (t : TDG) : TDS := fun D env st => te env st fun d st1 => t d env st1 D.nx
theorem ds_asg {js : List Nat} {tg e : Expr} {te : TDE} {pos : Pos} {t : TDG} (he : DE cA X e te) (hg : DG cA X js tg t) (hs : swapsWithSole [tg] e pos.line X.env = pure false := by rfl) (hw : swappedStores [tg] e X.env = pure none := by rfl)
    (h1 : (assignEach [tg] X.env).map (·.2) = [assign tg X.env] := by rfl) : DS cA X (.Assign [tg] e pos) (dAsgG te t) :=
  ps_weak (ps_asg he hg hs hw h1) fun σ H Q ⟨g, st, env, Dd, rl, en, h, p⟩ => ⟨g, st, env, _, rl, en, h, fun d st1 g1 H1 v s1 rl1 r1 h1 => ⟨g1, st1, env, d, _, rl1, en.mono s1, r1, h1, fun env2 st2 g2 H2 σ2 s2 rl2 en2 _ h2 => p.nx _ _ _ _ _ (s1.trans s2) rl2 en2 h2⟩⟩

/-- the walk J gives the trees ds, one by one, whatever happens in between -/
structure Wk (G : Gx) (g0 : Gh) (st0 : Sto) (H0 : Hp) (J : It) (ds : List D) : Prop where
  go : ∀ i d st g H, ds[i]? = some d → Step g0 st0 H0 g st H → Rel G g st H → J.go i H ∧ ∀ x H', J.yld i H x H' → Step g st H g st H' ∧ Rel G g st H' ∧ Rep G g H' x d
  stop : ∀ st g H, Step g0 st0 H0 g st H → Rel G g st H → J.stop ds.length H
theorem Wk.step {G : Gx} {g0 g1 : Gh} {st0 st1 : Sto} {H0 H1 : Hp} {J : It} {ds : List D} (w : Wk G g0 st0 H0 J ds) (s : Step g0 st0 H0 g1 st1 H1) : Wk G g1 st1 H1 J ds :=
  ⟨fun i d st g H e s1 r => w.go i d st g H e (s.trans s1) r, fun st g H s1 r => w.stop st g H (s.trans s1) r⟩
abbrev TDI := DSt → Sto → (List D → Sto → Prop) → Prop
def liftI (G : Gx) (t : TDI) : TI := fun σ H R => ∃ g st env Qd, Rel G g st H ∧ EnvR G g H σ env ∧ t env st Qd ∧ ∀ ds st' g' H' J, Step g st H g' st' H' → Rel G g' st' H' → Wk G g' st' H' J ds → Qd ds st' → R J H'
def DI (cA : Nat → Addr) (X : Cx) (tg e : Expr) (t : TDI) : Prop := PI X tg e (liftI (gx X cA) t)
theorem pi_weak {tg e : Expr} {t t' : TI} (h : PI X tg e t) (i : ∀ σ H Q, t' σ H Q → t σ H Q) : PI X tg e t' := ⟨fun pins s σ H Q I q => h.run pins s σ H Q I (i σ H Q q)⟩

/-! ### for -/
def dLoop (t : TDG) (tb : TDS) (D' : DEnds) : List D → DSt → Sto → Prop
  | [], env, st => D'.nx env st
  | d :: ds, env, st => t d env st fun env1 st1 => tb { D' with nx := dLoop t tb D' ds, ct := dLoop t tb D' ds, bk := D'.nx } env1 st1
def dFor (ti : TDI) (t : TDG) (tb : TDS) : TDS := fun D env st => ti env st fun ds st1 => dLoop t tb D ds env st1
theorem ds_for {js : List Nat} {tg iter : Expr} {body : List Stmt} {ti : TDI} {t : TDG} {tb : TDS} {pos : Pos} (hp : PassesOwn (model X.prog X.w) X.A X.env X.xe) (hc : X.calm = true) (hi : DI cA X tg iter ti) (hg : DG cA X js tg t) (hb : DSs cA X body tb)
    (hs : ∀ x, foldedSetIterable iter X.env x = pure x := by intro _; rfl) : DS cA X (.For tg iter body [] pos) (dFor ti t tb) :=
  ps_weak (ps_for hp hc hi hg hb hs) fun σ H Q ⟨g, st, env, Dd, rl, en, h, p⟩ => by
    refine ⟨g, st, env, _, rl, en, h, fun ds st1 g1 H1 J s1 rl1 wk h1 => ?_⟩
    refine ⟨fun i m σ' H' => i ≤ ds.length ∧ m = ds.length - i ∧ ∃ g' st' env', Step g1 st1 H1 g' st' H' ∧ Rel (gx X cA) g' st' H' ∧ EnvR (gx X cA) g' H' σ' env' ∧ dLoop t tb Dd (ds.drop i) env' st',
      ⟨_, Nat.zero_le _, rfl, g1, st1, env, Step.refl _ _ _, rl1, en.mono s1, h1⟩, ?_⟩
    rintro i m σ2 H2 ⟨hi, rfl, g2, st2, env2, s2, rl2, en2, h2⟩
    by_cases hlt : i < ds.length
    · rw [List.drop_eq_getElem_cons hlt] at h2
      obtain ⟨go, yld⟩ := wk.go i ds[i] st2 g2 H2 (by simp [hlt]) s2 rl2
      refine .inr ⟨go, fun σ' H' => ∃ g' st' env', Step g1 st1 H1 g' st' H' ∧ Rel (gx X cA) g' st' H' ∧ EnvR (gx X cA) g' H' σ' env' ∧ dLoop t tb Dd (ds.drop (i + 1)) env' st', fun σ' H' q => ⟨_, by omega, hlt, rfl, q⟩, fun x H' y => ?_⟩
      obtain ⟨s3, rl3, r3⟩ := yld x H' y
      refine ⟨g2, st2, env2, _, _, rl3, en2.mono s3, r3, h2, fun env4 st4 g4 H4 σ4 s4 rl4 en4 _ h4 => ?_⟩
      have s14 := (s2.trans s3).trans s4
      have again : PostN (gx X cA) g4 st4 H4 (dLoop t tb Dd (ds.drop (i + 1))) (fun σ' H' => ∃ g' st' env', Step g1 st1 H1 g' st' H' ∧ Rel (gx X cA) g' st' H' ∧ EnvR (gx X cA) g' H' σ' env' ∧ dLoop t tb Dd (ds.drop (i + 1)) env' st') :=
        fun env5 st5 g5 H5 σ5 s5 rl5 en5 h5 => ⟨g5, st5, env5, s14.trans s5, rl5, en5, h5⟩
      exact ⟨g4, st4, env4, _, rl4, en4, h4, ⟨again, p.rt.step (s1.trans s14), p.nx.step (s1.trans s14), again⟩⟩
    · have e : i = ds.length := by omega
      subst e
      rw [List.drop_length] at h2
      exact .inl ⟨wk.stop st2 g2 H2 s2 rl2, p.nx _ _ _ _ _ (s1.trans s2) rl2 en2 h2⟩

/-! ### list comprehensions -/
def wipeD (env : DSt) : List Nat → DSt
  | [] => env
  | i :: r => (wipeD env r).set i none
theorem wipeD_len (env : DSt) : ∀ vs, (wipeD env vs).length = env.length
  | [] => rfl
  | i :: r => by simp [wipeD, wipeD_len env r]
theorem wipeD_get {env : DSt} {i : Nat} {d : D} : ∀ {vs : List Nat}, (wipeD env vs)[i]? = some (some d) → env[i]? = some (some d) ∧ i ∉ vs
  | [], h => ⟨h, by simp⟩
  | j :: r, h => by
    by_cases e : i = j
    · subst e
      unfold wipeD at h
      by_cases hl : i < (wipeD env r).length
      · rw [List.getElem?_set_self hl] at h; cases h
      · rw [List.getElem?_eq_none (by simp; omega)] at h; cases h
    · unfold wipeD at h
      rw [List.getElem?_set_ne (Ne.symm e)] at h
      obtain ⟨a, b⟩ := wipeD_get (vs := r) h
      exact ⟨a, by simp [e, b]⟩
theorem EnvR.wipe {G : Gx} {g : Gh} {H : Hp} {σ : St} {env : DSt} (e : EnvR G g H σ env) (vs : List Nat) : EnvR G g H (wipe σ vs) (wipeD env vs) := by
  refine ⟨by rw [wipe_length, wipeD_len, e.len], fun i d h => ?_⟩
  obtain ⟨h1, h2⟩ := wipeD_get h
  obtain ⟨v, a, b⟩ := e.get i d h1
  exact ⟨v, by rw [wipe_out h2]; exact a, b⟩
def DTs (cA : Nat → Addr) (X : Cx) (ifs : List Expr) (t : TDT) : Prop := PTs X ifs (liftT (gx X cA) t)
def dYes : TDT := fun _ st Q => Q true st
theorem dts_nil : DTs cA X [] dYes := ⟨fun pins s σ H Q I ⟨g, st, env, Qd, rl, en, h, p⟩ => pts_nil.run pins s σ H Q I (p _ _ _ _ (Step.refl g st H) rl h)⟩
theorem dts_one {c : Expr} {t : TDT} (h : DT cA X c t) : DTs cA X [c] t := pts_one h
def dLcGo (t : TDG) (tt : TDT) (te : TDE) (env : DSt) : List D → List D → Sto → (List D → Sto → Prop) → Prop
  | [], acc, st, Q => Q acc st
  | d :: ds, acc, st, Q => t d env st fun env2 st2 => tt env2 st2 fun b st3 => if b = true then te env2 st3 fun y st4 => acc.length < sizeLine ∧ dLcGo t tt te env ds (acc ++ [y]) st4 Q else dLcGo t tt te env ds acc st3 Q
/-- the list that comes: nobody's -/
def dLc (ti : TDI) (t : TDG) (tt : TDT) (te : TDE) (vs : List Nat) : TDE := fun env st Q => ti env st fun ds st1 => dLcGo t tt te (wipeD env vs) ds [] st1 fun out st2 => Q (.lst out) st2
/-- .. a new cell -/
def dLcM (ti : TDI) (t : TDG) (tt : TDT) (te : TDE) (vs : List Nat) : TDE := fun env st Q => ti env st fun ds st1 => dLcGo t tt te (wipeD env vs) ds [] st1 fun out st2 => ∀ n, st2 n = none → Q (.ref n) (sup st2 n (.lst out))
theorem lift_lc {G : Gx} {ti : TDI} {t : TDG} {tt : TDT} {te : TDE} {vs : List Nat} {σ : St} {H : Hp} {Q : VK} {env : DSt} {g : Gh} {st : Sto} {R : List D → Sto → Prop} (rl : Rel G g st H) (en : EnvR G g H σ env)
    (h : ti env st fun ds st1 => dLcGo t tt te (wipeD env vs) ds [] st1 R)
    (p : ∀ out g1 st1 H1 st' g' H' a ws n, Step g st H g1 st1 H1 → H1 a = none → g1.rho n = none → Step g1 st1 H1 g' st' H' → Rel G g' st' H' → H' a = some (.lst ws) → g'.own a = some n → g'.rho n = some a → st' n = none → Reps G g' H' ws out → R out st' → Q (.ref a) H') :
    tLc (liftI G ti) (liftG G vs t) (liftT G tt) (liftE G te) vs σ H Q := by
  refine ⟨g, st, env, _, rl, en, h, fun ds st1 g1 H1 J s1 rl1 wk h1 A hA => ?_⟩
  obtain ⟨n, hn, hs⟩ := rl1.fresh
  obtain ⟨s2, rl2⟩ := rl1.cellNew (o := .lst []) (m := .lst []) hA hn fun g' _ s' => ⟨[], upd_same, .nil⟩
  have s2' : Step g1 st1 H1 (g1.new n A) st1 (upd H1 A (.lst [])) := s2.sub (Sub.new hs)
  have rl2' : Rel G (g1.new n A) st1 (upd H1 A (.lst [])) := rl2.sub (Sub.new hs)
  -- what holds between two turns
  refine ⟨fun i m H' => i ≤ ds.length ∧ m = ds.length - i ∧ ∃ g' st' acc ws, Step g1 st1 H1 g' st' H' ∧ Rel G g' st' H' ∧ H' A = some (.lst ws) ∧ g'.own A = some n ∧ g'.rho n = some A ∧ st' n = none ∧ Reps G g' H' ws acc ∧ dLcGo t tt te (wipeD env vs) (ds.drop i) acc st' R,
    ⟨_, Nat.zero_le _, rfl, g1.new n A, st1, [], [], s2', rl2', upd_same, by simp [Gh.new], by simp [Gh.new], hs, .nil, h1⟩, ?_⟩
  rintro i m H3 ⟨hi, rfl, g3, st3, acc, ws, s3, rl3, hA3, ow3, rh3, st3n, rs3, h3⟩
  by_cases hlt : i < ds.length
  · rw [List.drop_eq_getElem_cons hlt] at h3
    obtain ⟨go, yld⟩ := wk.go i ds[i] st3 g3 H3 (by simp [hlt]) s3 rl3
    refine .inr ⟨go, fun H' => ∃ g' st' acc ws, Step g1 st1 H1 g' st' H' ∧ Rel G g' st' H' ∧ H' A = some (.lst ws) ∧ g'.own A = some n ∧ g'.rho n = some A ∧ st' n = none ∧ Reps G g' H' ws acc ∧ dLcGo t tt te (wipeD env vs) (ds.drop (i + 1)) acc st' R, fun H' q => ⟨_, by omega, hlt, rfl, q⟩, fun x H4 y => ?_⟩
    obtain ⟨s4, rl4, r4⟩ := yld x H4 y
    -- a hidden cell stands through any step
    have hidden : ∀ {ga gb : Gh} {sa sb : Sto} {Ha Hb : Hp}, Step ga sa Ha gb sb Hb → Ha A = some (.lst ws) → ga.own A = some n → ga.rho n = some A → sa n = none → Hb A = some (.lst ws) ∧ gb.own A = some n ∧ gb.rho n = some A ∧ sb n = none := by
      intro ga gb sa sb Ha Hb s e1 e2 e3 e4
      have nb : Nob ga sa A := fun k hk => by rw [e2] at hk; cases hk; exact ⟨e4, A, e3⟩
      exact ⟨s.ex A _ nb e1 (.inl rfl), (s.own A _ nb e1).trans e2, s.rho n A e3, s.hid n A e3 e4⟩
    obtain ⟨hA4, ow4, rh4, st4n⟩ := hidden s4 hA3 ow3 rh3 st3n
    have en4 : EnvR G g3 H4 (wipe σ vs) (wipeD env vs) := ((en.mono ((s1.trans s3).trans s4)).wipe vs)
    refine ⟨g3, st3, wipeD env vs, _, _, rl4, en4, r4, h3, fun env5 st5 g5 H5 σ5 s5 rl5 en5 w5 h5 => ⟨?_, ?_⟩⟩
    · rw [w5]
      have idem : ∀ (js : List Nat) (τ : St), (∀ j ∈ js, j ∈ vs) → wipe (wipe τ js) vs = wipe τ vs := by
        intro js
        induction js with
        | nil => intro τ _; rfl
        | cons k r ih =>
          intro τ hk
          show wipe ((wipe τ r).set k none) vs = wipe τ vs
          rw [wipe_set (hk k (by simp))]
          exact ih τ fun j hj => hk j (by simp [hj])
      exact idem vs σ fun j hj => hj
    · obtain ⟨hA5, ow5, rh5, st5n⟩ := hidden s5 hA4 ow4 rh4 st4n
      refine ⟨g5, st5, env5, _, rl5, en5, h5, fun b st6 g6 H6 s6 rl6 h6 => ?_⟩
      obtain ⟨hA6, ow6, rh6, st6n⟩ := hidden s6 hA5 ow5 rh5 st5n
      have s36 := ((s3.trans s4).trans s5).trans s6
      have rs6 := ((rs3.mono s4).mono s5).mono s6
      cases b with
      | false => exact ⟨g6, st6, acc, ws, s36, rl6, hA6, ow6, rh6, st6n, rs6, h6⟩
      | true =>
        refine ⟨g6, st6, env5, _, rl6, en5.mono s6, h6, fun d st7 g7 H7 v s7 rl7 r7 h7 => ?_⟩
        obtain ⟨hA7, ow7, rh7, st7n⟩ := hidden s7 hA6 ow6 rh6 st6n
        obtain ⟨hl, h7⟩ := h7
        have rs7 := rs6.mono s7
        refine ⟨ws, hA7, by rw [rs7.length]; exact hl, g7, st7, acc ++ [d], ws ++ [v], (s36.trans s7).poke hA, ?_, upd_same, ow7, rh7, st7n, ?_, h7⟩
        · -- the cell is written while it is hidden
          have base : Rel G g7 (sup st7 n (.lst acc)) H7 := by
            refine ⟨fun k mk hk => ?_, rl7.own, ?_⟩
            · by_cases hkn : k = n
              · subst hkn
                rw [sup_same] at hk; cases hk
                exact ⟨A, rh7, ow7, ws, hA7, rs7⟩
              · rw [sup_ne hkn] at hk
                exact rl7.cell k mk hk
            · obtain ⟨N, hN⟩ := rl7.fin
              refine ⟨N, fun k hk => ⟨(hN k hk).1, ?_⟩⟩
              have : k ≠ n := by rintro rfl; rw [(hN k hk).1] at rh7; cases rh7
              rw [sup_ne this]; exact (hN k hk).2
          obtain ⟨sw, rw'⟩ := base.write (m' := .lst (acc ++ [d])) (o := .lst (ws ++ [v])) sup_same rh7 fun st' H' s' e => ⟨_, by rw [e]; exact upd_same, (rs7.append (.cons r7 .nil)).mono s'⟩
          refine rw'.sub fun k mk hk => ?_
          have : k ≠ n := by rintro rfl; rw [st7n] at hk; cases hk
          rw [sup_ne this, sup_ne this]; exact hk
        · -- the items are as they were: the list itself is no item
          have base : Rel G g7 (sup st7 n (.lst acc)) H7 := by
            refine ⟨fun k mk hk => ?_, rl7.own, ?_⟩
            · by_cases hkn : k = n
              · subst hkn
                rw [sup_same] at hk; cases hk
                exact ⟨A, rh7, ow7, ws, hA7, rs7⟩
              · rw [sup_ne hkn] at hk
                exact rl7.cell k mk hk
            · obtain ⟨N, hN⟩ := rl7.fin
              refine ⟨N, fun k hk => ⟨(hN k hk).1, ?_⟩⟩
              have : k ≠ n := by rintro rfl; rw [(hN k hk).1] at rh7; cases rh7
              rw [sup_ne this]; exact (hN k hk).2
          obtain ⟨sw, _⟩ := base.write (m' := .lst (acc ++ [d])) (o := .lst (ws ++ [v])) sup_same rh7 fun st' H' s' e => ⟨_, by rw [e]; exact upd_same, (rs7.append (.cons r7 .nil)).mono s'⟩
          exact (rs7.append (.cons r7 .nil)).mono sw
  · have e : i = ds.length := by omega
    subst e
    rw [List.drop_length] at h3
    exact .inl ⟨wk.stop st3 g3 H3 s3 rl3, p _ _ _ _ _ _ _ _ _ _ s1 hA hn s3 rl3 hA3 ow3 rh3 st3n rs3 h3⟩
end
end TL
namespace TL
open PySem PySem.Spec PyProof.Rows L2
section
variable {X : Cx} {cA : Nat → Addr}
/-- a hidden cell is told again, then frozen -/
theorem Rel.show {G : Gx} {g : Gh} {st : Sto} {H : Hp} (rl : Rel G g st H) {n : Nat} {A : Addr} {ws : List V} {acc : List D} (ow : g.own A = some n) (rh : g.rho n = some A) (hA : H A = some (.lst ws)) (rs : Reps G g H ws acc) : Rel G g (sup st n (.lst acc)) H := by
  refine ⟨fun k mk hk => ?_, rl.own, ?_⟩
  · by_cases hkn : k = n
    · subst hkn
      rw [sup_same] at hk; cases hk
      exact ⟨A, rh, ow, ws, hA, rs⟩
    · rw [sup_ne hkn] at hk
      exact rl.cell k mk hk
  · obtain ⟨N, hN⟩ := rl.fin
    refine ⟨N, fun k hk => ⟨(hN k hk).1, ?_⟩⟩
    have : k ≠ n := by rintro rfl; rw [(hN k hk).1] at rh; cases rh
    rw [sup_ne this]; exact (hN k hk).2
/-- freezing what no caller knows: the step from ahead of it -/
theorem lc_frozen {G : Gx} {g g' : Gh} {st st' : Sto} {H H' : Hp} {a : Addr} {ws : List V} {out : List D} {n : Nat} (s : Step g st H g' st' H') (rl : Rel G g' st' H') (h : H' a = some (.lst ws)) (ow : g'.own a = some n) (rh : g'.rho n = some a) (hs : st' n = none) (rs : Reps G g' H' ws out)
    (hn : H a = none) : Step g st H (g'.fr a) st' H' ∧ Rel G (g'.fr a) st' H' ∧ Rep G (g'.fr a) H' (.ref a) (.lst out) := by
  have r1 := rl.show ow rh h rs
  obtain ⟨s2, r2⟩ := r1.freeze sup_same rh
  have e : sdel (sup st' n (.lst out)) n = st' := sdel_sup hs
  rw [e] at r2 s2
  refine ⟨⟨s.rho, s.hid, fun b o w q => ?_, s.ex, s.dk⟩, r2, .lst (by simp [Gh.fr]) h (rs.mono s2)⟩
  have : b ≠ a := ne_of_none q hn
  simp [Gh.fr, this]
  exact s.own b o w q
theorem lc_cell {G : Gx} {g g' : Gh} {st st' : Sto} {H H' : Hp} {a : Addr} {ws : List V} {out : List D} {n : Nat} (s : Step g st H g' st' H') (rl : Rel G g' st' H') (h : H' a = some (.lst ws)) (ow : g'.own a = some n) (rh : g'.rho n = some a) (hs : st' n = none) (rs : Reps G g' H' ws out)
    (hn : g.rho n = none) : Step g st H g' (sup st' n (.lst out)) H' ∧ Rel G g' (sup st' n (.lst out)) H' := by
  refine ⟨⟨s.rho, fun k b e q => ?_, s.own, s.ex, s.dk⟩, rl.show ow rh h rs⟩
  have : k ≠ n := by rintro rfl; rw [hn] at e; cases e
  rw [sup_ne this]; exact s.hid k b e q
theorem de_lc {elt tg iter : Expr} {ifs : List Expr} {scope : Scope} {own : List (Str × Nat)} {pos : Pos} {ti : TDI} {t : TDG} {tt : TDT} {te : TDE} (hc : X.calm = true) (hN : X.N.Nodup) (hi : DI cA X tg iter ti) (ok : BlkOk X.N X.env.scope scope own)
    (hg : ∀ (s : Shared) (H : Hp) (C : Addr) (cl : List (Str × Addr)) (fp : List Addr), DG cA (X.blk s H scope (compEnvC scope cl C X.env) fp) (own.map (·.2)) tg t) (ht : ∀ (s : Shared) (H : Hp) (C : Addr) (cl : List (Str × Addr)) (fp : List Addr), DTs cA (X.blk s H scope (compEnvC scope cl C X.env) fp) ifs tt)
    (he : ∀ (s : Shared) (H : Hp) (C : Addr) (cl : List (Str × Addr)) (fp : List Addr), DE cA (X.blk s H scope (compEnvC scope cl C X.env) fp) elt te) (hs : ∀ x, foldedSetIterable iter X.env x = pure x := by intro _; rfl) :
    DE cA X (.ListComp elt [⟨tg, iter, ifs, 0⟩] scope pos) (dLc ti t tt te (own.map (·.2))) :=
  pe_weak (pe_lc (g := liftG (gx X cA) (own.map fun (q : Str × Nat) => q.2) t) (tt := liftT (gx X cA) tt) (te := liftE (gx X cA) te) hc hN hi ok hg ht he hs) fun σ H Q ⟨g, st, env, Qd, rl, en, h, p⟩ => lift_lc rl en h fun out g1 st1 H1 st' g' H' a ws n s1 ha hn s2 rl2 e1 e2 e3 e4 rs q => by
    obtain ⟨s3, rl3, r3⟩ := lc_frozen s2 rl2 e1 e2 e3 e4 rs ha
    exact p _ _ _ _ _ (s1.trans s3) rl3 r3 q
theorem de_lcM {elt tg iter : Expr} {ifs : List Expr} {scope : Scope} {own : List (Str × Nat)} {pos : Pos} {ti : TDI} {t : TDG} {tt : TDT} {te : TDE} (hc : X.calm = true) (hN : X.N.Nodup) (hi : DI cA X tg iter ti) (ok : BlkOk X.N X.env.scope scope own)
    (hg : ∀ (s : Shared) (H : Hp) (C : Addr) (cl : List (Str × Addr)) (fp : List Addr), DG cA (X.blk s H scope (compEnvC scope cl C X.env) fp) (own.map (·.2)) tg t) (ht : ∀ (s : Shared) (H : Hp) (C : Addr) (cl : List (Str × Addr)) (fp : List Addr), DTs cA (X.blk s H scope (compEnvC scope cl C X.env) fp) ifs tt)
    (he : ∀ (s : Shared) (H : Hp) (C : Addr) (cl : List (Str × Addr)) (fp : List Addr), DE cA (X.blk s H scope (compEnvC scope cl C X.env) fp) elt te) (hs : ∀ x, foldedSetIterable iter X.env x = pure x := by intro _; rfl) :
    DE cA X (.ListComp elt [⟨tg, iter, ifs, 0⟩] scope pos) (dLcM ti t tt te (own.map (·.2))) :=
  pe_weak (pe_lc (g := liftG (gx X cA) (own.map fun (q : Str × Nat) => q.2) t) (tt := liftT (gx X cA) tt) (te := liftE (gx X cA) te) hc hN hi ok hg ht he hs) fun σ H Q ⟨g, st, env, Qd, rl, en, h, p⟩ => lift_lc rl en h fun out g1 st1 H1 st' g' H' a ws n s1 ha hn s2 rl2 e1 e2 e3 e4 rs q => by
    obtain ⟨s3, rl3⟩ := lc_cell s2 rl2 e1 e2 e3 e4 rs hn
    exact p _ _ _ _ _ (s1.trans s3) rl3 (.ref e3) (q n e4)
/-- name = [..] on one line, the name a local -/
theorem ds_setLc {i : Nat} {y : Str} {py : Pos} {elt tg iter : Expr} {ifs : List Expr} {scope : Scope} {own : List (Str × Nat)} {pos spos : Pos} {ti : TDI} {t : TDG} {tt : TDT} {te : TDE} (hc : X.calm = true) (hN : X.N.Nodup) (hy : X.N[i]? = some y) (hyl : X.env.scope.names.lookup y = some .local)
    (hsw : swapsWith (.ListComp elt [⟨tg, iter, ifs, 0⟩] scope pos) (some (.Name y py)) spos.line X.env = pure true) (hi : DI cA X tg iter ti) (ok : BlkOk X.N X.env.scope scope own)
    (hg : ∀ (s : Shared) (H : Hp) (C : Addr) (cl : List (Str × Addr)) (fp : List Addr), DG cA (X.blk s H scope (compEnvC scope cl C X.env) fp) (own.map (·.2)) tg t) (ht : ∀ (s : Shared) (H : Hp) (C : Addr) (cl : List (Str × Addr)) (fp : List Addr), DTs cA (X.blk s H scope (compEnvC scope cl C X.env) fp) ifs tt)
    (he : ∀ (s : Shared) (H : Hp) (C : Addr) (cl : List (Str × Addr)) (fp : List Addr), DE cA (X.blk s H scope (compEnvC scope cl C X.env) fp) elt te) (hs : ∀ x, foldedSetIterable iter X.env x = pure x := by intro _; rfl) :
    DS cA X (.Assign [.Name y py] (.ListComp elt [⟨tg, iter, ifs, 0⟩] scope pos) spos) (dAsg i (dLc ti t tt te (own.map (·.2)))) :=
  ps_weak (L2.ps_setLc (g := liftG (gx X cA) (own.map fun (q : Str × Nat) => q.2) t) (tt := liftT (gx X cA) tt) (te := liftE (gx X cA) te) hc hN hy hyl hsw hi ok hg ht he hs) fun σ H Q ⟨g, st, env, Dd, rl, en, h, p⟩ => lift_lc (Q := fun v H' => gName i v σ H' Q.nx) rl en h fun out g1 st1 H1 st' g' H' a ws n s1 ha hn s2 rl2 e1 e2 e3 e4 rs q => by
    obtain ⟨s3, rl3, r3⟩ := lc_frozen s2 rl2 e1 e2 e3 e4 rs ha
    exact p.nx _ _ _ _ _ (s1.trans s3) rl3 ((en.mono (s1.trans s3)).set r3 i) q
theorem ds_setLcM {i : Nat} {y : Str} {py : Pos} {elt tg iter : Expr} {ifs : List Expr} {scope : Scope} {own : List (Str × Nat)} {pos spos : Pos} {ti : TDI} {t : TDG} {tt : TDT} {te : TDE} (hc : X.calm = true) (hN : X.N.Nodup) (hy : X.N[i]? = some y) (hyl : X.env.scope.names.lookup y = some .local)
    (hsw : swapsWith (.ListComp elt [⟨tg, iter, ifs, 0⟩] scope pos) (some (.Name y py)) spos.line X.env = pure true) (hi : DI cA X tg iter ti) (ok : BlkOk X.N X.env.scope scope own)
    (hg : ∀ (s : Shared) (H : Hp) (C : Addr) (cl : List (Str × Addr)) (fp : List Addr), DG cA (X.blk s H scope (compEnvC scope cl C X.env) fp) (own.map (·.2)) tg t) (ht : ∀ (s : Shared) (H : Hp) (C : Addr) (cl : List (Str × Addr)) (fp : List Addr), DTs cA (X.blk s H scope (compEnvC scope cl C X.env) fp) ifs tt)
    (he : ∀ (s : Shared) (H : Hp) (C : Addr) (cl : List (Str × Addr)) (fp : List Addr), DE cA (X.blk s H scope (compEnvC scope cl C X.env) fp) elt te) (hs : ∀ x, foldedSetIterable iter X.env x = pure x := by intro _; rfl) :
    DS cA X (.Assign [.Name y py] (.ListComp elt [⟨tg, iter, ifs, 0⟩] scope pos) spos) (dAsg i (dLcM ti t tt te (own.map (·.2)))) :=
  ps_weak (L2.ps_setLc (g := liftG (gx X cA) (own.map fun (q : Str × Nat) => q.2) t) (tt := liftT (gx X cA) tt) (te := liftE (gx X cA) te) hc hN hy hyl hsw hi ok hg ht he hs) fun σ H Q ⟨g, st, env, Dd, rl, en, h, p⟩ => lift_lc (Q := fun v H' => gName i v σ H' Q.nx) rl en h fun out g1 st1 H1 st' g' H' a ws n s1 ha hn s2 rl2 e1 e2 e3 e4 rs q => by
    obtain ⟨s3, rl3⟩ := lc_cell s2 rl2 e1 e2 e3 e4 rs hn
    exact p.nx _ _ _ _ _ (s1.trans s3) rl3 ((en.mono (s1.trans s3)).set (.ref e3) i) (q n e4)

/-! ### what a def promises, over trees -/
/-- an exception: its class, its attributes -/
abbrev XD := Nat → List (Str × D) → Sto → Prop
abbrev DSp := List D → Sto → QD → XD → Prop
def liftSp (G : Gx) (sp : DSp) : Sp := fun vs H Q _ => ∃ g st ds Qd, Rel G g st H ∧ Reps G g H vs ds ∧ sp ds st Qd (fun _ _ _ => False) ∧ Post G g st H Qd Q
def startD (N : List Str) (ds : List D) : DSt := ds.map some ++ List.replicate (N.length - ds.length) none
theorem env_start {G : Gx} {g : Gh} {H : Hp} {N : List Str} {vs : List V} {ds : List D} (r : Reps G g H vs ds) : EnvR G g H (L2.start N vs) (startD N ds) := by
  refine ⟨by simp [L2.start, startD, r.length], fun i d h => ?_⟩
  unfold startD at h
  by_cases hi : i < ds.length
  · rw [List.getElem?_append_left (by simpa using hi), List.getElem?_map] at h
    cases e : ds[i]? with
    | none => rw [e] at h; cases h
    | some d' =>
      rw [e] at h
      cases h
      obtain ⟨v, h1, h2⟩ := r.get e
      refine ⟨v, ?_, h2⟩
      unfold L2.start
      have : i < vs.length := by rw [r.length]; exact hi
      rw [List.getElem?_append_left (by simpa using this), List.getElem?_map, h1]
      rfl
  · rw [List.getElem?_append_right (by simpa using hi)] at h
    by_cases hj : i - (ds.map some).length < N.length - ds.length
    · rw [List.getElem?_replicate_of_lt hj] at h; cases h
    · rw [List.getElem?_eq_none (by simp at hj ⊢; omega)] at h; cases h
/-- how a body ends: the cells that the caller does not know are forgotten -/
def ends (Q : QD) : DEnds := { nx := fun _ st => ∃ st', Sub st' st ∧ Q .non st', rt := fun d st => ∃ st', Sub st' st ∧ Q d st' }
/-- THE RULE for a def that raises nothing -/
theorem dfn {P : Program} {w : World} {K : PySem.W.Frag} {mg : Str → Option Value} {base : Heap} {x qual : Str} {st : Stmt} {f : Addr} {fd : FuncData} {N ps : List Str} {k : Nat} {sp : DSp} {tb : TDS} (F : Fun K x qual st f fd) (S : FnScope N ps (defScope st))
    (len : ∀ ds st Q E, sp ds st Q E → ds.length = ps.length)
    (hd : ∀ (cdv : Value) (A : Around) (outer : List Env) (s : Shared) (H : Hp) (E : XK), Room k (A.deeper (envOfC qual (defScope st) s.heap.objs.size f cdv)) → DSs cA (cxOf CX0 P w K mg base N qual (defScope st) f cdv A outer s H E).nox (defBody st) tb)
    (hb : ∀ ds s0 Q, sp ds s0 Q (fun _ _ _ => False) → tb (ends Q) (startD N ds) s0) : FnOk P w K mg base CX0 (k + 1) f fd ps (liftSp ⟨K, cA⟩ sp) := by
  refine F.ok S (fun vs H Q E ⟨g, s0, ds, Qd, rl, rs, h, p⟩ => by rw [rs.length]; exact len _ _ _ _ h) fun cdv A outer s H vs Q E hr ⟨g, s0, ds, Qd, rl, rs, h, p⟩ => ⟨_, hd cdv A outer s H E hr, ?_⟩
  refine ⟨g, s0, startD N ds, ends Qd, rl, env_start rs, hb ds s0 Qd h, ⟨fun env1 st1 g1 H1 σ1 s1 rl1 en1 ⟨st', sb, q⟩ => ?_, fun d st1 g1 H1 v s1 rl1 r1 ⟨st', sb, q⟩ => ?_, fun env1 st1 g1 H1 σ1 s1 rl1 en1 q => q.elim, fun env1 st1 g1 H1 σ1 s1 rl1 en1 q => q.elim⟩⟩
  · exact p .non st' g1 H1 .non (s1.sub sb) (rl1.sub sb) .non q
  · exact p d st' g1 H1 v (s1.sub sb) (rl1.sub sb) r1 q
/-- a call of such a def -/
def dCall (sp : DSp) (t : TDA) : TDE := fun env st Q => t env st fun ds st1 => sp ds st1 Q fun _ _ _ => False
theorem lift_call {sp : DSp} {t : TDA} : ∀ σ H Q, liftE (gx X cA) (dCall sp t) σ H Q → tCall (liftSp (gx X cA) sp) [] E0 (liftA (gx X cA) t) σ H Q := fun σ H Q ⟨g, st, env, Qd, rl, en, h, p⟩ =>
  ⟨g, st, env, _, rl, en, h, fun ds st1 g1 H1 vs s1 rl1 r1 h1 => by
    show liftSp (gx X cA) sp (vs ++ []) H1 Q E0
    rw [List.append_nil]
    exact ⟨g1, st1, ds, Qd, rl1, r1, h1, p.step s1⟩⟩
section
variable {k : Nat} {f : Addr} {fd : FuncData} {ps : List Str} {sp : DSp} {x : Str} {p pos : Pos} {e : Expr} {es : List Expr} {t : TDA}
theorem de_call (F : FnOk X.prog X.w X.K X.mg X.base CX0 k f fd ps (liftSp (gx X cA) sp)) (hr : Room k X.A) (hg : Gl X x) (hm : X.mg x = some (.ref f)) (hk : PySem.W.keepIn X.K (.ref f) = true) (hb : Binds X.K fd ps [])
    (ha : DA cA X (e :: es) t) (hdb : (x == ("__debug__" : Str)) = false := by decide) (he : starEach (e :: es) X.env = (false, eval e X.env) :: starEach es X.env := by rfl) (hpl : (backTo pos (starEach es X.env)).any (·.1) = false := by rfl) :
    DE cA X (.Call (.Name x p) (e :: es) [] pos) (dCall sp t) := pe_weak (pe_call F hr hg hm hk hb .nil pass0 ha hdb he hpl) lift_call
theorem de_call0 (F : FnOk X.prog X.w X.K X.mg X.base CX0 k f fd ps (liftSp (gx X cA) sp)) (hr : Room k X.A) (hg : Gl X x) (hm : X.mg x = some (.ref f)) (hk : PySem.W.keepIn X.K (.ref f) = true) (hb : Binds X.K fd ps [])
    (hdb : (x == ("__debug__" : Str)) = false := by decide) : DE cA X (.Call (.Name x p) [] [] pos) (dCall sp dNil) := pe_weak (pe_call0 F hr hg hm hk hb .nil pass0 hdb) fun σ H Q ⟨g, st, env, Qd, rl, en, h, p⟩ => ⟨g, st, [], Qd, rl, .nil, h, p⟩
end
end
end TL
namespace TL
open PySem PySem.Spec PyProof.Rows L2

/-! ### sources of a walk -/
inductive Src where
  | lis (a : Addr) | tpl (a : Addr) | txt (x : Str) (k : Tok)
def signs (x : Str) : List V := x.cps.toList.map fun c => V.str ⟨#[c]⟩
def signsD (x : Str) : List D := x.cps.toList.map fun c => D.str ⟨#[c]⟩
def Src.at (K : PySem.W.Frag) (H : Hp) (xs : List V) : Src → Prop
  | .lis a => SqL K H a xs
  | .tpl a => SqT K H a xs
  | .txt x _ => xs = signs x
def Src.val : Src → Value
  | .lis a => .ref a
  | .tpl a => .ref a
  | .txt x k => .str x k
def Src.iter (it : Addr) (i : Nat) (h : Heap) : Src → Prop
  | .lis a => h.IsListIter it a i
  | .tpl a => h.IsTupleIter it a i
  | .txt x k => h.IsStrIter it (strIterType x) x k i
theorem src_obj {it : Addr} {i : Nat} {h : Heap} : ∀ {r : Src}, r.iter it i h → ∃ o, h.get? it = some o ∧ ∀ v, o.data ≠ .cell v
  | .lis a, st => let ⟨o, e, c, d⟩ := st; ⟨o, e, fun v z => by rw [d] at z; cases z⟩
  | .tpl a, st => let ⟨o, e, c, d⟩ := st; ⟨o, e, fun v z => by rw [d] at z; cases z⟩
  | .txt x k, st => let ⟨o, e, c, d⟩ := st; ⟨o, e, fun v z => by rw [d] at z; cases z⟩
theorem src_keep {it : Addr} {i : Nat} {h h' : Heap} : ∀ {r : Src}, r.iter it i h → (∀ o, h.get? it = some o → h'.get? it = some o) → r.iter it i h'
  | .lis a, st, k => st.at k
  | .tpl a, st, k => st.at k
  | .txt x t, st, k => let ⟨o, ho, r⟩ := st; ⟨o, k o ho, r⟩
section
variable {X : Cx} {cA : Nat → Addr}
theorem signs_get {x : Str} {i : Nat} {c : Nat} (h : x.cps[i]? = some c) : (signs x)[i]? = some (V.str ⟨#[c]⟩) := by
  unfold signs
  rw [List.getElem?_map, Array.getElem?_toList, h]; rfl
theorem signs_len (x : Str) : (signs x).length = x.cps.size := by simp [signs]
/-- what a source draws where its content is known -/
theorem src_draws {pins : List (Addr × Obj)} {s : Shared} {σ : L2.St} {H : Hp} (I : Inv X pins σ H s) {A : Around} (hh : A.handled = none) {it : Addr} (hit : H it = none) (hnk : ∀ a o, X.K.lookup a = some o → a ≠ it) {xs : List V} : ∀ {r : Src}, r.at X.K H xs → ∀ {e : Addr}, H e = none → e ≠ it → (∀ a o, X.K.lookup a = some o → a ≠ e) →
    ∃ (fp : List Addr) (P : Nat → Value → Prop) (S : Nat → Heap → Prop), Draws X.prog X.w A it fp xs.length P S ∧ e ∉ fp ∧ (∀ i, r.iter it i s.heap → S i s.heap) ∧ (∀ i h, S i h → r.iter it i h) ∧ ∀ i u, P i u → ∃ x, xs[i]? = some x ∧ RelV x u
  | .lis a, hq, e, he, hne, hke => by
    obtain ⟨its, rv, p, hz⟩ := I.list hq
    have tracked : ∀ b, H b = none → (∀ a o, X.K.lookup a = some o → a ≠ b) → a ≠ b := fun b hb hk z => by
      subst z
      rcases hq with (q | ⟨ob, q⟩) | ⟨o, _, _, q, _⟩
      · rw [hb] at q; cases q
      · rw [hb] at q; cases q
      · exact hk a o q rfl
    have D := Draws.list (prog := X.prog) (w := X.w) (A := A) hh it a (tracked it hit hnk) its.toArray
    have hl : its.toArray.size = xs.length := by simp [rv.length]
    rw [hl] at D
    refine ⟨_, _, _, D, by simp [hne, (tracked e he hke).symm], fun i st => ⟨st, p.isList⟩, fun i h st => st.1, fun i u hu => ?_⟩
    have hu' : its[i]? = some u := by simpa using hu
    have hi : i < xs.length := by rw [rv.length]; exact (List.getElem?_eq_some_iff.mp hu').1
    obtain ⟨u2, h1, h2⟩ := rv.get (i := i) (x := xs[i]) (by simp [hi])
    rw [hu'] at h1; cases h1
    exact ⟨xs[i], by simp [hi], h2⟩
  | .tpl a, hq, e, he, hne, hke => by
    obtain ⟨its, rv, p, hz⟩ := I.tuple hq
    have tracked : ∀ b, H b = none → (∀ a o, X.K.lookup a = some o → a ≠ b) → a ≠ b := fun b hb hk z => by
      subst z
      rcases hq with (q | ⟨ob, q⟩) | ⟨o, _, _, q, _⟩
      · rw [hb] at q; cases q
      · rw [hb] at q; cases q
      · exact hk a o q rfl
    have D := Draws.tuple (prog := X.prog) (w := X.w) (A := A) hh it a (tracked it hit hnk) its.toArray
    have hl : its.toArray.size = xs.length := by simp [rv.length]
    rw [hl] at D
    refine ⟨_, _, _, D, by simp [hne, (tracked e he hke).symm], fun i st => ⟨st, p⟩, fun i h st => st.1, fun i u hu => ?_⟩
    have hu' : its[i]? = some u := by simpa using hu
    have hi : i < xs.length := by rw [rv.length]; exact (List.getElem?_eq_some_iff.mp hu').1
    obtain ⟨u2, h1, h2⟩ := rv.get (i := i) (x := xs[i]) (by simp [hi])
    rw [hu'] at h1; cases h1
    exact ⟨xs[i], by simp [hi], h2⟩
  | .txt x t, hq, e, he, hne, hke => by
    cases hq
    have D := Draws.text (prog := X.prog) (w := X.w) (A := A) hh it x t
    rw [← signs_len x] at D
    refine ⟨_, _, _, D, by simp [hne], fun i st => st, fun i h st => st, fun i u ⟨c, k, hc, e⟩ => ⟨_, signs_get hc, ?_⟩⟩
    subst e
    exact ⟨_, rfl⟩
/-! ### enumerate(source, k) -/
def Iten (K : PySem.W.Frag) (k : Int) (r : Src) : It :=
  ⟨fun i H => ∃ (xs : List V) (x : V), r.at K H xs ∧ xs[i]? = some x, fun i H v H' => ∃ T x, v = .ref T ∧ H T = none ∧ H' = upd H T (.tup [.int (k + (i : Nat)), x]) ∧ ∀ xs, r.at K H xs → xs[i]? = some x, fun i H => ∃ xs : List V, r.at K H xs ∧ xs.length = i⟩
theorem src_inj {pins : List (Addr × Obj)} {s : Shared} {σ : L2.St} {H : Hp} (I : Inv X pins σ H s) {xs ys : List V} : ∀ {r : Src}, r.at X.K H xs → r.at X.K H ys → xs = ys
  | .lis a, h, h' => I.list_inj h h'
  | .tpl a, h, h' => I.tuple_inj h h'
  | .txt x k, h, h' => by rw [h, h']
/-- an address of the written part is older than what runs -/
theorem Kold {pins : List (Addr × Obj)} {s : Shared} {σ : L2.St} {H : Hp} (I : Inv X pins σ H s) {b : Addr} (hf : FpOk X pins H b) : ∀ a o, X.K.lookup a = some o → a ≠ b := fun a o q z => by
  subst z
  obtain ⟨_, _, _, h, _⟩ := hf
  have hb : X.base.get? a = some o := I.ok.mod.kin a o q
  rcases h with h | h
  · exact I.ok.noex a o hb h
  · have h1 := (I.ok.bs a o hb).1
    exact absurd (Nat.lt_of_lt_of_le (Heap.lt_size h1) h) (Nat.lt_irrefl _)
theorem turn_en {P : Program} {w : World} {K : PySem.W.Frag} {elts : List Expr} {kk : Nat} {tpos : Pos} (k : Int) (r : Src) (e it : Addr) :
    Turn P w K (.Tuple elts kk tpos) (Iten K k r) [e, it] e (fun i h => (∃ old, IsEnum h e it (k + ((i : Nat) : Int)) old) ∧ r.iter it i h ∧ e ≠ it) where
  mem := by simp
  obj := fun i h st b hb => by
    obtain ⟨⟨old, he⟩, hi, _⟩ := st
    have e' : b = e ∨ b = it := by simpa using hb
    rcases e' with z | z
    · rw [z]; exact ⟨_, he, fun v q => nomatch q⟩
    · rw [z]; exact src_obj hi
  keep := fun i h h' st k => let ⟨⟨old, he⟩, hi, hne⟩ := st; ⟨⟨old, k e (by simp) _ he⟩, src_keep hi fun o q => k it (by simp) o q, hne⟩
  item := by
    intro X hP hw hK hc i pins s σ H E I hf st hg
    subst hP hw hK
    obtain ⟨⟨old, he⟩, hit, hne⟩ := st
    obtain ⟨xs, x, hq, hx⟩ := hg
    have hel : e < s.heap.objs.size := Heap.lt_size he
    have hil : it < s.heap.objs.size := by obtain ⟨_, q, _⟩ := src_obj hit; exact Heap.lt_size q
    have fe := hf e (by simp)
    have fi := hf it (by simp)
    obtain ⟨fp, P, S, D, hef, hS, hS', hP⟩ := src_draws I (A := X.A.in1) (I.ok.hd hc) fi.1 (Kold I fi) hq fe.1 hne (Kold I fe)
    have hlt : i < xs.length := (List.getElem?_eq_some_iff.mp hx).1
    refine wpAny_pyNext_enum_itemC D he (hS i hit) hlt hne hef fun u h' tk hu ho hst' hT hsz hk => ?_
    obtain ⟨x', hx', ru⟩ := hP i u hu
    rw [hx] at hx'; cases hx'
    refine ⟨_, rfl, wpAny_letOwnedTupleGo_enum (s := { s with heap := h', toks := tk + 1 }) ho fun h'' he' sb => ?_⟩
    have hT2 : h''.get? s.heap.objs.size = some { cls := .type "tuple", data := .seq #[.int (k + (i : Nat)) tk, u] } := (sb.2 _ (Nat.ne_of_gt hel)).trans hT
    have new : ObjOk X.prog X.w (upd H s.heap.objs.size (.tup [.int (k + (i : Nat)), x])) h'' s.heap.objs.size (.tup [.int (k + (i : Nat)), x]) :=
      ⟨by show 2 ≤ sizeLine; decide, [.int (k + (i : Nat)) tk, u], .cons ⟨_, rfl⟩ (.cons ru .nil), ⟨_, hT2, rfl, _, rfl⟩⟩
    have I1 : Inv X pins σ (upd H s.heap.objs.size (.tup [.int (k + (i : Nat)), x])) { s with heap := h'', toks := tk + 1 } :=
      I.turnedNew (ch := [e, it]) (fun b ob hb q => (sb.2 b (fun z => hb (by simp [z]))).trans (hk b ob (fun z => hb (by simp [z])) (fun z => hb (by simp [z])) q)) hf (Nat.le_refl _) new
    refine ⟨.ref s.heap.objs.size, _, I1, rfl, ⟨_, x, rfl, I.hok.fresh (Nat.le_refl _), rfl, fun ys hy => by rw [src_inj I hy hq]; exact hx⟩, ⟨⟨u, ?_⟩, src_keep (hS' _ _ hst') fun o q => (sb.2 it (Ne.symm hne)).trans q, hne⟩, fun b hb => ?_⟩
    · have e1 : k + ((i + 1 : Nat) : Int) = k + (i : Int) + 1 := by omega
      rw [e1]; exact he'
    · have hb' : b < s.heap.objs.size := by
        have e' : b = e ∨ b = it := by simpa using hb
        rcases e' with z | z
        · rw [z]; exact hel
        · rw [z]; exact hil
      rw [upd_ne (Nat.ne_of_lt hb')]
      exact (hf b hb).1
  done := by
    intro X hP hw hK hc i pins s σ H E I hf st hg
    subst hP hw hK
    obtain ⟨⟨old, he⟩, hit, hne⟩ := st
    obtain ⟨xs, hq, hx⟩ := hg
    have fe := hf e (by simp)
    have fi := hf it (by simp)
    obtain ⟨f0, f1, f2, f3, f4, f5⟩ := id fi
    obtain ⟨fp, P, S, D, hef, hS, hS', hP⟩ := src_draws I (A := X.A.in1) (I.ok.hd hc) fi.1 (Kold I fi) hq fe.1 hne (Kold I fe)
    subst hx
    exact wpAny_pyNext_enum_endD D he (hS _ hit) fun h' eb => ⟨rfl, I.turned (t' := s.toks) (fun b o hb q => eb b o hb q) f0 f1 f3 f4 f5⟩
  self := fun A i s Q E st h => let ⟨⟨_, he⟩, _⟩ := st; wpAny_pyIter_enum he h

set_option maxHeartbeats 1000000 in
theorem meets_enumerate_one {v : Value} {o : Obj} {H : Heap → Prop} (B : Begins v o H) :
    Meets (Builtin.«enumerate.__new__» ⟨[.type "enumerate", v], []⟩) (fun _ R s => H s.heap ∧
      R (.ok (.ret (.ref (s.heap.push o).objs.size))) { s with heap := (s.heap.push o).push { cls := .type "enumerate", data := .fields #[.none, .bool false, .ref s.heap.objs.size, rawInt 0, .none, .none] } }) :=
  .of_wp fun prog w A R s h => by
    obtain ⟨hp, g, d, tk, os⟩ := s; obtain ⟨h1, h⟩ := h
    have hsub := sub_enumerate
    have q1 : ∀ {A' : Around} {E : Value → Shared → Prop} {Q : Value → Shared → Prop}, Q (.ref hp.objs.size) ⟨hp.push o, g, d, tk, os⟩ → wpAny (model prog w) A' (pyIter v) Q E ⟨hp, g, d, tk, os⟩ :=
      fun q => B.iter prog w _ _ ⟨hp, g, d, tk, os⟩ _ h1 q
    wp_walk using q1
    refine wpAny_stack_any fun st => wpAny_pure ?_
    split
    · rename_i c _ _ _ _ _
      cases (c == Value.type "enumerate")
      · wp_walk using q1
        exact ⟨_, rfl, h⟩
      · wp_walk using q1
        exact ⟨_, rfl, h⟩
    · wp_walk using q1
      exact ⟨_, rfl, h⟩
theorem enum_begins_one {prog : Program} {w : World} {A : Around} {E : Value → Shared → Prop} {s : Shared} {v : Value} {o : Obj} {H : Heap → Prop} {Q : Value → Shared → Prop} (B : Begins v o H) (h1 : H s.heap)
    (h : ∀ h', IsEnum h' (s.heap.objs.size + 1) s.heap.objs.size 0 .none → h'.get? s.heap.objs.size = some o → h'.objs.size = s.heap.objs.size + 2 →
      (∀ b o, s.heap.get? b = some o → h'.get? b = some o) → Q (.ref (s.heap.objs.size + 1)) { s with heap := h' }) :
    wpAny (model prog w) A (call (.type "enumerate") [v]) Q E s := by
  refine callType_new F.called_enumerate (by decide) (F.typeCall_enumerate_1 _) (F.newCall_enumerate_1 _) (fun obj => F.args_object_init_2 obj _) F.entry_enumerate_new
    (meets_enumerate_one B) ⟨h1, ?_⟩
  have hz : (s.heap.push o).objs.size = s.heap.objs.size + 1 := Heap.size_push ..
  show _ ∧ _
  rw [hz]
  have he : IsEnum ((s.heap.push o).push { cls := .type "enumerate", data := .fields #[.none, .bool false, .ref s.heap.objs.size, rawInt 0, .none, .none] }) (s.heap.objs.size + 1) s.heap.objs.size 0 .none := by
    have := Heap.get?_push_size (s.heap.push o) (o := { cls := .type "enumerate", data := .fields #[.none, .bool false, .ref s.heap.objs.size, rawInt 0, .none, .none] }) rfl
    rw [hz] at this; exact this
  refine ⟨⟨_, he, rfl⟩, h _ he (Heap.get?_push_of_some _ (Heap.get?_push_size _ B.free)) (by rw [Heap.size_push, hz]) fun b o x => Heap.get?_push_of_some _ (Heap.get?_push_of_some _ x)⟩
def srcObj : Src → Obj
  | .lis a => { cls := .type "list_iterator", data := .fields #[.ref a, .int 0 0] }
  | .tpl a => { cls := .type "tuple_iterator", data := .fields #[.ref a, .int 0 0] }
  | .txt x k => { cls := .type (strIterType x), data := .fields #[.str x k, .int 0 0] }
theorem src_begins {pins : List (Addr × Obj)} {s : Shared} {σ : L2.St} {H : Hp} (I : Inv X pins σ H s) {xs : List V} : ∀ {r : Src}, r.at X.K H xs → ∃ Hh : Heap → Prop, Begins r.val (srcObj r) Hh ∧ Hh s.heap
  | .lis a, h => let ⟨its, rv, p, hz⟩ := I.list h; ⟨_, begins_list a its.toArray, p.isList⟩
  | .tpl a, h => let ⟨its, rv, p, hz⟩ := I.tuple h; ⟨_, begins_tuple a its.toArray, p⟩
  | .txt x k, h => ⟨_, begins_text x k, trivial⟩
theorem src_first {it : Addr} {h : Heap} : ∀ {r : Src}, h.get? it = some (srcObj r) → r.iter it 0 h
  | .lis a, e => ⟨_, e, rfl, rfl⟩
  | .tpl a, e => ⟨_, e, rfl, rfl⟩
  | .txt x k, e => ⟨_, e, rfl, rfl⟩
/-- an enumerate that has begun -/
theorem en_it {pins : List (Addr × Obj)} {s : Shared} {σ : L2.St} {H : Hp} {elts : List Expr} {kk : Nat} {tpos : Pos} {R : It → Hp → Prop} {E : Value → Shared → Prop} (I : Inv X pins σ H s) {k : Int} {r : Src} {xs : List V} (hr : r.at X.K H xs) (q : R (Iten X.K k r) H) {h' : Heap}
    (he : IsEnum h' (s.heap.objs.size + 1) s.heap.objs.size k .none) (ho : h'.get? s.heap.objs.size = some (srcObj r)) (hk : ∀ b o, s.heap.get? b = some o → h'.get? b = some o) :
    wpAny (model X.prog X.w) X.A (pyIter (.ref (s.heap.objs.size + 1))) (PIE X pins σ (.Tuple elts kk tpos) R) E { s with heap := h' } := by
  refine wpAny_pyIter_enum he ?_
  have I2 : Inv X pins σ H { s with heap := h' } := I.kept (t' := s.toks) hk
  refine ⟨s.heap.objs.size + 1, [s.heap.objs.size + 1, s.heap.objs.size], _, _, H, rfl, I2, turn_en k r (s.heap.objs.size + 1) s.heap.objs.size, ⟨⟨.none, by simpa using he⟩, src_first ho, Nat.succ_ne_self _⟩, fun b hb => ?_, q⟩
  have e' : b = s.heap.objs.size + 1 ∨ b = s.heap.objs.size := by simpa using hb
  have hle : s.heap.objs.size ≤ b := by
    rcases e' with z | z
    · rw [z]; exact Nat.le_add_right _ _
    · rw [z]; exact Nat.le_refl _
  exact I.fpOk hle (I.hok.fresh hle)
/-- v is the source f t, t its token -/
def SrcF (K : PySem.W.Frag) (H : Hp) (v : V) (xs : List V) (f : Tok → Src) : Prop := (∀ u, RelV v u → ∃ t, (f t).val = u) ∧ ∀ t, (f t).at K H xs
def iEn (K : PySem.W.Frag) (ta : TA) : TI := fun σ H R => ta σ H fun vs H1 => ∃ v xs f, vs = [v] ∧ SrcF K H1 v xs f ∧ ∀ t, R (Iten K 0 (f t)) H1
theorem pi_en {e : Expr} {ta : TA} {p pos tpos : Pos} {elts : List Expr} {kk : Nat} (hg : Gl X "enumerate") (hm : X.mg "enumerate" = none) (ha : PA X [e] ta) (hs : starEach [e] X.env = [(false, eval e X.env)] := by rfl) :
    PI X (.Tuple elts kk tpos) (.Call (.Name "enumerate" p) [e] [] pos) (iEn X.K ta) := by
  refine ⟨fun pins s σ H R I h => ?_⟩
  refine Call_ (ld_blt I hg hm boot_enumerate (PyProof.Rows.callWith_type1 (thn (ha.run pos pins s σ H _ I h) fun us s1 ⟨vs, H1, I1, r1, q1⟩ => ?_) hs rfl))
  obtain ⟨v, xs, f, ex, hq, q⟩ := q1
  subst ex
  obtain ⟨u, rfl, ru⟩ := vals1 r1
  obtain ⟨t, rfl⟩ := hq.1 u ru
  obtain ⟨Hh, B, hB⟩ := src_begins I1 (hq.2 t)
  exact enum_begins_one B hB fun h' he ho hsz hk => en_it I1 (hq.2 t) (q t) he ho hk
theorem callWith_tyKw {M : Model} {A : Around} {E : Value → Shared → Prop} {s : Shared} {env : Env} {pos : Pos} {T : String} {e : Expr} {rest : List Expr} {kws : List Keyword} {Q : Value → Shared → Prop}
    (h : wpAny M A (spliced (backTo pos (starEach (e :: rest) env))) (fun vs s₁ => wpAny M A (evalAll ((backToKw pos (keywordEach kws env)).map (·.2)))
      (fun kvs s₂ => wpAny M A (call (.type T) vs (((backToKw pos (keywordEach kws env)).filterMap (·.1)).zip kvs)) Q E s₂) E s₁) E s)
    (he : backTo pos (starEach (e :: rest) env) = (false, eval e env) :: backTo pos (starEach rest env) := by rfl)
    (hplain : (backTo pos (starEach (e :: rest) env)).any (·.1) = false := by rfl)
    (hall : (backToKw pos (keywordEach kws env)).all (·.1.isSome) = true := by rfl)
    (hkw : (backToKw pos (keywordEach kws env)).any (·.1.isNone) = false := by rfl) :
    wpAny M A (callWith pos (.type T) [] (backTo pos (starEach (e :: rest) env)) (backToKw pos (keywordEach kws env))) Q E s := by
  unfold callWith
  rw [he] at h ⊢
  rw [he] at hplain
  refine wpAny_bind (wpAny_holding (wpAny_mono (evalArgs_kwB (Q := fun a s₁ => wpAny M A (call (.type T) a.pos a.kw) Q E s₁) hall h) (fun a s₁ h₁ => wpAny_bind (wpAny_standAt ?_)) fun _ _ x => x))
  simp only [hplain, hkw, Bool.or_false]
  refine wpAny_bind (wpAny_pure ?_)
  exact wpAny_bind (wpAny_mono h₁ (fun r s₂ hr => wpAny_bind (wpAny_holding (wpAny_point (wpAny_pure hr)))) fun _ _ x => x)
def iEnK (K : PySem.W.Frag) (ta tk : TA) : TI := fun σ H R => ta σ H fun vs H1 => tk σ H1 fun ks H2 => ∃ v xs f k, vs = [v] ∧ ks = [.int k] ∧ -(2 ^ 63) ≤ k ∧ k < 2 ^ 63 ∧ SrcF K H2 v xs f ∧ ∀ t, R (Iten K k (f t)) H2
theorem pi_enK {e ek : Expr} {ta tk : TA} {p pos kpos tpos : Pos} {elts : List Expr} {kk : Nat} (hg : Gl X "enumerate") (hm : X.mg "enumerate" = none) (ha : PA X [e] ta) (hk : PK X [⟨some "start", ek, kpos⟩] tk)
    (hev : eval (.Call (.Name "enumerate" p) [e] [⟨some "start", ek, kpos⟩] pos) X.env = (do callWith pos (← eval (.Name "enumerate" p) X.env) [] (backTo pos (starEach [e] X.env)) (backToKw pos (keywordEach [⟨some "start", ek, kpos⟩] X.env))) := by rfl)
    (he : backTo pos (starEach [e] X.env) = (false, eval e X.env) :: backTo pos (starEach [] X.env) := by rfl) (hplain : (backTo pos (starEach [e] X.env)).any (·.1) = false := by rfl) :
    PI X (.Tuple elts kk tpos) (.Call (.Name "enumerate" p) [e] [⟨some "start", ek, kpos⟩] pos) (iEnK X.K ta tk) := by
  refine ⟨fun pins s σ H R I h => ?_⟩
  rw [hev]
  refine wpAny_bind (ld_blt I hg hm boot_enumerate (callWith_tyKw (thn (ha.run pos pins s σ H _ I h) fun us s1 ⟨vs, H1, I1, r1, q1⟩ => thn (hk.run pos pins s1 σ H1 _ I1 q1) fun ws s2 ⟨zs, H2, I2, r2, q2⟩ => ?_) he hplain rfl rfl))
  obtain ⟨v, xs, f, k, ex, ek, k0, k1, hq, q⟩ := q2
  subst ex; subst ek
  obtain ⟨u, rfl, ru⟩ := vals1 r1
  obtain ⟨uk, rfl, rk⟩ := vals1 r2
  obtain ⟨t, rfl⟩ := rk
  obtain ⟨tt, rfl⟩ := hq.1 u ru
  obtain ⟨Hh, B, hB⟩ := src_begins I2 (hq.2 tt)
  exact enum_begins_start B hB k0 k1 fun h' he ho hsz hk => en_it I2 (hq.2 tt) (q tt) he ho hk

/-! ### walks over trees -/
def itemsOf : D → Option (List D)
  | .lst ds => some ds
  | .tup ds => some ds
  | .str x => some (signsD x)
  | .scr ns => some (ns.map D.int)
  | _ => none
theorem reps_ints {G : Gx} {g : Gh} {H : Hp} : ∀ ns : List Int, Reps G g H (ns.map V.int) (ns.map D.int)
  | [] => .nil
  | n :: r => .cons (.int n) (reps_ints r)
theorem reps_signs {G : Gx} {g : Gh} {H : Hp} (x : Str) : Reps G g H (signs x) (signsD x) := by
  unfold signs signsD
  generalize x.cps.toList = l
  induction l with
  | nil => exact .nil
  | cons c r ih => exact .cons (.str _) ih
/-- a tree that can be walked is a source, for good -/
theorem src_rep {G : Gx} {g0 : Gh} {st0 : Sto} {H0 : Hp} {v : V} {d : D} {ds : List D} (r : Rep G g0 H0 v d) (hi : itemsOf d = some ds) : ∃ f xs, SrcF G.K H0 v xs f ∧ ∀ g st H, Step g0 st0 H0 g st H → (∀ t, (f t).at G.K H xs) ∧ Reps G g H xs ds := by
  cases r with
  | lst w h rs => cases hi; exact ⟨fun _ => .lis _, _, ⟨fun u e => ⟨0, e.symm⟩, fun _ => .of h⟩, fun g st H s => ⟨fun _ => .of (s.ex _ _ (.of w) h (.inl rfl)), rs.mono s⟩⟩
  | tup h rs => cases hi; exact ⟨fun _ => .tpl _, _, ⟨fun u e => ⟨0, e.symm⟩, fun _ => h.sq⟩, fun g st H s => ⟨fun _ => (h.mono s).sq, rs.mono s⟩⟩
  | str x => cases hi; exact ⟨fun t => .txt x t, _, ⟨fun u ⟨t, e⟩ => ⟨t, e.symm⟩, fun _ => rfl⟩, fun g st H s => ⟨fun _ => rfl, reps_signs x⟩⟩
  | scr h => cases hi; exact ⟨fun _ => .lis _, _, ⟨fun u e => ⟨0, e.symm⟩, fun _ => h.sq⟩, fun g st H s => ⟨fun _ => (h.mono s).sq, reps_ints _⟩⟩
  | _ => cases hi
def enumD : Int → List D → List D
  | _, [] => []
  | k, d :: ds => .tup [.int k, d] :: enumD (k + 1) ds
theorem enumD_get : ∀ {ds : List D} {k : Int} {i : Nat} {x : D}, (enumD k ds)[i]? = some x → ∃ d, ds[i]? = some d ∧ x = .tup [.int (k + i), d]
  | [], _, _, _, h => by simp [enumD] at h
  | d :: ds, k, 0, x, h => ⟨d, rfl, by simp [enumD] at h; rw [← h]; simp⟩
  | d :: ds, k, i + 1, x, h => by
    obtain ⟨d', h1, h2⟩ := enumD_get (ds := ds) (k := k + 1) (i := i) (x := x) (by simpa [enumD] using h)
    refine ⟨d', by simpa using h1, ?_⟩
    rw [h2]
    have : k + 1 + (i : Int) = k + ((i + 1 : Nat) : Int) := by omega
    rw [this]
theorem enumD_len : ∀ {ds : List D} {k : Int}, (enumD k ds).length = ds.length
  | [], _ => rfl
  | d :: ds, k => by simp [enumD, enumD_len]
theorem wk_en {G : Gx} {g0 : Gh} {st0 : Sto} {H0 : Hp} {f : Tok → Src} {xs : List V} {ds : List D} (k : Int) (t : Tok) (hs : ∀ g st H, Step g0 st0 H0 g st H → (∀ t, (f t).at G.K H xs) ∧ Reps G g H xs ds) : Wk G g0 st0 H0 (Iten G.K k (f t)) (enumD k ds) := by
  refine ⟨fun i d st g H hd s rl => ?_, fun st g H s rl => ?_⟩
  · obtain ⟨hat, rs⟩ := hs g st H s
    obtain ⟨d', hd', rfl⟩ := enumD_get hd
    obtain ⟨v, hv, rv⟩ := rs.get hd'
    refine ⟨⟨xs, v, hat t, hv⟩, fun x H' ⟨T, y, ex, hT, eH, hy⟩ => ?_⟩
    have := hy xs (hat t)
    rw [hv] at this; cases this
    subst ex eH
    obtain ⟨s', rl'⟩ := rl.lay (o := .tup [.int (k + (i : Nat)), v]) hT
    exact ⟨s', rl', .tup (.inl ⟨rl.free hT, .inl upd_same⟩) (.cons (.int _) (.cons (rv.mono s') .nil))⟩
  · obtain ⟨hat, rs⟩ := hs g st H s
    exact ⟨xs, hat t, by rw [enumD_len, rs.length]⟩
def dIt (te : TDE) : TDI := fun env st Q => te env st fun d st1 => match itemsOf d with
  | some ds => Q ds st1
  | none => False
def dEn (te : TDE) : TDI := fun env st Q => te env st fun d st1 => match itemsOf d with
  | some ds => Q (enumD 0 ds) st1
  | none => False
theorem di_en {e : Expr} {te : TDE} {p pos tpos : Pos} {elts : List Expr} {kk : Nat} (hg : Gl X "enumerate") (hm : X.mg "enumerate" = none) (ha : DE cA X e te) (hs : starEach [e] X.env = [(false, eval e X.env)] := by rfl) (hs2 : starEach [e] X.env = (false, eval e X.env) :: starEach [] X.env := by rfl) :
    DI cA X (.Tuple elts kk tpos) (.Call (.Name "enumerate" p) [e] [] pos) (dEn te) :=
  pi_weak (pi_en hg hm (pa_cons ha pa_nil hs2) hs) fun σ H R ⟨g, st, env, Qd, rl, en, h, p⟩ => ⟨g, st, env, _, rl, en, h, fun d st1 g1 H1 v s1 rl1 r1 h1 => by
    cases hi : itemsOf d with
    | none => rw [hi] at h1; exact h1.elim
    | some ds =>
      rw [hi] at h1
      obtain ⟨f, xs, hf, hs⟩ := src_rep (st0 := st1) r1 hi
      exact ⟨v, xs, f, rfl, hf, fun t => p _ _ _ _ _ s1 rl1 (wk_en 0 t hs) h1⟩⟩
def dEnK (k : Int) (te : TDE) : TDI := fun env st Q => te env st fun d st1 => match itemsOf d with
  | some ds => Q (enumD k ds) st1
  | none => False
theorem di_enK {e : Expr} {te : TDE} {k : Int} {p pos kpos kp2 tpos : Pos} {j kk : Nat} {elts : List Expr} (hg : Gl X "enumerate") (hm : X.mg "enumerate" = none) (ha : DE cA X e te) (k0 : -(2 ^ 63) ≤ k := by decide) (k1 : k < 2 ^ 63 := by decide)
    (hev : eval (.Call (.Name "enumerate" p) [e] [⟨some "start", .Constant (.int k) j kp2, kpos⟩] pos) X.env = (do callWith pos (← eval (.Name "enumerate" p) X.env) [] (backTo pos (starEach [e] X.env)) (backToKw pos (keywordEach [⟨some "start", .Constant (.int k) j kp2, kpos⟩] X.env))) := by rfl)
    (hs2 : starEach [e] X.env = (false, eval e X.env) :: starEach [] X.env := by rfl) (he : backTo pos (starEach [e] X.env) = (false, eval e X.env) :: backTo pos (starEach [] X.env) := by rfl) (hplain : (backTo pos (starEach [e] X.env)).any (·.1) = false := by rfl) :
    DI cA X (.Tuple elts kk tpos) (.Call (.Name "enumerate" p) [e] [⟨some "start", .Constant (.int k) j kp2, kpos⟩] pos) (dEnK k te) :=
  pi_weak (pi_enK hg hm (pa_cons ha pa_nil hs2) (pk_cons pe_int pk_nil) hev he hplain) fun σ H R ⟨g, st, env, Qd, rl, en, h, p⟩ => ⟨g, st, env, _, rl, en, h, fun d st1 g1 H1 v s1 rl1 r1 h1 => by
    cases hi : itemsOf d with
    | none => rw [hi] at h1; exact h1.elim
    | some ds =>
      rw [hi] at h1
      obtain ⟨f, xs, hf, hs⟩ := src_rep (st0 := st1) r1 hi
      exact ⟨v, xs, f, k, rfl, rfl, k0, k1, hf, fun t => p _ _ _ _ _ s1 rl1 (wk_en k t hs) h1⟩⟩
/-- range -/
def rangeD (lo : Int) (n : Nat) : List D := (List.range n).map fun i => D.int (lo + (i : Nat))
theorem wk_range {G : Gx} {g0 : Gh} {st0 : Sto} {H0 : Hp} (lo : Int) (n : Nat) : Wk G g0 st0 H0 (Itr lo n) (rangeD lo n) := by
  refine ⟨fun i d st g H hd s rl => ?_, fun st g H s rl => by simp [rangeD, Itr]⟩
  have hi : i < n := by
    have := (List.getElem?_eq_some_iff.mp hd).1
    simpa [rangeD] using this
  have e : d = .int (lo + (i : Nat)) := by simpa [rangeD, hi, eq_comm] using hd
  subst e
  refine ⟨hi, fun x H' ⟨e1, e2⟩ => ?_⟩
  subst e1 e2
  exact ⟨Step.refl _ _ _, rl, .int _⟩
def dRg1 (te : TDE) : TDI := fun env st Q => te env st fun d st1 => match d with
  | .int j => (-(2 ^ 62) ≤ j ∧ j < 2 ^ 62) ∧ Q (rangeD 0 j.toNat) st1
  | _ => False
theorem di_range1 {tg a : Expr} {ta : TDE} {p pos : Pos} (hg : Gl X "range") (hm : X.mg "range" = none) (ha : DE cA X a ta) (hs : starEach [a] X.env = [(false, eval a X.env)] := by rfl) (hs2 : starEach [a] X.env = (false, eval a X.env) :: starEach [] X.env := by rfl) : DI cA X tg (.Call (.Name "range" p) [a] [] pos) (dRg1 ta) :=
  pi_weak (pi_range1 hg hm (pa_cons ha pa_nil hs2) hs) fun σ H R ⟨g, st, env, Qd, rl, en, h, p⟩ => ⟨g, st, env, _, rl, en, h, fun d st1 g1 H1 v s1 rl1 r1 h1 => by
    cases r1 with
    | int j => exact ⟨j, rfl, h1.1.1, h1.1.2, p _ _ _ _ _ s1 rl1 (wk_range 0 j.toNat) h1.2⟩
    | _ => exact h1.elim⟩
def dRg2 (ta tb : TDE) : TDI := fun env st Q => ta env st fun x st1 => tb env st1 fun y st2 => match x, y with
  | .int i, .int j => (-(2 ^ 62) ≤ i ∧ i < 2 ^ 62 ∧ -(2 ^ 62) ≤ j ∧ j < 2 ^ 62) ∧ Q (rangeD i (j - i).toNat) st2
  | _, _ => False
theorem di_range2 {tg a b : Expr} {ta tb : TDE} {p pos : Pos} (hg : Gl X "range") (hm : X.mg "range" = none) (ha : DE cA X a ta) (hb : DE cA X b tb) (hs : starEach [a, b] X.env = [(false, eval a X.env), (false, eval b X.env)] := by rfl) (hs2 : starEach [b] X.env = [(false, eval b X.env)] := by rfl)
    (hs3 : starEach [a, b] X.env = (false, eval a X.env) :: starEach [b] X.env := by rfl) (hs4 : starEach [b] X.env = (false, eval b X.env) :: starEach [] X.env := by rfl) : DI cA X tg (.Call (.Name "range" p) [a, b] [] pos) (dRg2 ta tb) :=
  pi_weak (pi_range2 hg hm (pa_cons ha (pa_cons hb pa_nil hs4) hs3) hs hs2) fun σ H R ⟨g, st, env, Qd, rl, en, h, p⟩ => ⟨g, st, env, _, rl, en, h, fun d st1 g1 H1 v s1 rl1 r1 h1 => ⟨g1, st1, env, _, rl1, en.mono s1, h1, fun d2 st2 g2 H2 v2 s2 rl2 r2 h2 => by
    have r1' := r1.mono s2
    cases r1' with
    | int i =>
      cases r2 with
      | int j => exact ⟨i, j, rfl, h2.1, p _ _ _ _ _ (s1.trans s2) rl2 (wk_range i (j - i).toNat) h2.2⟩
      | _ => exact h2.elim
    | _ => cases r2 <;> exact h2.elim⟩⟩
/-- anything that can be walked -/
def iAny (K : PySem.W.Frag) (te : TE) : TI := fun σ H R => te σ H fun v H1 => (∃ a, v = .ref a ∧ (∃ xs, SqL K H1 a xs) ∧ R (Itl K a) H1) ∨ (∃ a, v = .ref a ∧ (∃ xs, SqT K H1 a xs) ∧ R (Itt K a) H1) ∨ ∃ x, v = .str x ∧ R (Its x) H1
theorem pi_any {tg e : Expr} {te : TE} (he : PE X e te) : PI X tg e (iAny X.K te) := by
  refine ⟨fun pins s σ H R I h => ?_⟩
  refine thn (he.run pins s σ H _ I h) fun v s1 ⟨y, H1, I1, r1, q1⟩ => ?_
  rcases q1 with ⟨a, e, ⟨xs, hq⟩, q⟩ | ⟨a, e, ⟨xs, hq⟩, q⟩ | ⟨x, e, q⟩
  · subst e
    cases r1
    obtain ⟨its, rv, p, hz⟩ := I1.list hq
    refine wpAny_pyIter_list p.isList ?_
    refine ⟨s1.heap.objs.size, [s1.heap.objs.size], _, _, H1, rfl, I1.kept (t' := s1.toks) fun b o e => Heap.get?_push_of_some _ e, turn_list a _, ⟨_, Heap.get?_push_size _ rfl, rfl, rfl⟩, fun b hb => ?_, q⟩
    have e : b = s1.heap.objs.size := by simpa using hb
    subst e
    exact I1.fpOk (Nat.le_refl _) (I1.hok.fresh (Nat.le_refl _))
  · subst e
    cases r1
    obtain ⟨its, rv, p, hz⟩ := I1.tuple hq
    refine wpAny_pyIter_tuple (show s1.heap.IsTuple a its.toArray from p) ?_
    refine ⟨s1.heap.objs.size, [s1.heap.objs.size], _, _, H1, rfl, I1.kept (t' := s1.toks) fun b o e => Heap.get?_push_of_some _ e, turn_tuple a _, ⟨_, Heap.get?_push_size _ rfl, rfl, rfl⟩, fun b hb => ?_, q⟩
    have e : b = s1.heap.objs.size := by simpa using hb
    subst e
    exact I1.fpOk (Nat.le_refl _) (I1.hok.fresh (Nat.le_refl _))
  · subst e
    obtain ⟨t, rfl⟩ := r1
    cases ha : x.cps.all (· < 128)
    · exact wpAny_pyIter_wide ha (pi_one (tk := s1.toks) I1 _ (turn_str _ x t "str_iterator" (.inr rfl)) ⟨_, Heap.get?_push_size _ rfl, rfl, rfl⟩ q)
    · exact wpAny_pyIter_ascii ha (pi_one (tk := s1.toks) I1 _ (turn_str _ x t "str_ascii_iterator" (.inl rfl)) ⟨_, Heap.get?_push_size _ rfl, rfl, rfl⟩ q)
theorem wk_seq {G : Gx} {g0 : Gh} {st0 : Sto} {H0 : Hp} {J : It} {xs : List V} {ds : List D} {at' : Hp → Prop} (hs : ∀ g st H, Step g0 st0 H0 g st H → at' H ∧ Reps G g H xs ds) (hgo : ∀ i x H, at' H → xs[i]? = some x → J.go i H) (hy : ∀ i H x H', at' H → J.yld i H x H' → H' = H ∧ xs[i]? = some x) (hst : ∀ H, at' H → J.stop xs.length H) : Wk G g0 st0 H0 J ds := by
  refine ⟨fun i d st g H hd s rl => ?_, fun st g H s rl => ?_⟩
  · obtain ⟨hat, rs⟩ := hs g st H s
    obtain ⟨v, hv, rv⟩ := rs.get hd
    refine ⟨hgo i v H hat hv, fun x H' y => ?_⟩
    obtain ⟨e, hx⟩ := hy i H x H' hat y
    subst e
    rw [hv] at hx; cases hx
    exact ⟨Step.refl _ _ _, rl, rv⟩
  · obtain ⟨hat, rs⟩ := hs g st H s
    rw [← rs.length]
    exact hst H hat
theorem di_any {tg e : Expr} {te : TDE} (he : DE cA X e te) : DI cA X tg e (dIt te) :=
  pi_weak (pi_any he) fun σ H R ⟨g, st, env, Qd, rl, en, h, p⟩ => ⟨g, st, env, _, rl, en, h, fun d st1 g1 H1 v s1 rl1 r1 h1 => by
    cases hi : itemsOf d with
    | none => rw [hi] at h1; exact h1.elim
    | some ds =>
      rw [hi] at h1
      obtain ⟨f, xs, hf, hs⟩ := src_rep (st0 := st1) r1 hi
      cases r1 with
      | lst w hh rs =>
        cases hi
        refine .inl ⟨_, rfl, ⟨_, .of hh⟩, p _ _ _ _ _ s1 rl1 ?_ h1⟩
        exact wk_seq (xs := _) (at' := fun H => SqL X.K H _ _) (fun g st H s => ⟨.of (s.ex _ _ (.of w) hh (.inl rfl)), rs.mono s⟩) (fun i x H a e => ⟨_, x, a, e⟩) (fun i H x H' a y => ⟨y.1, y.2 _ a⟩) (fun H a => ⟨_, a, Nat.le_refl _⟩)
      | tup hh rs =>
        cases hi
        refine .inr (.inl ⟨_, rfl, ⟨_, hh.sq⟩, p _ _ _ _ _ s1 rl1 ?_ h1⟩)
        exact wk_seq (xs := _) (at' := fun H => SqT X.K H _ _) (fun g st H s => ⟨(hh.mono s).sq, rs.mono s⟩) (fun i x H a e => ⟨_, x, a, e⟩) (fun i H x H' a y => ⟨y.1, y.2 _ a⟩) (fun H a => ⟨_, a, Nat.le_refl _⟩)
      | str x =>
        cases hi
        refine .inr (.inr ⟨x, rfl, p _ _ _ _ _ s1 rl1 ?_ h1⟩)
        exact wk_seq (xs := signs x) (at' := fun _ => True) (fun g st H s => ⟨trivial, reps_signs x⟩) (fun i v H a e => by have := (List.getElem?_eq_some_iff.mp e).1; rw [signs_len] at this; exact this) (fun i H v H' a ⟨y, c, hc, e⟩ => ⟨y, by rw [e]; exact signs_get hc⟩) (fun H a => by rw [signs_len]; exact Nat.le_refl _)
      | scr hh =>
        cases hi
        refine .inl ⟨_, rfl, ⟨_, hh.sq⟩, p _ _ _ _ _ s1 rl1 ?_ h1⟩
        exact wk_seq (xs := _) (at' := fun H => SqL X.K H _ _) (fun g st H s => ⟨(hh.mono s).sq, reps_ints _⟩) (fun i x H a e => ⟨_, x, a, e⟩) (fun i H x H' a y => ⟨y.1, y.2 _ a⟩) (fun H a => ⟨_, a, Nat.le_refl _⟩)
      | _ => cases hi⟩
end
end TL
namespace TL
open PySem PySem.Spec PyProof.Rows L2
/-! ### a def's promise where nothing is being shown (no repr runs around): FnT -/
structure FnT (cA : Nat → Addr) (P : Program) (w : World) (K : PySem.W.Frag) (mg : Str → Option Value) (base : Heap) (k : Nat) (f : Addr) (fd : FuncData) (ps : List Str) (sp : DSp) : Prop where
  len : ∀ ds st Q E, sp ds st Q E → ds.length = ps.length
  run : ∀ (A : Around) (outer : List Env) (s : Shared) (H : Hp) (args : Args) (us : List Value) (vs : List V) (Q : VK), Room k A → A.guards = some [] → Env0 P w K mg base A outer s H → BindsTo s fd args (ps.zip us) → Vals vs us → liftSp ⟨K, cA⟩ sp vs H Q E0 →
    codeAny (model P w) A (.call (.ref f) args) (CR CX0 outer P w H s Q E0) s
section
variable {cA : Nat → Addr} {P : Program} {w : World} {K : PySem.W.Frag} {mg : Str → Option Value} {base : Heap}
theorem FnT.mono {j k : Nat} {f : Addr} {fd : FuncData} {ps : List Str} {sp : DSp} (F : FnT cA P w K mg base j f fd ps sp) (h : j ≤ k) : FnT cA P w K mg base k f fd ps sp :=
  ⟨F.len, fun A outer s H args us vs Q hr => F.run A outer s H args us vs Q (hr.mono h)⟩
theorem FnT.imp {k : Nat} {f : Addr} {fd : FuncData} {ps : List Str} {sp sp' : DSp} (F : FnT cA P w K mg base k f fd ps sp) (h : ∀ ds st Q E, sp' ds st Q E → sp ds st Q E) : FnT cA P w K mg base k f fd ps sp' :=
  ⟨fun ds st Q E q => F.len ds st Q E (h _ _ _ _ q), fun A outer s H args us vs Q hr hg e0 hb hv ⟨g, st, ds, Qd, rl, rs, hs, p⟩ => F.run A outer s H args us vs Q hr hg e0 hb hv ⟨g, st, ds, Qd, rl, rs, h _ _ _ _ hs, p⟩⟩
/-- a promise of the layer, over trees -/
theorem FnT.of {k : Nat} {f : Addr} {fd : FuncData} {ps : List Str} {sp : DSp} (len : ∀ ds st Q E, sp ds st Q E → ds.length = ps.length) (F : FnOk P w K mg base CX0 k f fd ps (liftSp ⟨K, cA⟩ sp)) : FnT cA P w K mg base k f fd ps sp :=
  ⟨len, fun A outer s H args us vs Q hr _ e0 hb hv hs => F.run A outer s H args us vs Q E0 hr e0 hb hv hs⟩
/-- THE RULE for a def that raises nothing, its body over trees -/
theorem fn {x qual : Str} {st : Stmt} {f : Addr} {fd : FuncData} {N ps : List Str} {k : Nat} {sp : DSp} {tb : TDS} (F : Fun K x qual st f fd) (S : FnScope N ps (defScope st))
    (len : ∀ ds st Q E, sp ds st Q E → ds.length = ps.length)
    (hd : ∀ (cdv : Value) (A : Around) (outer : List Env) (s : Shared) (H : Hp), Room k (A.deeper (envOfC qual (defScope st) s.heap.objs.size f cdv)) → (A.deeper (envOfC qual (defScope st) s.heap.objs.size f cdv)).guards = some [] →
      DSs cA (cxOf CX0 P w K mg base N qual (defScope st) f cdv A outer s H E0).nox (defBody st) tb)
    (hb : ∀ ds s0 Q, sp ds s0 Q (fun _ _ _ => False) → tb (ends Q) (startD N ds) s0) : FnT cA P w K mg base (k + 1) f fd ps sp := by
  obtain ⟨oc, od, kV, doc, pm, an, cdv, ct, osl, rfl, lk, hcd⟩ := F.ex
  refine ⟨len, fun A outer s H args us vs Q hr hg e0 hbd r hsp => ?_⟩
  obtain ⟨g, s0, ds, Qd, rl, rs, h, p⟩ := hsp
  have hl : vs.length = ps.length := rs.length.trans (len _ _ _ _ h)
  have KX : K.In s.heap := e0.mod.kin.keeps fun b o e => (e0.bs b o e).1
  have lim : s.heap.NoLimit := e0.mod.nolimit.keeps fun b o e => (e0.bs b o e).1
  refine codeAny_call_function hr.depth (KX _ _ lk) rfl S.co S.gen rfl (PySem.W.codeRec_of KX hcd) (hbd _ _ _ _ ?_)
  refine wpAny_newFunctionEnv_cells S.kind (fun y hy => ?_) fun env he s1 x => ?_
  · cases S.par y.1 (List.of_mem_zip (a := y.1) (b := y.2) hy).1 with
    | inl q => exact .inl q
    | inr q => exact .inr ⟨q, PySem.W.cellsFrom_some _ _ _ (.inl q)⟩
  subst he
  refine ⟨lim.keeps x.toInCall.keep, codeAny_func ?_⟩
  have I := inv_start (CX := CX0) (E := E0) S hr.hd e0 hl r x
  have D := PSs.nox (hd cdv A outer s H (hr.deeper _) hg)
  refine wpAny_mono (D.run [] s1 (L2.start N vs) H { nx := fun _ H' => Q .non H', rt := Q } I
    ⟨g, s0, startD N ds, ends Qd, rl, env_start rs, hb ds s0 Qd h, ⟨fun env1 st1 g1 H1 σ1 q1 rl1 en1 ⟨st', sb, q⟩ => p .non st' g1 H1 .non (q1.sub sb) (rl1.sub sb) .non q, fun d st1 g1 H1 v q1 rl1 r1 ⟨st', sb, q⟩ => p d st' g1 H1 v (q1.sub sb) (rl1.sub sb) r1 q, fun _ _ _ _ _ _ _ _ q => q.elim, fun _ _ _ _ _ _ _ _ q => q.elim⟩⟩) (fun fl s' hs => ?_) fun e s' hs => hs
  cases fl with
  | ret u => obtain ⟨v, σ', H', J, rv, q⟩ := hs; exact ⟨v, H', J.os, J.bare, J.base, J.hok, rv, q⟩
  | next => obtain ⟨σ', H', J, q⟩ := hs; exact ⟨.non, H', J.os, J.bare, J.base, J.hok, rfl, q⟩
  | brk => obtain ⟨_, _, _, q⟩ := hs; exact q.elim
  | cont => obtain ⟨_, _, _, q⟩ := hs; exact q.elim
end
section
variable {X : Cx} {cA : Nat → Addr} {k : Nat} {f : Addr} {fd : FuncData} {ps : List Str} {sp : DSp} {x : Str} {p pos : Pos} {e : Expr} {es : List Expr} {t : TDA}
/-- what comes behind a call that raises nothing -/
theorem back {pins : List (Addr × Obj)} {σ : L2.St} {H : Hp} {s : Shared} {Q : VK} {c : Code} {us : List Value} (I : Inv X pins σ H s) (h : codeAny (model X.prog X.w) X.A (.call (.ref f) ⟨us, []⟩) (CR CX0 X.stack X.prog X.w H s Q E0) s) :
    wpAny (model X.prog X.w) X.A (call (.ref f) us) (EP X pins σ Q) X.xe s := by
  refine wpAny_call (codeAny_mono h fun r s' hq => ?_)
  cases r with
  | error e => exact hq.elim
  | ok fl => cases fl with
    | ret u => exact I.after hq
    | _ => exact hq.elim
theorem run_t {pins : List (Addr × Obj)} {σ : L2.St} {H : Hp} {s : Shared} {Q : VK} {us : List Value} {vs : List V} (F : FnT cA X.prog X.w X.K X.mg X.base k f fd ps sp) (hr : Room k X.A) (hgd : X.A.guards = some []) (hb : Binds X.K fd ps [])
    (I : Inv X pins σ H s) (r : Vals vs us) (h : liftSp (gx X cA) sp vs H Q E0) : wpAny (model X.prog X.w) X.A (call (.ref f) us) (EP X pins σ Q) X.xe s := by
  have hl : (us ++ []).length = ps.length := by
    obtain ⟨g, st, ds, Qd, rl, rs, hs, _⟩ := h
    rw [List.append_nil, ← r.length, rs.length]
    exact F.len _ _ _ _ hs
  have hbd := hb s us I.kIn hl
  rw [List.append_nil] at hbd
  exact back (c := .call (.ref f) ⟨us, []⟩) I (F.run X.A X.stack s H ⟨us, []⟩ us vs Q hr hgd I.env0 hbd r h)
theorem dt_call (F : FnT cA X.prog X.w X.K X.mg X.base k f fd ps sp) (hr : Room k X.A) (hgd : X.A.guards = some []) (hg : Gl X x) (hm : X.mg x = some (.ref f)) (hk : PySem.W.keepIn X.K (.ref f) = true) (hb : Binds X.K fd ps [])
    (ha : DA cA X (e :: es) t) (hdb : (x == ("__debug__" : Str)) = false := by decide) (he : starEach (e :: es) X.env = (false, eval e X.env) :: starEach es X.env := by rfl) (hpl : (backTo pos (starEach es X.env)).any (·.1) = false := by rfl) :
    DE cA X (.Call (.Name x p) (e :: es) [] pos) (dCall sp t) := by
  refine ⟨fun pins s σ H Q I h => ?_⟩
  obtain ⟨g, st, env, Qd, rl, en, h, pq⟩ := h
  refine wpAny_Call_Name_kw (ld_glob I hg hm ?_ hdb)
  refine PySem.W.callWith_K (h₀ := X.base) I.ok.mod.kin hk (thn (ha.run pos pins s σ H (fun vs H' => liftSp (gx X cA) sp vs H' Q E0) I ⟨g, st, env, _, rl, en, h, fun ds st1 g1 H1 vs s1 rl1 r1 h1 => ⟨g1, st1, ds, Qd, rl1, r1, h1, pq.step s1⟩⟩) fun us s1 ⟨vs, H1, I1, r, q⟩ => ⟨I1.kIn, ?_⟩) he hpl
  exact run_t F hr hgd hb I1 r q
theorem dt_call0 (F : FnT cA X.prog X.w X.K X.mg X.base k f fd ps sp) (hr : Room k X.A) (hgd : X.A.guards = some []) (hg : Gl X x) (hm : X.mg x = some (.ref f)) (hk : PySem.W.keepIn X.K (.ref f) = true) (hb : Binds X.K fd ps [])
    (hdb : (x == ("__debug__" : Str)) = false := by decide) : DE cA X (.Call (.Name x p) [] [] pos) (dCall sp dNil) := by
  refine ⟨fun pins s σ H Q I ⟨g, st, env, Qd, rl, en, h, pq⟩ => ?_⟩
  refine wpAny_Call_Name_kw (ld_glob I hg hm ?_ hdb)
  exact PySem.W.callWith_K0 I.kIn hk (run_t (us := []) (vs := []) F hr hgd hb I .nil ⟨g, st, [], Qd, rl, .nil, h, pq⟩)
end

/-! ### the end of a law row -/
theorem rel_none {G : Gx} {H : Hp} : Rel G ⟨fun _ => none, fun _ => none⟩ (fun _ => none) H := ⟨fun _ _ h => (by cases h), fun _ _ h => (by cases h), 0, fun _ _ => ⟨rfl, rfl⟩⟩
/-- the law's call, from its promise: True for every list of ints -/
theorem law_end {P : Program} {w : World} {K : PySem.W.Frag} {cA : Nat → Addr} {mg mb : Str → Option Value} {k : Nat} {fa a : Addr} {fd : FuncData} {x : Str} {sp : DSp} {s₁ : Shared} {vs : List Value} {ns : List Int}
    (KX : K.In s₁.heap) (hns : s₁.heap.Ns mainGlobals mg) (hb : s₁.heap.Ns builtinsNs mb) (hbb : ∀ x : Str, x ≠ "__name__" → mb x = bootBuiltins x) (hlim : s₁.heap.NoLimit) (hg : s₁.gens = #[])
    (ha : s₁.heap.get? a = some { cls := .type "list", data := .seq vs.toArray }) (hi : IntsAre vs ns) (hl : ns.length ≤ sizeLine) (hr : Room k callerA)
    (F : ∀ base : Heap, K.In base → base.Ns mainGlobals mg → FnT cA P w K mg base k fa fd [x] sp) (hbind : ∀ (s : Shared) (u : Value), BindsTo s fd ⟨[u], []⟩ [(x, u)])
    (hsp : sp [.scr ns] (fun _ => none) (fun d _ => d = .bl true) fun _ _ _ => False) :
    codeAny (model P w) callerA (.call (.ref fa) ⟨[.ref a], []⟩) (fun r s' => r = .ok (.ret (.bool true)) ∧ OldK s₁.heap s'.heap ∧ s'.os = s₁.os ∧ AllBare s'.gens) s₁ := by
  -- H: an abstract heap that knows of the script at most
  have go : ∀ H : Hp, (∀ b u, H b = some u → b = a ∧ u = .frz { cls := .type "list", data := .seq vs.toArray } (.lst (ns.map V.int)) ∧ K.lookup a = none) → SqL K H a (ns.map V.int) →
      codeAny (model P w) callerA (.call (.ref fa) ⟨[.ref a], []⟩) (fun r s' => r = .ok (.ret (.bool true)) ∧ OldK s₁.heap s'.heap ∧ s'.os = s₁.os ∧ AllBare s'.gens) s₁ := by
    intro H only hS
    have hok : HOk P w H s₁.heap := fun b u e => by
      obtain ⟨rfl, rfl, _⟩ := only b u e
      exact ⟨ha, by simpa using hl, vs, _, vals_of_ints hi, ha⟩
    have seen : ∀ {b : Addr} {o : Obj}, s₁.heap.get? b = some o → (b = a → ∀ n, o.data ≠ .seq vs.toArray n) → (hidT s₁.heap H).get? b = some o := fun {b o} e hne => by
      refine hidT_get e ?_
      cases q : H b with
      | none => rfl
      | some u =>
        obtain ⟨rfl, _, _⟩ := only b u q
        rw [ha] at e
        have e := Option.some.inj e
        subst e
        exact absurd rfl (hne rfl 0)
    have nsB : ∀ {b : Addr} {m : Str → Option Value}, s₁.heap.Ns b m → (hidT s₁.heap H).Ns b m := fun {b m} ⟨o, es, ep, e, d, q⟩ => ⟨o, es, ep, seen e (fun _ n z => by rw [d] at z; cases z), d, q⟩
    have KB : K.In (hidT s₁.heap H) := fun b o e => by
      refine hidT_get (KX b o e) ?_
      cases q : H b with
      | none => rfl
      | some u =>
        obtain ⟨rfl, _, z⟩ := only b u q
        rw [z] at e; cases e
    have e0 : Env0 P w K mg (hidT s₁.heap H) callerA [] s₁ H :=
      ⟨rfl, ⟨KB, nsB hns, ⟨mb, nsB hb, hbb⟩, hlim.elim fun mc h => ⟨mc, nsB h.1, h.2⟩⟩, fun b o e => of_hidT e, Nat.le_of_eq (hidT_size _ _), trivial, fun b hb => (by cases hb), hok, .of_eq hg⟩
    have key := (F _ KB (nsB hns)).run callerA [] s₁ H ⟨[.ref a], []⟩ [.ref a] [.ref a] (fun v _ => v = .bl true) hr rfl e0 (hbind s₁ (.ref a)) (.cons rfl .nil)
      ⟨⟨fun _ => none, fun _ => none⟩, fun _ => none, [.scr ns], _, rel_none, .cons (.scr (hS.elim (fun h => .inl ⟨rfl, h⟩) .inr)) .nil, hsp, fun d st' g' H' v _ _ r q => by
        have q : d = .bl true := q
        subst q
        cases r with
        | bl b => rfl⟩
    refine codeAny_mono key fun r s' h => ?_
    match r, h with
    | .ok (.ret u), h =>
      obtain ⟨v, H', os, bare, un, hok', rv, q⟩ := h
      have q : v = .bl true := q
      subst q
      have eu : u = Value.bool true := rv
      refine ⟨by rw [eu], OldK.of_keep fun b o e => ?_, os, bare⟩
      cases q : H b with
      | none => exact un.keep b o e q (fun z => by cases z) (by simp)
      | some u =>
        obtain ⟨rfl, rfl, _⟩ := only b u q
        have z := hok' b _ (un.frzs b _ _ q)
        rw [ha] at e
        have e := Option.some.inj e
        rw [← e]
        exact z.1
  cases hk : K.lookup a with
  | none =>
    refine go (fun b => if b = a then some (.frz { cls := .type "list", data := .seq vs.toArray } (.lst (ns.map V.int))) else none) (fun b u e => ?_) (.inl (.inr ⟨_, if_pos rfl⟩))
    by_cases hb : b = a
    · exact ⟨hb, by simpa [hb, eq_comm] using e, hk⟩
    · simp [hb] at e
  | some o =>
    have e := KX a o hk
    rw [ha] at e
    have e := Option.some.inj e
    subst e
    exact go (fun _ => none) (fun b u e => by cases e) (.inr ⟨_, vs.toArray, _, hk, rfl, rfl, rfl, by simpa [hi.length] using hl, by simpa using vals_of_ints hi⟩)
/-- the goal that k_head leaves, from the law's promise over trees -/
theorem walk_t {l : PySem.W.OpenLaw} {n k : Nat} {q : Program} {loose : List Str} {XP : (Str → Option Value) → Heap → Prop} {YP : World → Heap → Prop} {d : DefRec} {K : Params → PySem.W.Frag} {sp : DSp} {x : Str}
    (hn : l.most = some n) (hn2 : n ≤ sizeLine) (hdf : d.params.defaults = []) (hr : Room k callerA) (hY : ∀ (w : World) (h : Heap), YP w h → (K w.params).In h)
    (F : ∀ (w : World) (mg : Str → Option Value) (fa : Addr) (h : Heap), (K w.params).In h → h.Ns mainGlobals mg → mg d.name = some (.ref fa) →
      ∃ (fd : FuncData) (cA : Nat → Addr), (∀ (s : Shared) (u : Value), BindsTo s fd ⟨[u], []⟩ [(x, u)]) ∧ ∀ base : Heap, (K w.params).In base → base.Ns mainGlobals mg → FnT cA l.prog w (K w.params) mg base k fa fd [x] sp)
    (hsp : ∀ ns : List Int, ns.length ≤ n → sp [.scr ns] (fun _ => none) (fun d _ => d = .bl true) fun _ _ _ => False) :
    PySem.W.WalkO q loose XP YP l.row.toRowW d [] (fun f vs => PySem.call f vs) := by
  refine Att.attach_call hn hdf fun w s₀ s₁ mg mb fa o pm cd doc a vs ns G Y ho hd hcd hmg hobj hints hlen hg => ?_
  obtain ⟨fd, cA, hb, hF⟩ := F w mg fa _ (hY w _ Y) G.T.g hmg
  exact law_end (cA := cA) (hY w _ Y) G.T.g G.T.b G.T.builtins G.T.nolimit hg hobj hints (Nat.le_trans hlen hn2) hr hF hb (hsp ns hlen)
end TL
namespace TL
open PySem PySem.Spec PyProof.Rows L2
/-- what is seen through a cell -/
def look (st : Sto) : D → D
  | .ref n => match st n with
    | some (.lst ds) => .lst ds
    | some (.dct kd) => .dct kd
    | some (.obj c fd) => .obj c fd
    | _ => .ref n
  | d => d
section
variable {G : Gx} {g : Gh} {st : Sto} {H : Hp} {v : V} {d : D}
theorem see_lst {ds : List D} (rl : Rel G g st H) (r : Rep G g H v d) (h : look st d = .lst ds) : ∃ a vs, v = .ref a ∧ H a = some (.lst vs) ∧ Reps G g H vs ds := by
  cases r with
  | lst w e rs => cases h; exact ⟨_, _, rfl, e, rs⟩
  | @ref a n e =>
    unfold look at h
    cases q : st n with
    | none => simp [q] at h
    | some m =>
      simp only [q] at h
      cases m with
      | lst ds' =>
        cases h
        obtain ⟨a', e1, e2, vs, e3, e4⟩ := rl.cell n _ q
        rw [e] at e1; cases e1
        exact ⟨a, vs, rfl, e3, e4⟩
      | dct _ => cases h
      | obj _ _ => cases h
      | box => cases h
  | _ => cases h
theorem see_tup {ds : List D} (r : Rep G g H v d) (h : look st d = .tup ds) : ∃ a vs, v = .ref a ∧ FT G g H a vs ∧ Reps G g H vs ds := by
  cases r with
  | tup e rs => cases h; exact ⟨_, _, rfl, e, rs⟩
  | @ref a n e =>
    unfold look at h
    cases q : st n with
    | none => simp [q] at h
    | some m => simp only [q] at h; cases m <;> cases h
  | _ => cases h
theorem see_int {i : Int} (r : Rep G g H v d) (h : look st d = .int i) : v = .int i := by
  cases r with
  | int j => cases h; rfl
  | @ref a n e =>
    unfold look at h
    cases q : st n with
    | none => simp [q] at h
    | some m => simp only [q] at h; cases m <;> cases h
  | _ => cases h
theorem see_str {i : Str} (r : Rep G g H v d) (h : look st d = .str i) : v = .str i := by
  cases r with
  | str j => cases h; rfl
  | @ref a n e =>
    unfold look at h
    cases q : st n with
    | none => simp [q] at h
    | some m => simp only [q] at h; cases m <;> cases h
  | _ => cases h
theorem see_bl {i : Bool} (r : Rep G g H v d) (h : look st d = .bl i) : v = .bl i := by
  cases r with
  | bl j => cases h; rfl
  | @ref a n e =>
    unfold look at h
    cases q : st n with
    | none => simp [q] at h
    | some m => simp only [q] at h; cases m <;> cases h
  | _ => cases h
theorem see_dct {kd : List (Key × D)} (rl : Rel G g st H) (r : Rep G g H v d) (h : look st d = .dct kd) : ∃ a kv, v = .ref a ∧ Rd H a (.dK kv) ∧ RepK G g H kv kd := by
  cases r with
  | dct e rs => cases h; exact ⟨_, _, rfl, e.2, rs⟩
  | @ref a n e =>
    unfold look at h
    cases q : st n with
    | none => simp [q] at h
    | some m =>
      simp only [q] at h
      cases m with
      | dct ds' =>
        cases h
        obtain ⟨a', e1, e2, vs, e3, e4⟩ := rl.cell n _ q
        rw [e] at e1; cases e1
        exact ⟨a, vs, rfl, .inl e3, e4⟩
      | lst _ => cases h
      | obj _ _ => cases h
      | box => cases h
  | _ => cases h
theorem see_scr {ns : List Int} (r : Rep G g H v d) (h : look st d = .scr ns) : ∃ a, v = .ref a ∧ FL G g H a (ns.map V.int) := by
  cases r with
  | scr e => cases h; exact ⟨_, rfl, e⟩
  | @ref a n e =>
    unfold look at h
    cases q : st n with
    | none => simp [q] at h
    | some m => simp only [q] at h; cases m <;> cases h
  | _ => cases h
end
section
variable {X : Cx} {cA : Nat → Addr}
/-! ### + - * // % -/
def rdAdd : RD2 := fun x y st Q => match look st x, look st y with
  | .int i, .int j => Q (.int (i + j)) st
  | .str a, .str b => a.length + b.length ≤ sizeLine ∧ Q (.str (a ++ b)) st
  | .lst a, .lst b => a.length + b.length ≤ sizeLine ∧ Q (.lst (a ++ b)) st
  | .tup a, .tup b => a.length + b.length ≤ sizeLine ∧ Q (.tup (a ++ b)) st
  | _, _ => False
theorem im_add : Im2 (gx X cA) (fun x y H Q => rI0 (fun i j => .int (i + j)) x y H Q ∨ (∃ i j, x = .str i ∧ y = .str j ∧ i.length + j.length ≤ sizeLine ∧ Q (.str (i ++ j)) H) ∨ rCat x y H Q ∨ rCatA X.K x y H Q) rdAdd := by
  intro g st H x y dx dy Qd Q rl rx ry h p
  unfold rdAdd at h
  split at h
  · rename_i i j ex ey; exact .inl ⟨i, j, see_int rx ex, see_int ry ey, p.now rl (.int _) h⟩
  · rename_i a b ex ey; exact .inr (.inl ⟨a, b, see_str rx ex, see_str ry ey, h.1, p.now rl (.str _) h.2⟩)
  · rename_i a b ex ey
    obtain ⟨l, vs, rfl, e1, r1⟩ := see_lst rl rx ex
    obtain ⟨m, ws, rfl, e2, r2⟩ := see_lst rl ry ey
    exact .inr (.inr (.inl ⟨l, m, vs, ws, rfl, rfl, e1, e2, by rw [r1.length, r2.length]; exact h.1, lay_lst rl (r1.append r2) p h.2⟩))
  · rename_i a b ex ey
    obtain ⟨l, vs, rfl, e1, r1⟩ := see_tup rx ex
    obtain ⟨m, ws, rfl, e2, r2⟩ := see_tup ry ey
    refine .inr (.inr (.inr ⟨l, m, vs, ws, rfl, rfl, e1.sq, e2.sq, by rw [r1.length, r2.length]; exact h.1, fun e => ?_, fun _ e => ?_, fun _ _ => lay_tup rl (r1.append r2) p h.2⟩))
    · subst e; cases r1
      exact p.now rl (.tup e2 r2) h.2
    · subst e; cases r2
      rw [List.append_nil] at h
      exact p.now rl (.tup e1 r1) h.2
  · exact h.elim
theorem de_add {a b : Expr} {pos : Pos} {ta tb : TDE} (ha : DE cA X a ta) (hb : DE cA X b tb) : DE cA X (.BinOp a .Add b pos) (dOp rdAdd ta tb) := de_op (op_add.or (op_add_str.or (op_cat.or op_catA))) im_add ha hb
def rdI (C : Int → Int → Prop) (f : Int → Int → D) : RD2 := fun x y st Q => match x, y with
  | .int i, .int j => C i j ∧ Q (f i j) st
  | _, _ => False
theorem im_I {C : Int → Int → Prop} {f : Int → Int → Int} : Im2 (gx X cA) (rI C fun i j => .int (f i j)) (rdI C fun i j => .int (f i j)) := by
  intro g st H x y dx dy Qd Q rl rx ry h p
  cases rx with
  | int i => cases ry with
    | int j => exact ⟨i, j, rfl, rfl, h.1, p.now rl (.int _) h.2⟩
    | _ => exact h.elim
  | _ => cases ry <;> exact h.elim
theorem im_I0 {f : Int → Int → Int} : Im2 (gx X cA) (rI0 fun i j => .int (f i j)) (rdI (fun _ _ => True) fun i j => .int (f i j)) := by
  intro g st H x y dx dy Qd Q rl rx ry h p
  cases rx with
  | int i => cases ry with
    | int j => exact ⟨i, j, rfl, rfl, p.now rl (.int _) h.2⟩
    | _ => exact h.elim
  | _ => cases ry <;> exact h.elim
theorem im_B0 {f : Int → Int → Bool} : Im2 (gx X cA) (rI0 fun i j => .bl (f i j)) (rdI (fun _ _ => True) fun i j => .bl (f i j)) := by
  intro g st H x y dx dy Qd Q rl rx ry h p
  cases rx with
  | int i => cases ry with
    | int j => exact ⟨i, j, rfl, rfl, p.now rl (.bl _) h.2⟩
    | _ => exact h.elim
  | _ => cases ry <;> exact h.elim
theorem de_sub {a b : Expr} {pos : Pos} {ta tb : TDE} (ha : DE cA X a ta) (hb : DE cA X b tb) : DE cA X (.BinOp a .Sub b pos) (dOp (rdI (fun _ _ => True) fun i j => .int (i - j)) ta tb) := de_op op_sub im_I0 ha hb
theorem de_fdiv {a b : Expr} {pos : Pos} {ta tb : TDE} (ha : DE cA X a ta) (hb : DE cA X b tb) : DE cA X (.BinOp a .FloorDiv b pos) (dOp (rdI CDiv fun i j => .int (i / j)) ta tb) := de_op op_fdiv im_I ha hb
theorem de_mod {a b : Expr} {pos : Pos} {ta tb : TDE} (ha : DE cA X a ta) (hb : DE cA X b tb) : DE cA X (.BinOp a .Mod b pos) (dOp (rdI (fun _ j => 0 < j) fun i j => .int (i % j)) ta tb) := de_op op_mod im_I ha hb
def rdMul : RD2 := fun x y st Q => match look st x, look st y with
  | .int i, .int j => CMul i j ∧ Q (.int (i * j)) st
  | .lst a, .int k => (-(2 ^ 63) ≤ k ∧ k < 2 ^ 63 ∧ a.length * k.toNat ≤ sizeLine) ∧ Q (.lst (List.replicate k.toNat a).flatten) st
  | _, _ => False
theorem Reps.rep {G : Gx} {g : Gh} {H : Hp} {vs : List V} {ds : List D} (r : Reps G g H vs ds) : ∀ k : Nat, Reps G g H (List.replicate k vs).flatten (List.replicate k ds).flatten
  | 0 => .nil
  | k + 1 => by simp only [List.replicate_succ, List.flatten_cons]; exact r.append (Reps.rep r k)
theorem im_mul : Im2 (gx X cA) (fun x y H Q => rI CMul (fun i j => .int (i * j)) x y H Q ∨ rRep x y H Q) rdMul := by
  intro g st H x y dx dy Qd Q rl rx ry h p
  unfold rdMul at h
  split at h
  · rename_i i j ex ey; exact .inl ⟨i, j, see_int rx ex, see_int ry ey, h.1, p.now rl (.int _) h.2⟩
  · rename_i a k ex ey
    obtain ⟨l, vs, rfl, e1, r1⟩ := see_lst rl rx ex
    exact .inr ⟨l, k, vs, rfl, see_int ry ey, e1, h.1.1, h.1.2.1, by rw [r1.length]; exact h.1.2.2, lay_lst rl (r1.rep _) p h.2⟩
  · exact h.elim
theorem de_mul {a b : Expr} {pos : Pos} {ta tb : TDE} (ha : DE cA X a ta) (hb : DE cA X b tb) : DE cA X (.BinOp a .Mult b pos) (dOp rdMul ta tb) := de_op (op_mul.or op_rep) im_mul ha hb
def rdNeg : RD1 := fun x st Q => match x with
  | .int i => Q (.int (-i)) st
  | _ => False
theorem de_neg {a : Expr} {pos : Pos} {ta : TDE} (ha : DE cA X a ta) : DE cA X (.UnaryOp .USub a pos) (dUn rdNeg ta) :=
  pe_weak (pe_un un_neg ha) (lift1 fun g st H x dx Qd Q rl rx h p => by
    cases rx with
    | int i => exact ⟨i, rfl, p.now rl (.int _) h⟩
    | _ => exact h.elim)

/-! ### comparisons -/
theorem de_lt {a b : Expr} {pos : Pos} {ta tb : TDE} (ha : DE cA X a ta) (hb : DE cA X b tb) : DE cA X (.Compare a [.Lt] [b] pos) (dOp (rdI (fun _ _ => True) fun i j => .bl (decide (i < j))) ta tb) := de_cmp op_lt im_B0 ha hb (nomark _)
theorem de_le {a b : Expr} {pos : Pos} {ta tb : TDE} (ha : DE cA X a ta) (hb : DE cA X b tb) : DE cA X (.Compare a [.LtE] [b] pos) (dOp (rdI (fun _ _ => True) fun i j => .bl (decide (i ≤ j))) ta tb) := de_cmp op_le im_B0 ha hb (nomark _)
theorem de_gt {a b : Expr} {pos : Pos} {ta tb : TDE} (ha : DE cA X a ta) (hb : DE cA X b tb) : DE cA X (.Compare a [.Gt] [b] pos) (dOp (rdI (fun _ _ => True) fun i j => .bl (decide (j < i))) ta tb) := de_cmp op_gt im_B0 ha hb (nomark _)
theorem de_ge {a b : Expr} {pos : Pos} {ta tb : TDE} (ha : DE cA X a ta) (hb : DE cA X b tb) : DE cA X (.Compare a [.GtE] [b] pos) (dOp (rdI (fun _ _ => True) fun i j => .bl (decide (j ≤ i))) ta tb) := de_cmp op_ge im_B0 ha hb (nomark _)
theorem dt_lt {a b : Expr} {pos : Pos} {ta tb : TDE} (ha : DE cA X a ta) (hb : DE cA X b tb) : DT cA X (.Compare a [.Lt] [b] pos) (dTst (dOp (rdI (fun _ _ => True) fun i j => .bl (decide (i < j))) ta tb)) := dt_cmp op_lt im_B0 ha hb (nomark _)
theorem dt_le {a b : Expr} {pos : Pos} {ta tb : TDE} (ha : DE cA X a ta) (hb : DE cA X b tb) : DT cA X (.Compare a [.LtE] [b] pos) (dTst (dOp (rdI (fun _ _ => True) fun i j => .bl (decide (i ≤ j))) ta tb)) := dt_cmp op_le im_B0 ha hb (nomark _)
theorem dt_gt {a b : Expr} {pos : Pos} {ta tb : TDE} (ha : DE cA X a ta) (hb : DE cA X b tb) : DT cA X (.Compare a [.Gt] [b] pos) (dTst (dOp (rdI (fun _ _ => True) fun i j => .bl (decide (j < i))) ta tb)) := dt_cmp op_gt im_B0 ha hb (nomark _)
theorem dt_ge {a b : Expr} {pos : Pos} {ta tb : TDE} (ha : DE cA X a ta) (hb : DE cA X b tb) : DT cA X (.Compare a [.GtE] [b] pos) (dTst (dOp (rdI (fun _ _ => True) fun i j => .bl (decide (j ≤ i))) ta tb)) := dt_cmp op_ge im_B0 ha hb (nomark _)
/-- is None -/
def rdIsN (neg : Bool) : RD2 := fun x y st Q => match x, y with
  | .non, .non => Q (.bl (!neg)) st
  | _, .non => Q (.bl neg) st
  | _, _ => False
theorem rep_non {G : Gx} {g : Gh} {H : Hp} {v : V} {d : D} (r : Rep G g H v d) : decide (v = .non) = (match d with | .non => true | _ => false) := by
  cases r <;> simp
theorem im_isN : Im2 (gx X cA) (fun x y H Q => y = .non ∧ Q (.bl (decide (x = .non))) H) (rdIsN false) := by
  intro g st H x y dx dy Qd Q rl rx ry h p
  cases ry with
  | non =>
    refine ⟨rfl, ?_⟩
    rw [rep_non rx]
    cases rx <;> exact p.now rl (.bl _) h
  | _ => cases rx <;> exact h.elim
theorem im_notN : Im2 (gx X cA) (fun x y H Q => y = .non ∧ Q (.bl (!decide (x = .non))) H) (rdIsN true) := by
  intro g st H x y dx dy Qd Q rl rx ry h p
  cases ry with
  | non =>
    refine ⟨rfl, ?_⟩
    rw [rep_non rx]
    cases rx <;> exact p.now rl (.bl _) h
  | _ => cases rx <;> exact h.elim
theorem de_isN {a b : Expr} {pos : Pos} {ta tb : TDE} (ha : DE cA X a ta) (hb : DE cA X b tb) : DE cA X (.Compare a [.Is] [b] pos) (dOp (rdIsN false) ta tb) := de_cmp op_isN im_isN ha hb (nomark _)
theorem dt_isN {a b : Expr} {pos : Pos} {ta tb : TDE} (ha : DE cA X a ta) (hb : DE cA X b tb) : DT cA X (.Compare a [.Is] [b] pos) (dTst (dOp (rdIsN false) ta tb)) := dt_cmp op_isN im_isN ha hb (nomark _)
theorem de_notN {a b : Expr} {pos : Pos} {ta tb : TDE} (ha : DE cA X a ta) (hb : DE cA X b tb) : DE cA X (.Compare a [.IsNot] [b] pos) (dOp (rdIsN true) ta tb) := de_cmp op_notN im_notN ha hb (nomark _)
theorem dt_notN {a b : Expr} {pos : Pos} {ta tb : TDE} (ha : DE cA X a ta) (hb : DE cA X b tb) : DT cA X (.Compare a [.IsNot] [b] pos) (dTst (dOp (rdIsN true) ta tb)) := dt_cmp op_notN im_notN ha hb (nomark _)

/-! ### data: trees without objects and cells -/
mutual
def D.py : D → Option PyData
  | .non => some .none
  | .bl b => some (.bool b)
  | .int i => some (.int i)
  | .str x => some (.str x)
  | .tup ds => (D.pys ds).map .tuple
  | .lst ds => (D.pys ds).map .list
  | .dct _ => none
  | .obj _ _ => none
  | .ref _ => none
  | .scr _ => none
def D.pys : List D → Option (List PyData)
  | [] => some []
  | d :: ds => match D.py d, D.pys ds with
    | some p, some ps => some (p :: ps)
    | _, _ => none
end
section
variable {G : Gx} {g : Gh} {H : Hp}
mutual
theorem rep_dp : ∀ {v : V} {d : D}, Rep G g H v d → ∀ {p : PyData}, d.py = some p → Dp G.K H v p
  | _, _, .non, p, h => by simp only [D.py] at h; cases h; exact .non
  | _, _, .bl b, p, h => by simp only [D.py] at h; cases h; exact .bl b
  | _, _, .int i, p, h => by simp only [D.py] at h; cases h; exact .int i
  | _, _, .str x, p, h => by simp only [D.py] at h; cases h; exact .str x
  | _, _, .tup e r, p, h => by
    simp only [D.py] at h
    obtain ⟨ps, h1, h2⟩ := Option.map_eq_some_iff.mp h
    cases h2
    exact .tup e.sq (reps_dp r h1)
  | _, _, .lst w e r, p, h => by
    simp only [D.py] at h
    obtain ⟨ps, h1, h2⟩ := Option.map_eq_some_iff.mp h
    cases h2
    exact .lst (.of e) (reps_dp r h1)
  | _, _, .dct _ _, p, h => by simp [D.py] at h
  | _, _, .obj _ _ _, p, h => by simp [D.py] at h
  | _, _, .ref _, p, h => by simp [D.py] at h
  | _, _, .scr _, p, h => by simp [D.py] at h
theorem reps_dp : ∀ {vs : List V} {ds : List D}, Reps G g H vs ds → ∀ {ps : List PyData}, D.pys ds = some ps → DpAll G.K H vs ps
  | _, _, .nil, ps, h => by simp only [D.pys] at h; cases h; exact .nil
  | _, _, .cons (d := d) (ds := ds) r t, ps, h => by
    simp only [D.pys] at h
    cases h1 : d.py with
    | none => simp [h1] at h
    | some q => cases h2 : D.pys ds with
      | none => simp [h1, h2] at h
      | some qs =>
        simp only [h1, h2] at h
        cases h
        exact .cons (rep_dp r h1) (reps_dp t h2)
end
/-- through a cell -/
def pyv (st : Sto) (d : D) : Option PyData := (look st d).py
theorem see_py {st : Sto} {v : V} {d : D} {p : PyData} (rl : Rel G g st H) (r : Rep G g H v d) (h : pyv st d = some p) : Dp G.K H v p := by
  unfold pyv at h
  cases e : look st d with
  | lst ds =>
    obtain ⟨a, vs, rfl, e1, rs⟩ := see_lst rl r e
    rw [e] at h
    simp only [D.py] at h
    obtain ⟨ps, h1, h2⟩ := Option.map_eq_some_iff.mp h
    cases h2
    exact .lst (.of e1) (reps_dp rs h1)
  | tup ds =>
    obtain ⟨a, vs, rfl, e1, rs⟩ := see_tup r e
    rw [e] at h
    simp only [D.py] at h
    obtain ⟨ps, h1, h2⟩ := Option.map_eq_some_iff.mp h
    cases h2
    exact .tup e1.sq (reps_dp rs h1)
  | int i => rw [e] at h; simp only [D.py] at h; cases h; rw [see_int r e]; exact .int i
  | str i => rw [e] at h; simp only [D.py] at h; cases h; rw [see_str r e]; exact .str i
  | bl i => rw [e] at h; simp only [D.py] at h; cases h; rw [see_bl r e]; exact .bl i
  | non =>
    rw [e] at h; simp only [D.py] at h; cases h
    cases r with
    | non => exact .non
    | @ref a n q =>
      unfold look at e
      cases q : st n with
      | none => simp [q] at e
      | some m => simp only [q] at e; cases m <;> cases e
    | _ => cases e
  | dct _ => rw [e] at h; simp [D.py] at h
  | obj _ _ => rw [e] at h; simp [D.py] at h
  | ref _ => rw [e] at h; simp [D.py] at h
  | scr _ => rw [e] at h; simp [D.py] at h
end
/-- == over data -/
def rdEq (neg : Bool) : RD2 := fun x y st Q => match x, y with
  | .int i, .int j => Q (.bl (decide (i = j) != neg)) st
  | .str a, .str b => Q (.bl (decide (a = b) != neg)) st
  | x, y => ∃ p q, pyv st x = some p ∧ pyv st y = some q ∧ SeqAt.shaped p = true ∧ SeqAt.shaped q = true ∧ Q (.bl (PyData.eqv p q != neg)) st
theorem im_eq : Im2 (gx X cA) (fun x y H Q => rEq x y H Q ∨ rEqD X.K x y H Q) (rdEq false) := by
  intro g st H x y dx dy Qd Q rl rx ry h p
  unfold rdEq at h
  split at h
  · cases rx; cases ry
    refine .inl ⟨rfl, ?_⟩
    have := p.now rl (.bl _) h
    simpa using this
  · cases rx; cases ry
    refine .inl ⟨rfl, ?_⟩
    have := p.now rl (.bl _) h
    simpa using this
  · obtain ⟨a, b, h1, h2, h3, h4, h5⟩ := h
    refine .inr ⟨a, b, see_py rl rx h1, see_py rl ry h2, h3, h4, ?_⟩
    have := p.now rl (.bl _) h5
    simpa using this
theorem im_ne : Im2 (gx X cA) (fun x y H Q => rNe x y H Q ∨ rNeD X.K x y H Q) (rdEq true) := by
  intro g st H x y dx dy Qd Q rl rx ry h p
  unfold rdEq at h
  split at h
  · cases rx; cases ry
    refine .inl ⟨rfl, ?_⟩
    have := p.now rl (.bl _) h
    simpa using this
  · cases rx; cases ry
    refine .inl ⟨rfl, ?_⟩
    have := p.now rl (.bl _) h
    simpa using this
  · obtain ⟨a, b, h1, h2, h3, h4, h5⟩ := h
    refine .inr ⟨a, b, see_py rl rx h1, see_py rl ry h2, h3, h4, ?_⟩
    have := p.now rl (.bl _) h5
    simpa using this
theorem de_eq {a b : Expr} {pos : Pos} {ta tb : TDE} (hu : X.A.units + 64 < cLine) (ha : DE cA X a ta) (hb : DE cA X b tb) : DE cA X (.Compare a [.Eq] [b] pos) (dOp (rdEq false) ta tb) := de_cmp (op_eq.or (op_eqD hu)) im_eq ha hb (nomark _)
theorem dt_eq {a b : Expr} {pos : Pos} {ta tb : TDE} (hu : X.A.units + 64 < cLine) (ha : DE cA X a ta) (hb : DE cA X b tb) : DT cA X (.Compare a [.Eq] [b] pos) (dTst (dOp (rdEq false) ta tb)) := dt_cmp (op_eq.or (op_eqD hu)) im_eq ha hb (nomark _)
theorem de_ne {a b : Expr} {pos : Pos} {ta tb : TDE} (hu : X.A.units + 64 < cLine) (ha : DE cA X a ta) (hb : DE cA X b tb) : DE cA X (.Compare a [.NotEq] [b] pos) (dOp (rdEq true) ta tb) := de_cmp (op_ne.or (op_neD hu)) im_ne ha hb (nomark _)
theorem dt_ne {a b : Expr} {pos : Pos} {ta tb : TDE} (hu : X.A.units + 64 < cLine) (ha : DE cA X a ta) (hb : DE cA X b tb) : DT cA X (.Compare a [.NotEq] [b] pos) (dTst (dOp (rdEq true) ta tb)) := dt_cmp (op_ne.or (op_neD hu)) im_ne ha hb (nomark _)
/-- in, not in: one sign in a text; data in a list, in a tuple -/
def rInT (K : PySem.W.Frag) (neg : Bool) : R2 := fun x y H Q => ∃ d ds, Dp K H x d ∧ Dp K H y (.tuple ds) ∧ SeqAt.shaped d = true ∧ SeqAt.shaped (.tuple ds) = true ∧ Q (.bl ((ds.any fun z => PyData.eqv z d) != neg)) H
theorem op_inT (hu : X.A.units + 65 < cLine) : OpR X (compareOp .In) (rInT X.K false) := by
  intro pins s σ H x y v u Q I rx ry h
  obtain ⟨d, ds, hd, he, sd, se, q⟩ := h
  obtain ⟨as, r1⟩ := Dp.reads I d x v hd rx
  obtain ⟨bs, r2⟩ := Dp.reads I (.tuple ds) y u he ry
  exact SeqAt.in_tuple_reads r2 r1 (SeqAt.canLay_of_shaped se) (SeqAt.canLay_of_shaped sd) (room_in_shaped sd hu) ⟨.bl _, H, I, rfl, by simpa using q⟩
theorem op_notInT (hu : X.A.units + 65 < cLine) : OpR X (compareOp .NotIn) (rInT X.K true) := by
  intro pins s σ H x y v u Q I rx ry h
  obtain ⟨d, ds, hd, he, sd, se, q⟩ := h
  obtain ⟨as, r1⟩ := Dp.reads I d x v hd rx
  obtain ⟨bs, r2⟩ := Dp.reads I (.tuple ds) y u he ry
  exact SeqAt.notIn_tuple_reads r2 r1 (SeqAt.canLay_of_shaped se) (SeqAt.canLay_of_shaped sd) (room_in_shaped sd hu) ⟨.bl _, H, I, rfl, by simpa using q⟩
def rdIn (neg : Bool) : RD2 := fun x y st Q => match x, y with
  | .str a, .str z => ∃ c, a = ⟨#[c]⟩ ∧ Q (.bl (decide (c ∈ z.cps.toList) != neg)) st
  | x, y => ∃ p q, pyv st x = some p ∧ pyv st y = some q ∧ SeqAt.shaped p = true ∧ SeqAt.shaped q = true ∧ ((∃ ds, q = .list ds ∧ Q (.bl ((ds.any fun z => PyData.eqv z p) != neg)) st) ∨ ∃ ds, q = .tuple ds ∧ Q (.bl ((ds.any fun z => PyData.eqv z p) != neg)) st)
theorem im_in : Im2 (gx X cA) (fun x y H Q => (∃ (c : Nat) (z : Str), x = .str ⟨#[c]⟩ ∧ y = .str z ∧ Q (.bl (decide (c ∈ z.cps.toList))) H) ∨ rInD X.K x y H Q ∨ rInT X.K false x y H Q) (rdIn false) := by
  intro g st H x y dx dy Qd Q rl rx ry h p
  unfold rdIn at h
  split at h
  · cases rx; cases ry
    obtain ⟨c, rfl, h⟩ := h
    refine .inl ⟨c, _, rfl, rfl, ?_⟩
    have := p.now rl (.bl _) h
    simpa using this
  · obtain ⟨a, b, h1, h2, h3, h4, h5⟩ := h
    rcases h5 with ⟨ds, rfl, h5⟩ | ⟨ds, rfl, h5⟩
    · refine .inr (.inl ⟨a, ds, see_py rl rx h1, see_py rl ry h2, h3, h4, ?_⟩)
      have := p.now rl (.bl _) h5
      simpa using this
    · exact .inr (.inr ⟨a, ds, see_py rl rx h1, see_py rl ry h2, h3, h4, p.now rl (.bl _) h5⟩)
theorem im_notIn : Im2 (gx X cA) (fun x y H Q => (∃ (c : Nat) (z : Str), x = .str ⟨#[c]⟩ ∧ y = .str z ∧ Q (.bl (!decide (c ∈ z.cps.toList))) H) ∨ rNotInD X.K x y H Q ∨ rInT X.K true x y H Q) (rdIn true) := by
  intro g st H x y dx dy Qd Q rl rx ry h p
  unfold rdIn at h
  split at h
  · cases rx; cases ry
    obtain ⟨c, rfl, h⟩ := h
    refine .inl ⟨c, _, rfl, rfl, ?_⟩
    have := p.now rl (.bl _) h
    simpa using this
  · obtain ⟨a, b, h1, h2, h3, h4, h5⟩ := h
    rcases h5 with ⟨ds, rfl, h5⟩ | ⟨ds, rfl, h5⟩
    · refine .inr (.inl ⟨a, ds, see_py rl rx h1, see_py rl ry h2, h3, h4, ?_⟩)
      have := p.now rl (.bl _) h5
      simpa using this
    · exact .inr (.inr ⟨a, ds, see_py rl rx h1, see_py rl ry h2, h3, h4, p.now rl (.bl _) h5⟩)
theorem de_in {a b : Expr} {pos : Pos} {ta tb : TDE} (hu : X.A.units + 65 < cLine) (ha : DE cA X a ta) (hb : DE cA X b tb) (hm : behindInMarks .In b = false := by rfl) : DE cA X (.Compare a [.In] [b] pos) (dOp (rdIn false) ta tb) := de_cmp (op_in_sign.or ((op_inD hu).or (op_inT hu))) im_in ha hb hm
theorem dt_in {a b : Expr} {pos : Pos} {ta tb : TDE} (hu : X.A.units + 65 < cLine) (ha : DE cA X a ta) (hb : DE cA X b tb) (hm : behindInMarks .In b = false := by rfl) : DT cA X (.Compare a [.In] [b] pos) (dTst (dOp (rdIn false) ta tb)) := dt_cmp (op_in_sign.or ((op_inD hu).or (op_inT hu))) im_in ha hb hm
theorem de_notIn {a b : Expr} {pos : Pos} {ta tb : TDE} (hu : X.A.units + 65 < cLine) (ha : DE cA X a ta) (hb : DE cA X b tb) (hm : behindInMarks .NotIn b = false := by rfl) : DE cA X (.Compare a [.NotIn] [b] pos) (dOp (rdIn true) ta tb) := de_cmp (op_notIn_sign.or ((op_notInD hu).or (op_notInT hu))) im_notIn ha hb hm
theorem dt_notIn {a b : Expr} {pos : Pos} {ta tb : TDE} (hu : X.A.units + 65 < cLine) (ha : DE cA X a ta) (hb : DE cA X b tb) (hm : behindInMarks .NotIn b = false := by rfl) : DT cA X (.Compare a [.NotIn] [b] pos) (dTst (dOp (rdIn true) ta tb)) := dt_cmp (op_notIn_sign.or ((op_notInD hu).or (op_notInT hu))) im_notIn ha hb hm
end
end TL
namespace TL
open PySem PySem.Spec PyProof.Rows L2
/-! ### dicts over trees -/
def getK (kd : List (Key × D)) (k : Key) : Option D := (kd.find? fun p => decide (p.1 = k)).map (·.2)
def setK (kd : List (Key × D)) (k : Key) (d : D) : List (Key × D) :=
  if (kd.any fun p => decide (p.1 = k)) = true then kd.map (fun p => if p.1 = k then (p.1, d) else p) else kd ++ [(k, d)]
def keyOf : D → Option Key
  | .int i => some (.inl i)
  | .str x => some (.inr x)
  | _ => none
section
variable {G : Gx} {g : Gh} {H : Hp}
theorem repK_get : ∀ {kv : List (Key × V)} {kd : List (Key × D)}, RepK G g H kv kd → ∀ (k : Key), (∀ d, getK kd k = some d → ∃ v, valV kv k = some v ∧ Rep G g H v d) ∧ (getK kd k = none → valV kv k = none)
  | _, _, .nil, k => ⟨fun d h => by simp [getK] at h, fun _ => rfl⟩
  | _, _, .cons (k := k') (d := d') r t, k => by
    by_cases e : k' = k
    · refine ⟨fun d h => ?_, fun h => ?_⟩
      · simp [getK, List.find?_cons, e] at h
        subst h
        exact ⟨_, valV_pos e, r⟩
      · simp [getK, List.find?_cons, e] at h
    · obtain ⟨h1, h2⟩ := repK_get t k
      refine ⟨fun d h => ?_, fun h => ?_⟩
      · rw [valV_neg (by exact e)]
        exact h1 d (by simpa [getK, List.find?_cons, e] using h)
      · rw [valV_neg (by exact e)]
        exact h2 (by simpa [getK, List.find?_cons, e] using h)
theorem repK_any : ∀ {kv : List (Key × V)} {kd : List (Key × D)}, RepK G g H kv kd → ∀ (k : Key), (kv.any fun p => decide (p.1 = k)) = kd.any fun p => decide (p.1 = k)
  | _, _, .nil, _ => rfl
  | _, _, .cons r t, k => by simp [repK_any t k]
theorem repK_map {v : V} {d : D} {k : Key} (rv : Rep G g H v d) : ∀ {kv : List (Key × V)} {kd : List (Key × D)}, RepK G g H kv kd → RepK G g H (kv.map fun p => if p.1 = k then (p.1, v) else p) (kd.map fun p => if p.1 = k then (p.1, d) else p)
  | _, _, .nil => .nil
  | _, _, .cons (k := k') r t => by
    by_cases e : k' = k
    · simp only [List.map_cons, e, if_true]; exact .cons rv (repK_map rv t)
    · simp only [List.map_cons, e, if_false]; exact .cons r (repK_map rv t)
theorem repK_app : ∀ {kv kv' : List (Key × V)} {kd kd' : List (Key × D)}, RepK G g H kv kd → RepK G g H kv' kd' → RepK G g H (kv ++ kv') (kd ++ kd')
  | _, _, _, _, .nil, s => s
  | _, _, _, _, .cons r t, s => .cons r (repK_app t s)
theorem repK_put {kv : List (Key × V)} {kd : List (Key × D)} (t : RepK G g H kv kd) (k : Key) {v : V} {d : D} (r : Rep G g H v d) : RepK G g H (putK kv k v) (setK kd k d) := by
  unfold putK setK
  rw [repK_any t k]
  by_cases e : (kd.any fun p => decide (p.1 = k)) = true
  · rw [if_pos e, if_pos e]; exact repK_map r t
  · rw [if_neg e, if_neg e]; exact repK_app t (.cons r .nil)
theorem RepK.length : ∀ {kv : List (Key × V)} {kd : List (Key × D)}, RepK G g H kv kd → kv.length = kd.length
  | _, _, .nil => rfl
  | _, _, .cons _ t => by simp [RepK.length t]
theorem key_rep {v : V} {d : D} {k : Key} (r : Rep G g H v d) (h : keyOf d = some k) : v = kV k := by
  cases r with
  | int i => cases h; rfl
  | str i => cases h; rfl
  | _ => cases h
end
section
variable {X : Cx} {cA : Nat → Addr}
/-! ### a[i] -/
def rIxD : R2 := fun x y H Q => ∃ a v, x = .ref a ∧ DGet H a y (some v) ∧ Q v H
theorem ix_dict (hu : X.A.units + 1 < cLine) : IxR X rIxD := by
  intro value slice pins s σ H x y v u Q I rx ry h hs
  obtain ⟨a, w, rfl, hd, q⟩ := h
  cases rx
  exact tail_any (dict_typeIs I hd) PySem.F.slot_dict_getitem.lookup (d_getItem hu I hd ry fun w' s3 I3 rw' => ⟨w, H, I3, rw', q⟩) hs
def rdIx : RD2 := fun x y st Q => match look st x, y with
  | .lst ds, .int i => ∃ d, atI ds i = some d ∧ Q d st
  | .tup ds, .int i => ∃ d, atI ds i = some d ∧ Q d st
  | .str z, .int i => z.length ≤ sizeLine ∧ ∃ c, atI z.cps.toList i = some c ∧ Q (.str ⟨#[c]⟩) st
  | .dct kd, k => ∃ key d, keyOf k = some key ∧ getK kd key = some d ∧ Q d st
  | _, _ => False
theorem Reps.atI {G : Gx} {g : Gh} {H : Hp} {vs : List V} {ds : List D} {i : Int} {d : D} (r : Reps G g H vs ds) (h : L2.atI ds i = some d) : ∃ v, L2.atI vs i = some v ∧ Rep G g H v d := by
  unfold L2.atI at h ⊢
  rw [r.length]
  cases e : ixN ds.length i with
  | none => rw [e] at h; cases h
  | some j =>
    rw [e] at h
    exact r.get h
theorem im_ix : Im2 (gx X cA) (fun x y H Q => rIx X.K x y H Q ∨ rIxD x y H Q) rdIx := by
  intro g st H x y dx dy Qd Q rl rx ry h p
  unfold rdIx at h
  split at h
  · rename_i ds i ex
    obtain ⟨a, vs, rfl, e1, rs⟩ := see_lst rl rx ex
    cases ry
    obtain ⟨d, h1, h2⟩ := h
    obtain ⟨v, h3, rv⟩ := rs.atI h1
    exact .inl (.inl ⟨a, vs, i, v, rfl, rfl, .of e1, h3, p.now rl rv h2⟩)
  · rename_i ds i ex
    obtain ⟨a, vs, rfl, e1, rs⟩ := see_tup rx ex
    cases ry
    obtain ⟨d, h1, h2⟩ := h
    obtain ⟨v, h3, rv⟩ := rs.atI h1
    exact .inl (.inr (.inl ⟨a, vs, i, v, rfl, rfl, e1.sq, h3, p.now rl rv h2⟩))
  · rename_i z i ex
    cases see_str rx ex
    cases ry
    obtain ⟨hz, c, h1, h2⟩ := h
    exact .inl (.inr (.inr ⟨z, i, c, rfl, rfl, hz, h1, p.now rl (.str _) h2⟩))
  · rename_i kd ex
    obtain ⟨a, kv, rfl, e1, rs⟩ := see_dct rl rx ex
    obtain ⟨key, d, h1, h2, h3⟩ := h
    obtain ⟨v, h4, rv⟩ := (repK_get rs key).1 d h2
    cases key_rep ry h1
    exact .inr ⟨a, v, rfl, .inl ⟨kv, key, e1, rfl, h4.symm⟩, p.now rl rv h3⟩
  · exact h.elim
theorem de_ix {a b : Expr} {pos : Pos} {ta tb : TDE} (hu : X.A.units + 1 < cLine) (ha : DE cA X a ta) (hb : DE cA X b tb) (hs : PlainIx b := by exact fun _ _ => rfl) : DE cA X (.Subscript a b pos) (dOp rdIx ta tb) :=
  pe_weak (pe_ix (ix_seq.or (ix_dict hu)) ha hb hs) (lift2 im_ix)

/-! ### slices -/
abbrev TDO := DSt → Sto → (Option Int → Sto → Prop) → Prop
def liftO (G : Gx) (t : TDO) : TO := fun σ H Q => ∃ g st env Qd, Rel G g st H ∧ EnvR G g H σ env ∧ t env st Qd ∧ ∀ o st' g' H', Step g st H g' st' H' → Rel G g' st' H' → Qd o st' → Q o H'
def DO (cA : Nat → Addr) (X : Cx) (e : Option Expr) (t : TDO) : Prop := PO X e (liftO (gx X cA) t)
def dNoPart : TDO := fun _ st Q => Q none st
def dPart (t : TDE) : TDO := fun env st Q => t env st fun d st1 => match d with
  | .int i => Q (some i) st1
  | _ => False
theorem do_none : DO cA X none dNoPart := ⟨fun pins s σ H Q I ⟨g, st, env, Qd, rl, en, h, p⟩ => po_none.run pins s σ H Q I (p _ _ _ _ (Step.refl g st H) rl h)⟩
theorem do_some {e : Expr} {t : TDE} (h : DE cA X e t) : DO cA X (some e) (dPart t) := ⟨fun pins s σ H Q I ⟨g, st, env, Qd, rl, en, hh, p⟩ => (po_some h).run pins s σ H Q I ⟨g, st, env, _, rl, en, hh, fun d st1 g1 H1 v s1 rl1 r1 h1 => by
  cases r1 with
  | int i => exact ⟨i, rfl, p _ _ _ _ s1 rl1 h1⟩
  | _ => exact h1.elim⟩⟩
def cutD {α : Type} (xs : List α) (lo hi : Option Int) : List α := (xs.drop (HT.sIx xs.length 0 lo)).take (HT.sIx xs.length xs.length hi - HT.sIx xs.length 0 lo)
def rdSl (x : D) (lo hi : Option Int) (st : Sto) (Q : QD) : Prop := match look st x with
  | .lst ds => Q (.lst (cutD ds lo hi)) st
  | .scr ns => Q (.lst (cutD (ns.map D.int) lo hi)) st
  | .tup ds => Q (.tup (cutD ds lo hi)) st
  | .str z => z.length ≤ sizeLine ∧ Q (.str (cutS z lo hi)) st
  | _ => False
def dSl (te : TDE) (tl th : TDO) : TDE := fun env st Q => te env st fun x st1 => tl env st1 fun lo st2 => th env st2 fun hi st3 => rdSl x lo hi st3 Q
theorem Reps.cut {G : Gx} {g : Gh} {H : Hp} {vs : List V} {ds : List D} (r : Reps G g H vs ds) (lo hi : Option Int) : Reps G g H (cutV vs lo hi) (cutD ds lo hi) := by
  unfold cutV cutD
  rw [r.length]
  exact (r.drop _).take _
theorem cutD_whole {α : Type} {xs : List α} {lo hi : Option Int} (h : HT.sIx xs.length 0 lo = 0 ∧ HT.sIx xs.length xs.length hi = xs.length) : cutD xs lo hi = xs := by
  unfold cutD
  rw [h.1, h.2]
  simp
theorem de_slice {e : Expr} {lo hi : Option Expr} {pos p2 : Pos} {te : TDE} {tl th : TDO} (he : DE cA X e te) (hl : DO cA X lo tl) (hh : DO cA X hi th) : DE cA X (.Subscript e (.Slice lo hi none p2) pos) (dSl te tl th) :=
  pe_weak (pe_slice (sl_list.or (sl_tupA.or sl_str)) he hl hh) fun σ H Q ⟨g, st, env, Qd, rl, en, h, p⟩ => ⟨g, st, env, _, rl, en, h, fun d st1 g1 H1 v s1 rl1 r1 h1 =>
    ⟨g1, st1, env, _, rl1, en.mono s1, h1, fun o1 st2 g2 H2 s2 rl2 h2 => ⟨g2, st2, env, _, rl2, (en.mono s1).mono s2, h2, fun o2 st3 g3 H3 s3 rl3 h3 => by
      have rv := (r1.mono s2).mono s3
      have pp := p.step ((s1.trans s2).trans s3)
      unfold rdSl at h3
      split at h3
      · rename_i ds ex
        obtain ⟨a, vs, rfl, e1, rs⟩ := see_lst rl3 rv ex
        exact .inl ⟨a, vs, rfl, .of e1, lay_lst rl3 (rs.cut o1 o2) pp h3⟩
      · rename_i ns ex
        obtain ⟨a, rfl, e1⟩ := see_scr rv ex
        exact .inl ⟨a, _, rfl, e1.sq, lay_lst rl3 ((reps_ints ns).cut o1 o2) pp h3⟩
      · rename_i ds ex
        obtain ⟨a, vs, rfl, e1, rs⟩ := see_tup rv ex
        refine .inr (.inl ⟨a, vs, rfl, e1.sq, fun hw => ?_, fun _ => lay_tup rl3 (rs.cut o1 o2) pp h3⟩)
        have : cutD ds o1 o2 = ds := cutD_whole (by rw [← rs.length]; exact hw)
        rw [this] at h3
        exact pp.now rl3 (.tup e1 rs) h3
      · rename_i z ex
        cases see_str rv ex
        exact .inr (.inr ⟨z, rfl, h3.1, pp.now rl3 (.str _) h3.2⟩)
      · exact h3.elim⟩⟩⟩
/-- xs[::-1] -/
def rdRev : RD1 := fun x st Q => match look st x with
  | .lst ds => Q (.lst ds.reverse) st
  | _ => False
theorem de_rev {e : Expr} {te : TDE} {k : Nat} {p1 p2 p3 pos : Pos} (he : DE cA X e te) : DE cA X (.Subscript e (.Slice none none (some (.UnaryOp .USub (.Constant (.int 1) k p1) p2)) p3) pos) (dUn rdRev te) :=
  pe_weak (pe_revL he) fun σ H Q ⟨g, st, env, Qd, rl, en, h, p⟩ => ⟨g, st, env, _, rl, en, h, fun d st1 g1 H1 v s1 rl1 r1 h1 => by
    unfold rdRev at h1
    split at h1
    · rename_i ds ex
      obtain ⟨a, vs, rfl, e1, rs⟩ := see_lst rl1 r1 ex
      exact ⟨a, vs, rfl, .of e1, lay_lst rl1 rs.reverse (p.step s1) h1⟩
    · exact h1.elim⟩
/-- a, b, c = x, y, z -/
def dPar3 (i j l : Nat) (ta : TDA) : TDS := fun D env st => ta env st fun ds st1 => match ds with
  | [u, v, w] => D.nx (((env.set i (some u)).set j (some v)).set l (some w)) st1
  | _ => False
theorem ds_par3 {i j l : Nat} {x y z : Str} {a b c : Expr} {ta : TDA} {px py pz pt pos : Pos} {kt k2 pt2} (hc : X.calm = true) (hN : X.N.Nodup) (hi : X.N[i]? = some x) (hj : X.N[j]? = some y) (hl : X.N[l]? = some z) (hij : i ≠ j) (hil : i ≠ l) (hjl : j ≠ l)
    (hx : X.env.scope.names.lookup x = some .local) (hy : X.env.scope.names.lookup y = some .local) (hz : X.env.scope.names.lookup z = some .local) (ha : DA cA X [a, b, c] ta)
    (hw : swappedStores [.Tuple [.Name x px, .Name y py, .Name z pz] kt pt] (.Tuple [a, b, c] k2 pt2) X.env = pure (some [x, y, z]))
    (hs : swapsWithSole [.Tuple [.Name x px, .Name y py, .Name z pz] kt pt] (.Tuple [a, b, c] k2 pt2) pos.line X.env = pure false := by rfl) :
    DS cA X (.Assign [.Tuple [.Name x px, .Name y py, .Name z pz] kt pt] (.Tuple [a, b, c] k2 pt2) pos) (dPar3 i j l ta) :=
  ps_weak (ps_par3 hc hN hi hj hl hij hil hjl hx hy hz ha hw hs) fun σ H Q ⟨g, st, env, Dd, rl, en, h, p⟩ => ⟨g, st, env, _, rl, en, h, fun ds st1 g1 H1 vs s1 rl1 r1 h1 => by
    cases r1 with
    | nil => exact h1.elim
    | cons ra rt => cases rt with
      | nil => exact h1.elim
      | cons rb rt => cases rt with
        | nil => exact h1.elim
        | cons rc rt => cases rt with
          | nil => exact ⟨_, _, _, rfl, p.nx _ _ _ _ _ s1 rl1 ((((en.mono s1).set ra i).set rb j).set rc l) h1⟩
          | cons _ _ => exact h1.elim⟩

/-! ### built-in functions and types, by values -/
def dCB (rd : List D → Sto → QD → Prop) (t : TDA) : TDE := fun env st Q => t env st fun ds st1 => rd ds st1 Q
theorem lift_cb {r : List V → Hp → VK → Prop} {rd : List D → Sto → QD → Prop} {t : TDA} (im : ImA (gx X cA) r rd) : ∀ σ H Q, liftE (gx X cA) (dCB rd t) σ H Q → tCB r (liftA (gx X cA) t) σ H Q := fun σ H Q ⟨g, st, env, Qd, rl, en, h, p⟩ =>
  ⟨g, st, env, _, rl, en, h, fun ds st1 g1 H1 vs s1 rl1 r1 h1 => im g1 st1 H1 vs ds Qd Q rl1 r1 h1 (p.step s1)⟩
theorem de_callB {x : Str} {p pos : Pos} {e : Expr} {es : List Expr} {t : TDA} {id : String} {r : List V → Hp → VK → Prop} {rd : List D → Sto → QD → Prop} (hc : CallR X (.builtin id) r) (im : ImA (gx X cA) r rd) (hg : Gl X x) (hm : X.mg x = none) (hv : bootBuiltins x = some (.builtin id)) (ha : DA cA X (e :: es) t)
    (hn : x ≠ "__name__" := by decide) (hdb : (x == ("__debug__" : Str)) = false := by decide) (he : starEach (e :: es) X.env = (false, eval e X.env) :: starEach es X.env := by rfl) (hpl : (backTo pos (starEach es X.env)).any (·.1) = false := by rfl) : DE cA X (.Call (.Name x p) (e :: es) [] pos) (dCB rd t) :=
  pe_weak (pe_callB hc hg hm hv ha hn hdb he hpl) (lift_cb im)
theorem de_callTy {x : Str} {p pos : Pos} {e : Expr} {es : List Expr} {t : TDA} {T : String} {r : List V → Hp → VK → Prop} {rd : List D → Sto → QD → Prop} (hc : CallR X (.type T) r) (im : ImA (gx X cA) r rd) (hg : Gl X x) (hm : X.mg x = none) (hv : bootBuiltins x = some (.type T)) (ha : DA cA X (e :: es) t)
    (hn : x ≠ "__name__" := by decide) (hdb : (x == ("__debug__" : Str)) = false := by decide) (he : starEach (e :: es) X.env = (false, eval e X.env) :: starEach es X.env := by rfl) (hpl : (backTo pos (starEach es X.env)).any (·.1) = false := by rfl) : DE cA X (.Call (.Name x p) (e :: es) [] pos) (dCB rd t) :=
  pe_weak (pe_callTy hc hg hm hv ha hn hdb he hpl) (lift_cb im)
theorem reps1 {G : Gx} {g : Gh} {H : Hp} {vs : List V} {d : D} (r : Reps G g H vs [d]) : ∃ v, vs = [v] ∧ Rep G g H v d := by
  cases r with
  | cons r t => cases t; exact ⟨_, rfl, r⟩
theorem reps2 {G : Gx} {g : Gh} {H : Hp} {vs : List V} {d e : D} (r : Reps G g H vs [d, e]) : ∃ v w, vs = [v, w] ∧ Rep G g H v d ∧ Rep G g H w e := by
  cases r with
  | cons r t => cases t with
    | cons r2 t => cases t; exact ⟨_, _, rfl, r, r2⟩
/-- len -/
def rdLen (ds : List D) (st : Sto) (Q : QD) : Prop := match ds with
  | [d] => match look st d with
    | .lst xs => Q (.int xs.length) st
    | .tup xs => Q (.int xs.length) st
    | .str z => z.length ≤ sizeLine ∧ Q (.int z.length) st
    | _ => False
  | _ => False
theorem im_len : ImA (gx X cA) (fun xs H Q => (∃ p ys, xs = [.ref p] ∧ (SqL X.K H p ys ∨ SqT X.K H p ys) ∧ Q (.int ys.length) H) ∨ ∃ z, xs = [.str z] ∧ z.length ≤ sizeLine ∧ Q (.int z.length) H) rdLen := by
  intro g st H xs ds Qd Q rl rs h p
  unfold rdLen at h
  split at h
  · obtain ⟨v, rfl, r⟩ := reps1 rs
    split at h
    · rename_i ex
      obtain ⟨a, vs, rfl, e1, r1⟩ := see_lst rl r ex
      rw [← r1.length] at h
      exact .inl ⟨a, vs, rfl, .inl (.of e1), p.now rl (.int _) h⟩
    · rename_i ex
      obtain ⟨a, vs, rfl, e1, r1⟩ := see_tup r ex
      rw [← r1.length] at h
      exact .inl ⟨a, vs, rfl, .inr e1.sq, p.now rl (.int _) h⟩
    · rename_i z ex
      cases see_str r ex
      exact .inr ⟨z, rfl, h.1, p.now rl (.int _) h.2⟩
    · exact h.elim
  · exact h.elim
theorem de_len {p pos : Pos} {e : Expr} {te : TDE} (hg : Gl X "len") (hm : X.mg "len" = none) (ha : DE cA X e te) (hs : starEach [e] X.env = (false, eval e X.env) :: starEach [] X.env := by rfl) : DE cA X (.Call (.Name "len" p) [e] [] pos) (dCB rdLen (dCons te dNil)) :=
  de_callB (call_len_seq.or call_len_str) im_len hg hm PySem.boot_len (da_cons ha da_nil hs) (he := hs) (hpl := rfl)
end
end TL
namespace TL
open PySem PySem.Spec PyProof.Rows L2
section
variable {X : Cx} {cA : Nat → Addr}
/-! ### list(..), tuple(..) -/
theorem call_list_signs (hc : X.calm = true) : CallR X (.type "list") (fun xs H Q => ∃ z, xs = [.str z] ∧ z.length ≤ sizeLine ∧ ∀ l, H l = none → Q (.ref l) (upd H l (.lst (signs z)))) := by
  intro pins s σ H xs us Q I r h
  obtain ⟨z, rfl, hz, q⟩ := h
  obtain ⟨u, rfl, t, rfl⟩ := vals1 r
  refine call_list_str (I.ok.hd hc) z t (fun h' tk acc c hk hS hi => ?_) (by simpa [Str.length] using hz)
  have hv : Vals (signs z) acc.toList := by
    obtain ⟨h1, h2⟩ := hi
    have gen : ∀ (xs : List V) (us : List Value), xs.length = us.length → (∀ (j : Nat) u, us[j]? = some u → ∃ x, xs[j]? = some x ∧ RelV x u) → Vals xs us := by
      intro xs
      induction xs with
      | nil => intro us hl _; cases us with
        | nil => exact .nil
        | cons _ _ => simp at hl
      | cons x xs ih => intro us hl hj; cases us with
        | nil => simp at hl
        | cons u us =>
          obtain ⟨x', e, ru⟩ := hj 0 u rfl
          cases e
          exact .cons ru (ih us (by simpa using hl) fun j w hw => by simpa using hj (j + 1) w (by simpa using hw))
    refine gen _ _ (by rw [signs_len]; simp [h1]) fun j u hu => ?_
    obtain ⟨c, k, hc2, rfl⟩ := h2 j u (by simpa using hu)
    exact ⟨_, signs_get hc2, _, rfl⟩
  refine ⟨.ref s.heap.objs.size, _, I.laid (o := .lst (signs z)) (t' := tk) hk (Nat.le_refl _) ⟨by rw [signs_len]; simpa [Str.length] using hz, acc.toList, c, hv, by simpa using hS⟩, rfl, q _ (I.hok.fresh (Nat.le_refl _))⟩
def seqOf (st : Sto) (d : D) : Option (List D) := match look st d with
  | .lst ds => some ds
  | .tup ds => some ds
  | .str z => if z.length ≤ sizeLine then some (signsD z) else none
  | _ => none
def rdList (ds : List D) (st : Sto) (Q : QD) : Prop := match ds with
  | [d] => match seqOf st d with
    | some xs => Q (.lst xs) st
    | none => False
  | _ => False
def rdListM (ds : List D) (st : Sto) (Q : QD) : Prop := match ds with
  | [d] => match seqOf st d with
    | some xs => ∀ n, st n = none → Q (.ref n) (sup st n (.lst xs))
    | none => False
  | _ => False
abbrev rList (K : PySem.W.Frag) : List V → Hp → VK → Prop := fun xs H Q => (∃ p ys, xs = [.ref p] ∧ (SqL K H p ys ∨ SqT K H p ys) ∧ ∀ l, H l = none → Q (.ref l) (upd H l (.lst ys))) ∨ ∃ z, xs = [.str z] ∧ z.length ≤ sizeLine ∧ ∀ l, H l = none → Q (.ref l) (upd H l (.lst (signs z)))
theorem im_seq {G : Gx} {g : Gh} {st : Sto} {H : Hp} {v : V} {d : D} {xs : List D} {Q : VK} (rl : Rel G g st H) (r : Rep G g H v d) (h : seqOf st d = some xs) (q : ∀ vs, Reps G g H vs xs → ∀ l, H l = none → Q (.ref l) (upd H l (.lst vs))) : rList G.K [v] H Q := by
  unfold seqOf at h
  split at h
  · rename_i ex
    cases h
    obtain ⟨a, vs, rfl, e1, r1⟩ := see_lst rl r ex
    exact .inl ⟨a, vs, rfl, .inl (.of e1), q vs r1⟩
  · rename_i ex
    cases h
    obtain ⟨a, vs, rfl, e1, r1⟩ := see_tup r ex
    exact .inl ⟨a, vs, rfl, .inr e1.sq, q vs r1⟩
  · rename_i z ex
    cases see_str r ex
    split at h
    · cases h
      rename_i hz
      exact .inr ⟨z, rfl, hz, q _ (reps_signs z)⟩
    · cases h
  · cases h
theorem im_list : ImA (gx X cA) (rList X.K) rdList := by
  intro g st H xs ds Qd Q rl rs h p
  unfold rdList at h
  split at h
  · obtain ⟨v, rfl, r⟩ := reps1 rs
    split at h
    · rename_i e; exact im_seq rl r e fun vs r1 => lay_lst rl r1 p h
    · exact h.elim
  · exact h.elim
theorem im_listM : ImA (gx X cA) (rList X.K) rdListM := by
  intro g st H xs ds Qd Q rl rs h p
  unfold rdListM at h
  split at h
  · obtain ⟨v, rfl, r⟩ := reps1 rs
    split at h
    · rename_i e; exact im_seq rl r e fun vs r1 => lay_cell rl r1 p h
    · exact h.elim
  · exact h.elim
theorem de_list {p pos : Pos} {e : Expr} {te : TDE} (hc : X.calm = true) (hg : Gl X "list") (hm : X.mg "list" = none) (ha : DE cA X e te) (hs : starEach [e] X.env = (false, eval e X.env) :: starEach [] X.env := by rfl) : DE cA X (.Call (.Name "list" p) [e] [] pos) (dCB rdList (dCons te dNil)) :=
  de_callTy (call_list_of.or (call_list_signs hc)) im_list hg hm (by decide +kernel) (da_cons ha da_nil hs) (he := hs) (hpl := rfl)
theorem de_listM {p pos : Pos} {e : Expr} {te : TDE} (hc : X.calm = true) (hg : Gl X "list") (hm : X.mg "list" = none) (ha : DE cA X e te) (hs : starEach [e] X.env = (false, eval e X.env) :: starEach [] X.env := by rfl) : DE cA X (.Call (.Name "list" p) [e] [] pos) (dCB rdListM (dCons te dNil)) :=
  de_callTy (call_list_of.or (call_list_signs hc)) im_listM hg hm (by decide +kernel) (da_cons ha da_nil hs) (he := hs) (hpl := rfl)
def rdTuple (ds : List D) (st : Sto) (Q : QD) : Prop := match ds with
  | [d] => match look st d with
    | .lst xs => Q (.tup xs) st
    | .tup xs => Q (.tup xs) st
    | _ => False
  | _ => False
theorem im_tuple : ImA (gx X cA) (fun xs H Q => ∃ p ys, xs = [.ref p] ∧ ((SqL X.K H p ys ∧ ∀ l, H l = none → Q (.ref l) (upd H l (.tup ys))) ∨ (SqT X.K H p ys ∧ Q (.ref p) H))) rdTuple := by
  intro g st H xs ds Qd Q rl rs h p
  unfold rdTuple at h
  split at h
  · obtain ⟨v, rfl, r⟩ := reps1 rs
    split at h
    · rename_i ex
      obtain ⟨a, vs, rfl, e1, r1⟩ := see_lst rl r ex
      exact ⟨a, vs, rfl, .inl ⟨.of e1, lay_tup rl r1 p h⟩⟩
    · rename_i ex
      obtain ⟨a, vs, rfl, e1, r1⟩ := see_tup r ex
      exact ⟨a, vs, rfl, .inr ⟨e1.sq, p.now rl (.tup e1 r1) h⟩⟩
    · exact h.elim
  · exact h.elim
theorem de_tuple {p pos : Pos} {e : Expr} {te : TDE} (hg : Gl X "tuple") (hm : X.mg "tuple" = none) (ha : DE cA X e te) (hs : starEach [e] X.env = (false, eval e X.env) :: starEach [] X.env := by rfl) : DE cA X (.Call (.Name "tuple" p) [e] [] pos) (dCB rdTuple (dCons te dNil)) :=
  de_callTy call_tuple_of im_tuple hg hm (by decide +kernel) (da_cons ha da_nil hs) (he := hs) (hpl := rfl)
/-! ### int, abs, max, min, sum, str -/
def rdInt (ds : List D) (st : Sto) (Q : QD) : Prop := match ds with
  | [.int i] => Q (.int i) st
  | [.bl b] => Q (.int (if b then 1 else 0)) st
  | _ => False
theorem im_int : ImA (gx X cA) (fun xs H Q => (∃ i, xs = [.int i] ∧ Q (.int i) H) ∨ ∃ k, xs = [.bl k] ∧ Q (.int (if k then 1 else 0)) H) rdInt := by
  intro g st H xs ds Qd Q rl rs h p
  unfold rdInt at h
  split at h
  · obtain ⟨v, rfl, r⟩ := reps1 rs; cases r; exact .inl ⟨_, rfl, p.now rl (.int _) h⟩
  · obtain ⟨v, rfl, r⟩ := reps1 rs; cases r; exact .inr ⟨_, rfl, p.now rl (.int _) h⟩
  · exact h.elim
theorem de_intf {p pos : Pos} {e : Expr} {te : TDE} (hg : Gl X "int") (hm : X.mg "int" = none) (ha : DE cA X e te) (hs : starEach [e] X.env = (false, eval e X.env) :: starEach [] X.env := by rfl) : DE cA X (.Call (.Name "int" p) [e] [] pos) (dCB rdInt (dCons te dNil)) :=
  de_callTy call_int1 im_int hg hm (by decide +kernel) (da_cons ha da_nil hs) (he := hs) (hpl := rfl)
def rdI1 (f : Int → Int) (ds : List D) (st : Sto) (Q : QD) : Prop := match ds with
  | [.int i] => Q (.int (f i)) st
  | _ => False
theorem de_abs {p pos : Pos} {e : Expr} {te : TDE} (hg : Gl X "abs") (hm : X.mg "abs" = none) (ha : DE cA X e te) (hs : starEach [e] X.env = (false, eval e X.env) :: starEach [] X.env := by rfl) : DE cA X (.Call (.Name "abs" p) [e] [] pos) (dCB (rdI1 fun i => if i < 0 then -i else i) (dCons te dNil)) :=
  de_callB call_abs (fun g st H xs ds Qd Q rl rs h p => by
    unfold rdI1 at h
    split at h
    · obtain ⟨v, rfl, r⟩ := reps1 rs; cases r; exact ⟨_, rfl, p.now rl (.int _) h⟩
    · exact h.elim) hg hm (by decide +kernel) (da_cons ha da_nil hs) (he := hs) (hpl := rfl)
def rdI2 (f : Int → Int → Int) (ds : List D) (st : Sto) (Q : QD) : Prop := match ds with
  | [.int i, .int j] => Q (.int (f i j)) st
  | _ => False
theorem de_max {p pos : Pos} {a b : Expr} {ta tb : TDE} (hc : X.calm = true) (hg : Gl X "max") (hm : X.mg "max" = none) (ha : DE cA X a ta) (hb : DE cA X b tb) (hs : starEach [a, b] X.env = (false, eval a X.env) :: starEach [b] X.env := by rfl) (hs2 : starEach [b] X.env = (false, eval b X.env) :: starEach [] X.env := by rfl) (hpl : (backTo pos (starEach [b] X.env)).any (·.1) = false := by rfl) :
    DE cA X (.Call (.Name "max" p) [a, b] [] pos) (dCB (rdI2 fun i j => if j > i then j else i) (dCons ta (dCons tb dNil))) :=
  de_callB (call_max2 hc) (fun g st H xs ds Qd Q rl rs h p => by
    unfold rdI2 at h
    split at h
    · obtain ⟨v, w, rfl, r, r2⟩ := reps2 rs; cases r; cases r2; exact ⟨_, _, rfl, p.now rl (.int _) h⟩
    · exact h.elim) hg hm (by decide +kernel) (da_cons ha (da_cons hb da_nil hs2) hs) (he := hs) (hpl := hpl)
theorem de_min {p pos : Pos} {a b : Expr} {ta tb : TDE} (hc : X.calm = true) (hg : Gl X "min") (hm : X.mg "min" = none) (ha : DE cA X a ta) (hb : DE cA X b tb) (hs : starEach [a, b] X.env = (false, eval a X.env) :: starEach [b] X.env := by rfl) (hs2 : starEach [b] X.env = (false, eval b X.env) :: starEach [] X.env := by rfl) (hpl : (backTo pos (starEach [b] X.env)).any (·.1) = false := by rfl) :
    DE cA X (.Call (.Name "min" p) [a, b] [] pos) (dCB (rdI2 fun i j => if j < i then j else i) (dCons ta (dCons tb dNil))) :=
  de_callB (call_min2 hc) (fun g st H xs ds Qd Q rl rs h p => by
    unfold rdI2 at h
    split at h
    · obtain ⟨v, w, rfl, r, r2⟩ := reps2 rs; cases r; cases r2; exact ⟨_, _, rfl, p.now rl (.int _) h⟩
    · exact h.elim) hg hm (by decide +kernel) (da_cons ha (da_cons hb da_nil hs2) hs) (he := hs) (hpl := hpl)
/-- the ints of a list -/
def intsOf : List D → Option (List Int)
  | [] => some []
  | .int i :: ds => (intsOf ds).map (i :: ·)
  | _ :: _ => none
theorem ints_rep {G : Gx} {g : Gh} {H : Hp} : ∀ {vs : List V} {ds : List D} {ns : List Int}, Reps G g H vs ds → intsOf ds = some ns → vs = ns.map V.int
  | _, _, ns, .nil, h => by simp only [intsOf] at h; cases h; rfl
  | _, _, ns, .cons (.int i) t, h => by
    simp only [intsOf] at h
    obtain ⟨ms, h1, h2⟩ := Option.map_eq_some_iff.mp h
    cases h2
    rw [ints_rep t h1]; rfl
  | _, _, ns, .cons .non t, h => by simp [intsOf] at h
  | _, _, ns, .cons (.bl _) t, h => by simp [intsOf] at h
  | _, _, ns, .cons (.str _) t, h => by simp [intsOf] at h
  | _, _, ns, .cons (.tup _ _) t, h => by simp [intsOf] at h
  | _, _, ns, .cons (.lst _ _ _) t, h => by simp [intsOf] at h
  | _, _, ns, .cons (.dct _ _) t, h => by simp [intsOf] at h
  | _, _, ns, .cons (.obj _ _ _) t, h => by simp [intsOf] at h
  | _, _, ns, .cons (.ref _) t, h => by simp [intsOf] at h
  | _, _, ns, .cons (.scr _) t, h => by simp [intsOf] at h
def rdSum (ds : List D) (st : Sto) (Q : QD) : Prop := match ds with
  | [d] => match look st d with
    | .lst xs => ∃ ns, intsOf xs = some ns ∧ Q (.int ns.sum) st
    | _ => False
  | _ => False
theorem de_sum {p pos : Pos} {e : Expr} {te : TDE} (hc : X.calm = true) (hg : Gl X "sum") (hm : X.mg "sum" = none) (ha : DE cA X e te) (hs : starEach [e] X.env = (false, eval e X.env) :: starEach [] X.env := by rfl) : DE cA X (.Call (.Name "sum" p) [e] [] pos) (dCB rdSum (dCons te dNil)) :=
  de_callB (cr_sum hc) (fun g st H xs ds Qd Q rl rs h p => by
    unfold rdSum at h
    split at h
    · obtain ⟨v, rfl, r⟩ := reps1 rs
      split at h
      · rename_i ex
        obtain ⟨a, vs, rfl, e1, r1⟩ := see_lst rl r ex
        obtain ⟨ns, h1, h2⟩ := h
        have e2 := ints_rep r1 h1
        subst e2
        exact ⟨a, ns, rfl, .of e1, p.now rl (.int _) h2⟩
      · exact h.elim
    · exact h.elim) hg hm (by decide +kernel) (da_cons ha da_nil hs) (he := hs) (hpl := rfl)
/-! ### repr -/
theorem call_reprD (hgd : X.A.guards = some []) (hu : X.A.units + 70 < cLine) : CallR X (.builtin "repr") (fun xs H Q => ∃ a d, xs = [.ref a] ∧ Dp X.K H (.ref a) d ∧ SeqAt.shaped d = true ∧ d.showable = true ∧ d.shown.length ≤ sizeLine ∧ Q (.str d.shown) H) := by
  intro pins s σ H xs us Q I r h
  obtain ⟨a, d, rfl, hd, sh, sw, hz, q⟩ := h
  obtain ⟨u, rfl, ru⟩ := vals1 r
  cases ru
  obtain ⟨as, rd⟩ := Dp.reads I d (.ref a) (.ref a) hd rfl
  have h1 := SeqAt.depth_of_shaped sh
  exact repr_of_reads' rd sw (PyData.noDict_hsm (PyData.hasDict_of_canLay d (SeqAt.canLay_of_shaped sh))) hgd (by omega) (fun _ _ e => e) (fun h' t tk hk => ⟨.str _, H, I.kept hk, ⟨_, rfl⟩, q⟩) hz
def rdRepr (ds : List D) (st : Sto) (Q : QD) : Prop := match ds with
  | [.int i] => i.natAbs.log2 < 1920 ∧ Q (.str (toString i)) st
  | [.lst xs] => ∃ p, (D.lst xs).py = some p ∧ SeqAt.shaped p = true ∧ p.showable = true ∧ p.shown.length ≤ sizeLine ∧ Q (.str p.shown) st
  | [.tup xs] => ∃ p, (D.tup xs).py = some p ∧ SeqAt.shaped p = true ∧ p.showable = true ∧ p.shown.length ≤ sizeLine ∧ Q (.str p.shown) st
  | _ => False
theorem de_repr {p pos : Pos} {e : Expr} {te : TDE} (hgd : X.A.guards = some []) (hu : X.A.units + 70 < cLine) (hg : Gl X "repr") (hm : X.mg "repr" = none) (ha : DE cA X e te) (hs : starEach [e] X.env = (false, eval e X.env) :: starEach [] X.env := by rfl) : DE cA X (.Call (.Name "repr" p) [e] [] pos) (dCB rdRepr (dCons te dNil)) :=
  de_callB ((SkE.call_repr_int).or (call_reprD hgd hu)) (fun g st H xs ds Qd Q rl rs h p => by
    unfold rdRepr at h
    split at h
    · obtain ⟨v, rfl, r⟩ := reps1 rs; cases r; exact .inl ⟨_, rfl, h.1, p.now rl (.str _) h.2⟩
    · obtain ⟨v, rfl, r⟩ := reps1 rs
      obtain ⟨q, h1, h2, h3, h4, h5⟩ := h
      have hd := rep_dp r h1
      cases r
      exact .inr ⟨_, q, rfl, hd, h2, h3, h4, p.now rl (.str _) h5⟩
    · obtain ⟨v, rfl, r⟩ := reps1 rs
      obtain ⟨q, h1, h2, h3, h4, h5⟩ := h
      have hd := rep_dp r h1
      cases r
      exact .inr ⟨_, q, rfl, hd, h2, h3, h4, p.now rl (.str _) h5⟩
    · exact h.elim) hg hm (by decide +kernel) (da_cons ha da_nil hs) (he := hs) (hpl := rfl)
end
end TL
namespace TL
open PySem PySem.Spec PyProof.Rows L2
section
variable {X : Cx} {cA : Nat → Addr}
/-! ### methods of a list in a cell -/
def isL (st : Sto) (d : D) : Prop := match look st d with
  | .lst _ => True
  | _ => False
theorem isL_ty {G : Gx} {g : Gh} {st : Sto} {H : Hp} {v : V} {d : D} (rl : Rel G g st H) (r : Rep G g H v d) (h : isL st d) : tyV G.K "list" v H := by
  unfold isL at h
  split at h
  · rename_i ex
    obtain ⟨a, vs, rfl, e1, r1⟩ := see_lst rl r ex
    exact .inl ⟨rfl, vs, .of e1⟩
  · exact h.elim
/-- what a method does, over trees -/
def ImM (G : Gx) (r : V → List V → Hp → VK → Prop) (rd : D → List D → Sto → QD → Prop) : Prop := ∀ g st H x xs d ds Qd Q, Rel G g st H → Rep G g H x d → Reps G g H xs ds → rd d ds st Qd → Post G g st H Qd Q → r x xs H Q
def dMt (rd : D → List D → Sto → QD → Prop) (to : TDE) (t : TDA) : TDE := fun env st Q => to env st fun x st1 => isL st1 x ∧ t env st1 fun ds st2 => rd x ds st2 Q
def dMt0 (rd : D → List D → Sto → QD → Prop) (to : TDE) : TDE := fun env st Q => to env st fun x st1 => isL st1 x ∧ rd x [] st1 Q
theorem de_mt {o e : Expr} {es : List Expr} {to : TDE} {t : TDA} {name : Str} {apos cpos : Pos} {id : String} {r : V → List V → Hp → VK → Prop} {rd : D → List D → Sto → QD → Prop} (slot : Slot "list" name id) (hty : typeOf (.builtin id) = pure (.type "method_descriptor")) (hm : MtR X id r) (im : ImM (gx X cA) r rd) (ho : DE cA X o to) (ha : DA cA X (e :: es) t)
    (hbase : attributeBase o name X.env (eval o X.env) = eval o X.env := by rfl)
    (hfew : ((backTo cpos (starEach (e :: es) X.env)).all (fun x => !x.1) && (backToKw cpos (keywordEach [] X.env)).all (fun x => x.1.isSome)
      && decide ((e :: es).length + ([] : List Keyword).length + (if ([] : List Keyword).isEmpty then 0 else 1) < 30)) = true := by rfl)
    (hline : (apos.endLine == cpos.line) = true := by rfl) (hs : starEach (e :: es) X.env = (false, eval e X.env) :: starEach es X.env := by rfl) (hplain : (backTo cpos (starEach es X.env)).any (·.1) = false := by rfl) :
    DE cA X (.Call (.Attribute o name apos) (e :: es) [] cpos) (dMt rd to t) :=
  pe_weak (pe_bm PySem.F.plainAttrs_list slot hty hm ho ha hbase hfew hline hs hplain) fun σ H Q ⟨g, st, env, Qd, rl, en, h, p⟩ => ⟨g, st, env, _, rl, en, h, fun d st1 g1 H1 v s1 rl1 r1 h1 =>
    ⟨isL_ty rl1 r1 h1.1, g1, st1, env, _, rl1, en.mono s1, h1.2, fun ds st2 g2 H2 vs s2 rl2 r2 h2 => im g2 st2 H2 v vs d ds Qd Q rl2 (r1.mono s2) r2 h2 (p.step (s1.trans s2))⟩⟩
theorem de_mt0 {o : Expr} {to : TDE} {name : Str} {apos cpos : Pos} {id : String} {r : V → List V → Hp → VK → Prop} {rd : D → List D → Sto → QD → Prop} (slot : Slot "list" name id) (hty : typeOf (.builtin id) = pure (.type "method_descriptor")) (hm : MtR X id r) (im : ImM (gx X cA) r rd) (ho : DE cA X o to)
    (hbase : attributeBase o name X.env (eval o X.env) = eval o X.env := by rfl) (hline : (apos.endLine == cpos.line) = true := by rfl) : DE cA X (.Call (.Attribute o name apos) [] [] cpos) (dMt0 rd to) :=
  pe_weak (pe_bm0 PySem.F.plainAttrs_list slot hty hm ho hbase hline) fun σ H Q ⟨g, st, env, Qd, rl, en, h, p⟩ => ⟨g, st, env, _, rl, en, h, fun d st1 g1 H1 v s1 rl1 r1 h1 =>
    ⟨isL_ty rl1 r1 h1.1, im g1 st1 H1 v [] d [] Qd Q rl1 r1 .nil h1.2 (p.step s1)⟩⟩
/-- the list in the cell n -/
def cellL (st : Sto) (d : D) (k : Nat → List D → Prop) : Prop := match d with
  | .ref n => match st n with
    | some (.lst xs) => k n xs
    | _ => False
  | _ => False
theorem cellL_of {G : Gx} {g : Gh} {st : Sto} {H : Hp} {v : V} {d : D} {k : Nat → List D → Prop} (rl : Rel G g st H) (r : Rep G g H v d) (h : cellL st d k) : ∃ n a vs xs, d = .ref n ∧ v = .ref a ∧ st n = some (.lst xs) ∧ g.rho n = some a ∧ H a = some (.lst vs) ∧ Reps G g H vs xs ∧ k n xs := by
  unfold cellL at h
  split at h
  · rename_i n
    split at h
    · rename_i xs e
      cases r with
      | @ref a _ e1 =>
        obtain ⟨a', f1, f2, vs, f3, f4⟩ := rl.cell _ _ e
        rw [e1] at f1; cases f1
        exact ⟨n, a, vs, xs, rfl, rfl, e, e1, f3, f4, h⟩
    · exact h.elim
  · exact h.elim
/-- the cell is written -/
theorem put_cell {G : Gx} {g : Gh} {st : Sto} {H : Hp} {n : Nat} {a : Addr} {xs ys : List D} {vs : List V} {d : D} {v : V} {Qd : QD} {Q : VK} (rl : Rel G g st H) (e : st n = some (.lst xs)) (e1 : g.rho n = some a) (rs : Reps G g H vs ys) (rv : Rep G g H v d) (p : Post G g st H Qd Q) (q : Qd d (sup st n (.lst ys))) : Q v (upd H a (.lst vs)) := by
  obtain ⟨s, rl'⟩ := rl.write (m' := .lst ys) (o := .lst vs) e e1 fun st' H' s' eH => ⟨vs, by rw [eH]; exact upd_same, rs.mono s'⟩
  exact p _ _ _ _ _ s rl' (rv.mono s) q
def rdAppend (x : D) (ds : List D) (st : Sto) (Q : QD) : Prop := cellL st x fun n xs => match ds with
  | [d] => xs.length < sizeLine ∧ Q .non (sup st n (.lst (xs ++ [d])))
  | _ => False
theorem im_append : ImM (gx X cA) rAppend rdAppend := by
  intro g st H x vs d ds Qd Q rl rx rs h p
  obtain ⟨n, a, ws, xs, rfl, rfl, e, e1, e2, r1, h⟩ := cellL_of rl rx h
  split at h
  · obtain ⟨v, rfl, rv⟩ := reps1 rs
    exact ⟨a, ws, v, rfl, rfl, e2, by rw [r1.length]; exact h.1, put_cell rl e e1 (r1.append (.cons rv .nil)) .non p h.2⟩
  · exact h.elim
theorem de_append {o e : Expr} {to te : TDE} {apos cpos : Pos} (ho : DE cA X o to) (ha : DE cA X e te)
    (hbase : attributeBase o "append" X.env (eval o X.env) = eval o X.env := by rfl)
    (hfew : ((backTo cpos (starEach [e] X.env)).all (fun x => !x.1) && (backToKw cpos (keywordEach [] X.env)).all (fun x => x.1.isSome)
      && decide (([e] : List Expr).length + ([] : List Keyword).length + (if ([] : List Keyword).isEmpty then 0 else 1) < 30)) = true := by rfl)
    (hline : (apos.endLine == cpos.line) = true := by rfl) (hs : starEach [e] X.env = (false, eval e X.env) :: starEach [] X.env := by rfl) : DE cA X (.Call (.Attribute o "append" apos) [e] [] cpos) (dMt rdAppend to (dCons te dNil)) :=
  de_mt PySem.F.slot_list_append PySem.F.type_list_append mt_append im_append ho (da_cons ha da_nil hs) hbase hfew hline hs rfl
def rdPop (x : D) (ds : List D) (st : Sto) (Q : QD) : Prop := cellL st x fun n xs => ∃ y, xs[xs.length - 1]? = some y ∧ ds = [] ∧ Q y (sup st n (.lst xs.dropLast))
theorem Reps.dropLast {G : Gx} {g : Gh} {H : Hp} {vs : List V} {ds : List D} (r : Reps G g H vs ds) : Reps G g H vs.dropLast ds.dropLast := by
  rw [List.dropLast_eq_take, List.dropLast_eq_take, r.length]
  exact r.take _
theorem im_pop : ImM (gx X cA) rPop rdPop := by
  intro g st H x vs d ds Qd Q rl rx rs h p
  obtain ⟨n, a, ws, xs, rfl, rfl, e, e1, e2, r1, y, h1, h2, h3⟩ := cellL_of rl rx h
  subst h2
  cases rs
  obtain ⟨v, hv, rv⟩ := r1.get h1
  exact ⟨a, ws, v, rfl, rfl, e2, by rw [r1.length]; exact hv, put_cell rl e e1 r1.dropLast rv p h3⟩
theorem de_pop {o : Expr} {to : TDE} {apos cpos : Pos} (ho : DE cA X o to) (hbase : attributeBase o "pop" X.env (eval o X.env) = eval o X.env := by rfl) (hline : (apos.endLine == cpos.line) = true := by rfl) : DE cA X (.Call (.Attribute o "pop" apos) [] [] cpos) (dMt0 rdPop to) :=
  de_mt0 PySem.F.slot_list_pop PySem.F.type_list_pop mt_pop im_pop ho hbase hline
def rdPopAt (x : D) (ds : List D) (st : Sto) (Q : QD) : Prop := cellL st x fun n xs => match ds with
  | [.int i] => ∃ y, 0 ≤ i ∧ i < 2 ^ 63 ∧ xs[i.toNat]? = some y ∧ Q y (sup st n (.lst (xs.eraseIdx i.toNat)))
  | _ => False
theorem im_popAt : ImM (gx X cA) rPopAt rdPopAt := by
  intro g st H x vs d ds Qd Q rl rx rs h p
  obtain ⟨n, a, ws, xs, rfl, rfl, e, e1, e2, r1, h⟩ := cellL_of rl rx h
  split at h
  · rename_i i hx
    obtain ⟨v, rfl, rv⟩ := reps1 rs
    cases rv
    obtain ⟨y, h0, h1, h2, h3⟩ := h
    obtain ⟨v, hv, rv⟩ := r1.get h2
    have hlt : i.toNat < xs.length := (List.getElem?_eq_some_iff.mp h2).1
    have hix : ixN ws.length i = some i.toNat := by
      unfold ixN
      rw [if_pos h0, if_pos (by rw [r1.length]; omega)]
    exact ⟨a, ws, i, i.toNat, v, rfl, rfl, e2, by omega, h1, (ixN_seq hix).1, hv, put_cell rl e e1 (r1.eraseIdx _) rv p h3⟩
  · exact h.elim
theorem de_popAt {o e : Expr} {to te : TDE} {apos cpos : Pos} (ho : DE cA X o to) (ha : DE cA X e te)
    (hbase : attributeBase o "pop" X.env (eval o X.env) = eval o X.env := by rfl)
    (hfew : ((backTo cpos (starEach [e] X.env)).all (fun x => !x.1) && (backToKw cpos (keywordEach [] X.env)).all (fun x => x.1.isSome)
      && decide (([e] : List Expr).length + ([] : List Keyword).length + (if ([] : List Keyword).isEmpty then 0 else 1) < 30)) = true := by rfl)
    (hline : (apos.endLine == cpos.line) = true := by rfl) (hs : starEach [e] X.env = (false, eval e X.env) :: starEach [] X.env := by rfl) : DE cA X (.Call (.Attribute o "pop" apos) [e] [] cpos) (dMt rdPopAt to (dCons te dNil)) :=
  de_mt PySem.F.slot_list_pop PySem.F.type_list_pop mt_popAt im_popAt ho (da_cons ha da_nil hs) hbase hfew hline hs rfl
def rdExtend (x : D) (ds : List D) (st : Sto) (Q : QD) : Prop := cellL st x fun n xs => match ds with
  | [d] => match look st d with
    | .lst ys => xs.length + ys.length ≤ sizeLine ∧ Q .non (sup st n (.lst (xs ++ ys)))
    | _ => False
  | _ => False
theorem im_extend : ImM (gx X cA) rExtend rdExtend := by
  intro g st H x vs d ds Qd Q rl rx rs h p
  obtain ⟨n, a, ws, xs, rfl, rfl, e, e1, e2, r1, h⟩ := cellL_of rl rx h
  split at h
  · obtain ⟨v, rfl, rv⟩ := reps1 rs
    split at h
    · rename_i ex
      obtain ⟨b, us, rfl, e3, r3⟩ := see_lst rl rv ex
      exact ⟨a, b, ws, us, rfl, rfl, e2, e3, by rw [r1.length, r3.length]; exact h.1, put_cell rl e e1 (r1.append r3) .non p h.2⟩
    · exact h.elim
  · exact h.elim
theorem de_extend {o e : Expr} {to te : TDE} {apos cpos : Pos} (ho : DE cA X o to) (ha : DE cA X e te)
    (hbase : attributeBase o "extend" X.env (eval o X.env) = eval o X.env := by rfl)
    (hfew : ((backTo cpos (starEach [e] X.env)).all (fun x => !x.1) && (backToKw cpos (keywordEach [] X.env)).all (fun x => x.1.isSome)
      && decide (([e] : List Expr).length + ([] : List Keyword).length + (if ([] : List Keyword).isEmpty then 0 else 1) < 30)) = true := by rfl)
    (hline : (apos.endLine == cpos.line) = true := by rfl) (hs : starEach [e] X.env = (false, eval e X.env) :: starEach [] X.env := by rfl) : DE cA X (.Call (.Attribute o "extend" apos) [e] [] cpos) (dMt rdExtend to (dCons te dNil)) :=
  de_mt PySem.F.slot_list_extend PySem.F.type_list_extend mt_extend im_extend ho (da_cons ha da_nil hs) hbase hfew hline hs rfl

/-! ### texts: join, split -/
def strsOf : List D → Option (List Str)
  | [] => some []
  | .str x :: ds => (strsOf ds).map (x :: ·)
  | _ :: _ => none
theorem strs_rep {G : Gx} {g : Gh} {H : Hp} : ∀ {vs : List V} {ds : List D} {ns : List Str}, Reps G g H vs ds → strsOf ds = some ns → vs = ns.map V.str
  | _, _, ns, .nil, h => by simp only [strsOf] at h; cases h; rfl
  | _, _, ns, .cons (.str i) t, h => by
    simp only [strsOf] at h
    obtain ⟨ms, h1, h2⟩ := Option.map_eq_some_iff.mp h
    cases h2
    rw [strs_rep t h1]; rfl
  | _, _, ns, .cons .non t, h => by simp [strsOf] at h
  | _, _, ns, .cons (.bl _) t, h => by simp [strsOf] at h
  | _, _, ns, .cons (.int _) t, h => by simp [strsOf] at h
  | _, _, ns, .cons (.tup _ _) t, h => by simp [strsOf] at h
  | _, _, ns, .cons (.lst _ _ _) t, h => by simp [strsOf] at h
  | _, _, ns, .cons (.dct _ _) t, h => by simp [strsOf] at h
  | _, _, ns, .cons (.obj _ _ _) t, h => by simp [strsOf] at h
  | _, _, ns, .cons (.ref _) t, h => by simp [strsOf] at h
  | _, _, ns, .cons (.scr _) t, h => by simp [strsOf] at h
def seqL (st : Sto) (d : D) : Option (List D) := match look st d with
  | .lst ds => some ds
  | .tup ds => some ds
  | _ => none
theorem reps_strs {G : Gx} {g : Gh} {H : Hp} : ∀ ns : List Str, Reps G g H (ns.map V.str) (ns.map D.str)
  | [] => .nil
  | n :: r => .cons (.str n) (reps_strs r)
def dJoin (a : Str) (te : TDE) : TDE := fun env st Q => te env st fun y st2 => match seqL st2 y with
  | some ds => ∃ ys, strsOf ds = some ys ∧ (ys.map (·.length)).sum + ys.length * a.length ≤ 16777216 ∧ Q (.str (Txt.join a ys)) st2
  | none => False
theorem de_join {e : Expr} {te : TDE} {apos pos p2 : Pos} {w : Str} {j : Nat} (he : DE cA X e te) (hs : starEach [e] X.env = [(false, eval e X.env)] := by rfl) (hbase : attributeBase (.Constant (.str w) j p2) "join" X.env (eval (.Constant (.str w) j p2) X.env) = eval (.Constant (.str w) j p2) X.env := by rfl) (hline : (apos.endLine == pos.line) = true := by rfl) :
    DE cA X (.Call (.Attribute (.Constant (.str w) j p2) "join" apos) [e] [] pos) (dJoin w te) :=
  pe_weak (pe_join pe_str he hs hbase hline) fun σ H Q ⟨g, st, env, Qd, rl, en, h, p⟩ => by
    refine ⟨⟨w, rfl⟩, g, st, env, _, rl, en, h, fun d2 st2 g2 H2 v2 s2 rl2 r2 h2 => ?_⟩
    cases e : seqL st2 d2 with
    | none => rw [e] at h2; exact h2.elim
    | some ds =>
      rw [e] at h2
      obtain ⟨ys, k1, k2, k3⟩ := h2
      unfold seqL at e
      split at e
      · rename_i ex
        cases e
        obtain ⟨b, us, rfl, e3, r3⟩ := see_lst rl2 r2 ex
        have := strs_rep r3 k1
        subst this
        exact ⟨w, b, ys, rfl, rfl, .inl (.of e3), k2, p _ _ _ _ _ s2 rl2 (.str _) k3⟩
      · rename_i ex
        cases e
        obtain ⟨b, us, rfl, e3, r3⟩ := see_tup r2 ex
        have := strs_rep r3 k1
        subst this
        exact ⟨w, b, ys, rfl, rfl, .inr e3.sq, k2, p _ _ _ _ _ s2 rl2 (.str _) k3⟩
      · cases e
def dSplit (b : Str) (to : TDE) : TDE := fun env st Q => to env st fun x st1 => match x with
  | .str a => a.length + 2 ≤ sizeLine ∧ Q (.lst ((Txt.split a b).map D.str)) st1
  | _ => False
theorem de_split {o : Expr} {to : TDE} {b : Str} {j : Nat} {apos pos p2 : Pos} (hb : (b.length == 0) = false) (ho : DE cA X o to) (hs : starEach [.Constant (.str b) j p2] X.env = [(false, eval (.Constant (.str b) j p2) X.env)] := by rfl) (hbase : attributeBase o "split" X.env (eval o X.env) = eval o X.env := by rfl) (hline : (apos.endLine == pos.line) = true := by rfl) :
    DE cA X (.Call (.Attribute o "split" apos) [.Constant (.str b) j p2] [] pos) (dSplit b to) :=
  pe_weak (pe_split ho pe_str hs hbase hline) fun σ H Q ⟨g, st, env, Qd, rl, en, h, p⟩ => ⟨g, st, env, _, rl, en, h, fun d st1 g1 H1 v s1 rl1 r1 h1 => by
    cases r1 with
    | str a => exact ⟨⟨a, rfl⟩, a, b, rfl, rfl, hb, h1.1, lay_lst rl1 (reps_strs _) (p.step s1) h1.2⟩
    | _ => exact h1.elim⟩

/-! ### dicts -/
def isDc (st : Sto) (d : D) : Prop := match look st d with
  | .dct _ => True
  | _ => False
/-- d.get(k, x) -/
def dGet2 (td ty tx : TDE) : TDE := fun env st Q => td env st fun x st1 => isDc st1 x ∧ ty env st1 fun y st2 => tx env st2 fun z st3 => match look st3 x with
  | .dct kd => ∃ key, keyOf y = some key ∧ Q ((getK kd key).getD z) st3
  | _ => False
theorem de_get2 {o e f : Expr} {td ty tx : TDE} {apos cpos : Pos} (hu : X.A.units + 1 < cLine) (ho : DE cA X o td) (he : DE cA X e ty) (hf : DE cA X f tx) (m : M2 X o "get" apos e f cpos := by exact ⟨rfl, rfl, rfl, rfl⟩) : DE cA X (.Call (.Attribute o "get" apos) [e, f] [] cpos) (dGet2 td ty tx) :=
  pe_weak (pe_dget2 hu ho he hf m) fun σ H Q ⟨g, st, env, Qd, rl, en, h, p⟩ => ⟨g, st, env, _, rl, en, h, fun d st1 g1 H1 v s1 rl1 r1 h1 => by
    obtain ⟨hd, h1⟩ := h1
    unfold isDc at hd
    split at hd
    · rename_i kd ex
      obtain ⟨a, kv, rfl, e1, _⟩ := see_dct rl1 r1 ex
      refine ⟨a, rfl, .inl ⟨kv, e1⟩, g1, st1, env, _, rl1, en.mono s1, h1, fun d2 st2 g2 H2 v2 s2 rl2 r2 h2 => ⟨g2, st2, env, _, rl2, (en.mono s1).mono s2, h2, fun d3 st3 g3 H3 v3 s3 rl3 r3 h3 => ?_⟩⟩
      have r13 := (r1.mono s2).mono s3
      have r23 := r2.mono s3
      split at h3
      · rename_i kd3 ex3
        obtain ⟨a', kv3, ea, e3, rs3⟩ := see_dct rl3 r13 ex3
        cases ea
        obtain ⟨key, k1, k2⟩ := h3
        cases key_rep r23 k1
        refine ⟨valV kv3 key, .inl ⟨kv3, key, e3, rfl, rfl⟩, ?_⟩
        obtain ⟨q1, q2⟩ := repK_get rs3 key
        cases hk : getK kd3 key with
        | some dd =>
          obtain ⟨vv, hv, rv⟩ := q1 dd hk
          rw [hv]
          rw [hk] at k2
          exact p _ _ _ _ _ ((s1.trans s2).trans s3) rl3 rv k2
        | none =>
          rw [q2 hk]
          rw [hk] at k2
          exact p _ _ _ _ _ ((s1.trans s2).trans s3) rl3 r3 k2
      · exact h3.elim
    · exact hd.elim⟩
/-- d[k] = v, the dict in a cell -/
def dPutS (td ty tv : TDE) : TDS := fun D' env st => tv env st fun v st1 => td env st1 fun x st2 => ty env st2 fun y st3 => match x with
  | .ref n => match st3 n with
    | some (.dct kd) => ∃ key, keyOf y = some key ∧ kd.length < sizeLine ∧ D'.nx env (sup st3 n (.dct (setK kd key v)))
    | _ => False
  | _ => False
theorem ds_put {o i value : Expr} {td ty tv : TDE} {pos pos' : Pos} (hu : X.A.units + 1 < cLine) (ho : DE cA X o td) (hi : DE cA X i ty) (hv : DE cA X value tv) (hs : swapsWith value (some (.Subscript o i pos')) pos.line X.env = pure false := by rfl) :
    DS cA X (.Assign [.Subscript o i pos'] value pos) (dPutS td ty tv) :=
  ps_weak (ps_dput hu ho hi hv hs) fun σ H Q ⟨g, st, env, Dd, rl, en, h, p⟩ => ⟨g, st, env, _, rl, en, h, fun d1 st1 g1 H1 v1 s1 rl1 r1 h1 => ⟨g1, st1, env, _, rl1, en.mono s1, h1, fun d2 st2 g2 H2 v2 s2 rl2 r2 h2 => ⟨g2, st2, env, _, rl2, (en.mono s1).mono s2, h2, fun d3 st3 g3 H3 v3 s3 rl3 r3 h3 => by
    have r13 := (r1.mono s2).mono s3
    have r23 := r2.mono s3
    split at h3
    · rename_i n
      split at h3
      · rename_i kd e
        obtain ⟨key, k1, k2, k3⟩ := h3
        cases r23 with
        | @ref a _ e1 =>
          obtain ⟨a', f1, f2, kv, f3, f4⟩ := rl3.cell _ _ e
          rw [e1] at f1; cases f1
          cases key_rep r3 k1
          obtain ⟨s, rl'⟩ := rl3.write (m' := .dct (setK kd key d1)) (o := .dK (putK kv key v1)) e e1 fun st' H' s' eH => ⟨_, by rw [eH]; exact upd_same, (repK_put f4 key r13).mono s'⟩
          refine ⟨a, _, rfl, DPut.k f3 (by rw [f4.length]; exact k2), ?_⟩
          exact p.nx _ _ _ _ _ (((s1.trans s2).trans s3).trans s) rl' ((((en.mono s1).mono s2).mono s3).mono s) k3
      · exact h3.elim
    · exact h3.elim⟩⟩⟩
end
end TL
namespace TL
open PySem PySem.Spec PyProof.Rows L2
section
variable {X : Cx} {cA : Nat → Addr}
theorem de_pow {a b : Expr} {pos : Pos} {ta tb : TDE} (ha : DE cA X a ta) (hb : DE cA X b tb) : DE cA X (.BinOp a .Pow b pos) (dOp (rdI CPow fun i j => .int (i ^ j.toNat)) ta tb) := de_op op_pow im_I ha hb

/-! ### dict displays -/
abbrev TDP := DSt → Sto → (List (Key × D) → Sto → Prop) → Prop
def dpNil : TDP := fun _ st Q => Q [] st
def dpCons (k : Key) (tv : TDE) (r : TDP) : TDP := fun env st Q => tv env st fun d st1 => r env st1 fun kd st2 => Q ((k, d) :: kd) st2
/-- the pairs of a display whose keys are constants -/
inductive DP (cA : Nat → Addr) (X : Cx) (pos : Pos) : List (Option Expr) → List Expr → List (TE × TE) → TDP → Prop
  | nil : DP cA X pos [] [] [] dpNil
  | str {k : Str} {j p} {v : Expr} {ks vs trs tv r} : DE cA X v tv → DP cA X pos ks vs trs r → DP cA X pos (some (.Constant (.str k) j p) :: ks) (v :: vs) ((tC (.str k), liftE (gx X cA) tv) :: trs) (dpCons (.inr k) tv r)
  | int {k : Int} {j p} {v : Expr} {ks vs trs tv r} : DE cA X v tv → DP cA X pos ks vs trs r → DP cA X pos (some (.Constant (.int k) j p) :: ks) (v :: vs) ((tC (.int k), liftE (gx X cA) tv) :: trs) (dpCons (.inl k) tv r)
theorem DP.pps {pos : Pos} : ∀ {ks : List (Option Expr)} {vs : List Expr} {trs : List (TE × TE)} {t : TDP}, DP cA X pos ks vs trs t → PPs X pos ks vs trs
  | _, _, _, _, .nil => pps_nil
  | _, _, _, _, .str h r => pps_cons pe_str h r.pps
  | _, _, _, _, .int h r => pps_cons pe_int h r.pps
theorem DP.run {pos : Pos} : ∀ {ks : List (Option Expr)} {vs : List Expr} {trs : List (TE × TE)} {t : TDP}, DP cA X pos ks vs trs t → ∀ {g : Gh} {st : Sto} {H : Hp} {σ : L2.St} {env : DSt} {Qd : List (Key × D) → Sto → Prop} {Q : List (V × V) → Hp → Prop},
    Rel (gx X cA) g st H → EnvR (gx X cA) g H σ env → t env st Qd → (∀ kd st' g' H' kv, Step g st H g' st' H' → Rel (gx X cA) g' st' H' → RepK (gx X cA) g' H' kv kd → Qd kd st' → Q (kv.map fun p => (kV p.1, p.2)) H') → tPairs trs σ H Q
  | _, _, _, _, .nil, g, st, H, σ, env, Qd, Q, rl, en, h, p => p _ _ _ _ [] (Step.refl g st H) rl .nil h
  | _, _, _, _, .str (k := k) hv r, g, st, H, σ, env, Qd, Q, rl, en, h, p => by
    show liftE _ _ σ H _
    exact ⟨g, st, env, _, rl, en, h, fun d st1 g1 H1 v s1 rl1 r1 h1 => r.run rl1 (en.mono s1) h1 fun kd st2 g2 H2 kv s2 rl2 r2 h2 => p _ _ _ _ ((.inr k, v) :: kv) (s1.trans s2) rl2 (.cons (r1.mono s2) r2) h2⟩
  | _, _, _, _, .int (k := k) hv r, g, st, H, σ, env, Qd, Q, rl, en, h, p => by
    show liftE _ _ σ H _
    exact ⟨g, st, env, _, rl, en, h, fun d st1 g1 H1 v s1 rl1 r1 h1 => r.run rl1 (en.mono s1) h1 fun kd st2 g2 H2 kv s2 rl2 r2 h2 => p _ _ _ _ ((.inl k, v) :: kv) (s1.trans s2) rl2 (.cons (r1.mono s2) r2) h2⟩
def foldK (acc : List (Key × D)) : List (Key × D) → List (Key × D)
  | [] => acc
  | (k, d) :: r => foldK (setK acc k d) r
theorem repK_merge {G : Gx} {g : Gh} {H : Hp} : ∀ {kv : List (Key × V)} {kd : List (Key × D)}, RepK G g H kv kd → ∀ {av : List (Key × V)} {ad : List (Key × D)}, RepK G g H av ad → RepK G g H (mergeK av kv) (foldK ad kd)
  | _, _, .nil, _, _, a => a
  | _, _, .cons r t, _, _, a => repK_merge t (repK_put a _ r)
def dDisp (t : TDP) : TDE := fun env st Q => t env st fun kd st1 => kd.length ≤ 15 ∧ Q (.dct (foldK [] kd)) st1
def dDispM (t : TDP) : TDE := fun env st Q => t env st fun kd st1 => kd.length ≤ 15 ∧ ∀ n, st1 n = none → Q (.ref n) (sup st1 n (.dct (foldK [] kd)))
/-- a hidden dict: shown as a cell -/
theorem disp_run {pos : Pos} {ks : List (Option Expr)} {vs : List Expr} {trs : List (TE × TE)} {t : TDP} (hD : DP cA X pos ks vs trs t) {g : Gh} {st : Sto} {H : Hp} {σ : L2.St} {env : DSt} {Qd : List (Key × D) → Sto → Prop} {Q : VK}
    (rl : Rel (gx X cA) g st H) (en : EnvR (gx X cA) g H σ env) (h : t env st fun kd st1 => kd.length ≤ 15 ∧ Qd kd st1)
    (p : ∀ kd st' g' H' n a, Step g st H g' (sup st' n (.dct (foldK [] kd))) H' → st' n = none → H a = none → Rel (gx X cA) g' (sup st' n (.dct (foldK [] kd))) H' → g'.rho n = some a → Qd kd st' → Q (.ref a) H') : tDisp trs σ H Q := by
  intro a ha
  obtain ⟨n, hn, hs⟩ := rl.fresh
  obtain ⟨s0, rl0⟩ := rl.cellNew (o := .dK []) ha hn (m := .dct []) fun g' st' s' => ⟨[], upd_same, .nil⟩
  have sb : Sub st (sup st n (.dct [])) := Sub.new hs
  have s1 : Step g st H (g.new n a) st (upd H a (.dK [])) := s0.sub sb
  have rl1 := rl0.sub sb
  have ow : (g.new n a).own a = some n := by simp [Gh.new]
  have rh : (g.new n a).rho n = some a := by simp [Gh.new]
  refine hD.run rl1 (en.mono s1) h fun kd st' g' H' kv s2 rl2 r2 ⟨h15, h2⟩ => ?_
  have nb : Nob (g.new n a) st a := fun k hk => by
    rw [ow] at hk; cases hk
    exact ⟨hs, a, rh⟩
  have eH : H' a = some (.dK []) := s2.ex a _ nb upd_same (.inr (by rw [ow]; exact fun z => nomatch z))
  have ow2 : g'.own a = some n := (s2.own a _ nb upd_same).trans ow
  have rh2 := s2.rho n a rh
  have hs2 := s2.hid n a rh hs
  refine ⟨eH, kv, rfl, by rw [r2.length]; exact h15, ?_⟩
  have s12 := s1.trans s2
  -- shown
  have shown : Rel (gx X cA) g' (sup st' n (.dct [])) H' := by
    refine ⟨fun k mk hk => ?_, rl2.own, ?_⟩
    · by_cases hkn : k = n
      · subst hkn
        rw [sup_same] at hk; cases hk
        exact ⟨a, rh2, ow2, [], eH, .nil⟩
      · rw [sup_ne hkn] at hk
        exact rl2.cell k mk hk
    · obtain ⟨N, hN⟩ := rl2.fin
      refine ⟨N, fun k hk => ⟨(hN k hk).1, ?_⟩⟩
      have : k ≠ n := by rintro rfl; rw [(hN k hk).1] at rh2; cases rh2
      rw [sup_ne this]; exact (hN k hk).2
  have sh : Step g st H g' (sup st' n (.dct [])) H' := ⟨s12.rho, fun k b e q => by
    have : k ≠ n := by rintro rfl; rw [hn] at e; cases e
    rw [sup_ne this]; exact s12.hid k b e q, s12.own, s12.ex, s12.dk⟩
  have mk := repK_merge r2 (G := gx X cA) (g := g') (H := H') .nil
  obtain ⟨s3, rl3⟩ := shown.write (m' := .dct (foldK [] kd)) (o := .dK (mergeK [] kv)) sup_same rh2 fun st'' H'' s' eH => ⟨_, by rw [eH]; exact upd_same, mk.mono s'⟩
  rw [sup_sup] at s3 rl3
  have st3 := sh.trans s3
  exact p kd st' g' _ n a st3 hs2 ha rl3 rh2 h2
theorem de_dispM {pos : Pos} {ks : List (Option Expr)} {vs : List Expr} {trs : List (TE × TE)} {t : TDP} (hD : DP cA X pos ks vs trs t) (hall : ks.all (·.isSome) = true := by rfl) (hl : ks.length = vs.length := by rfl) (h0 : ks ≠ [] := by exact fun z => nomatch z) (h15 : ks.length ≤ 15 := by decide) : DE cA X (.Dict ks vs pos) (dDispM t) :=
  pe_weak (pe_disp hD.pps hall hl h0 h15) fun σ H Q ⟨g, st, env, Qd, rl, en, h, p⟩ => disp_run hD (Qd := fun kd st1 => ∀ n, st1 n = none → Qd (.ref n) (sup st1 n (.dct (foldK [] kd)))) rl en h fun kd st' g' H' n a s hs _ rl' rh q => p _ _ _ _ _ s rl' (.ref rh) (q n hs)
theorem de_disp {pos : Pos} {ks : List (Option Expr)} {vs : List Expr} {trs : List (TE × TE)} {t : TDP} (hD : DP cA X pos ks vs trs t) (hall : ks.all (·.isSome) = true := by rfl) (hl : ks.length = vs.length := by rfl) (h0 : ks ≠ [] := by exact fun z => nomatch z) (h15 : ks.length ≤ 15 := by decide) : DE cA X (.Dict ks vs pos) (dDisp t) :=
  pe_weak (pe_disp hD.pps hall hl h0 h15) fun σ H Q ⟨g, st, env, Qd, rl, en, h, p⟩ => disp_run hD (Qd := fun kd st1 => Qd (.dct (foldK [] kd)) st1) rl en h fun kd st' g' H' n a s hs ha rl' rh q => by
    have z : frz (.ref n) (sup st' n (.dct (foldK [] kd))) Qd := by
      simp only [frz, sup_same, sdel_sup hs]; exact q
    exact frz_post rl' (.ref rh) z (p.step s)

/-! ### a dict of the module, all its keys texts -/
/-- the value of a constant: a tree in whatever heap -/
def CRep (K : PySem.W.Frag) (cA : Nat → Addr) (u : Value) (d : D) : Prop := ∃ v, RelV v u ∧ ∀ g H, Rep ⟨K, cA⟩ g H v d
def tabs (K : PySem.W.Frag) (cA : Nat → Addr) : List DictEntry → List (Str × D) → Prop
  | [], [] => True
  | e :: es, (x, d) :: r => (∃ t, e.key = .str x t) ∧ CRep K cA e.val d ∧ tabs K cA es r
  | _, _ => False
structure KTab (K : PySem.W.Frag) (cA : Nat → Addr) (w : World) (a : Addr) (kvs : List (Str × D)) : Prop where
  ex : ∃ es n, KDict K w a es n ∧ tabs K cA es.toList kvs
def getS : List (Str × D) → Str → Option D
  | [], _ => none
  | (x, d) :: r, z => if x = z then some d else getS r z
theorem tabs_find {K : PySem.W.Frag} {cA : Nat → Addr} {z : Str} : ∀ {es : List DictEntry} {kvs : List (Str × D)}, tabs K cA es kvs →
    (∀ d, getS kvs z = some d → ∃ u, (es.find? fun e => Value.isStrOf z e.key).map (·.val) = some u ∧ CRep K cA u d) ∧ (getS kvs z = none → (es.find? fun e => Value.isStrOf z e.key).map (·.val) = none)
  | [], [], _ => ⟨fun d h => by simp [getS] at h, fun _ => rfl⟩
  | [], _ :: _, h => h.elim
  | _ :: _, [], h => h.elim
  | e :: es, (x, d) :: r, ⟨⟨t, h1⟩, h2, h3⟩ => by
    obtain ⟨q1, q2⟩ := tabs_find (z := z) h3
    by_cases ex : x = z
    · subst ex
      have hi : Value.isStrOf x e.key = true := by rw [h1]; simp [Value.isStrOf]
      refine ⟨fun d' h => ?_, fun h => ?_⟩
      · simp [getS] at h
        subst h
        exact ⟨e.val, by simp [List.find?_cons, hi], h2⟩
      · simp [getS] at h
    · have hi : Value.isStrOf z e.key = false := by
        rw [h1]
        simp [Value.isStrOf]
        first | exact ex | exact fun q => ex q.symm
      refine ⟨fun d' h => ?_, fun h => ?_⟩
      · simp [getS, ex] at h
        simpa [List.find?_cons, hi] using q1 d' h
      · simp [getS, ex] at h
        simpa [List.find?_cons, hi] using q2 h
def dKGet (kvs : List (Str × D)) (ty tx : TDE) : TDE := fun env st Q => ty env st fun y st1 => tx env st1 fun z st2 => match y with
  | .str k => Q ((getS kvs k).getD z) st2
  | _ => False
theorem de_kget {x : Str} {e f : Expr} {ty tx : TDE} {p apos cpos : Pos} {a : Addr} {kvs : List (Str × D)} (T : KTab X.K cA X.w a kvs) (hg : Gl X x) (hm : X.mg x = some (.ref a)) (he : DE cA X e ty) (hf : DE cA X f tx) (hdb : (x == ("__debug__" : Str)) = false := by decide) (m : M2 X (.Name x p) "get" apos e f cpos := by exact ⟨rfl, rfl, rfl, rfl⟩) :
    DE cA X (.Call (.Attribute (.Name x p) "get" apos) [e, f] [] cpos) (dKGet kvs ty tx) := by
  obtain ⟨es, n, D, tb⟩ := T.ex
  refine ⟨fun pins s σ H Q I ⟨g, st, env, Qd, rl, en, h, p⟩ => ?_⟩
  refine wpAny_Call_method m.base m.few m.line PySem.F.plainAttrs_dict PySem.F.slot_dict_get PySem.F.type_dict_get (ld_glob I hg hm ?_ hdb)
  have mo := PySem.W.mapOf_K (prog := X.prog) (w := X.w) I.kIn D.at_ D.lit
  refine ⟨mo.typeIs, fun b q => ?_, ?_⟩
  · cases q
    exact ⟨_, I.kIn _ _ D.at_, rfl⟩
  rw [m.trees]
  refine Calls.callWith_builtin rfl (Calls.evalArgs_plain (Calls.spliced_cons (thn (he.run pins s σ H (fun v1 H1 => liftE (gx X cA) tx σ H1 fun v2 H2 => ∃ k, v1 = .str k ∧ ((∃ u v3, findBy Value.isStrOf es k = some u ∧ RelV v3 u ∧ Q v3 H2) ∨ (findBy Value.isStrOf es k = none ∧ Q v2 H2))) I ⟨g, st, env, _, rl, en, h, fun d1 st1 g1 H1 v1 s1 rl1 r1 h1 => ⟨g1, st1, env, _, rl1, en.mono s1, h1, fun d2 st2 g2 H2 v2 s2 rl2 r2 h2 => ?_⟩⟩) fun iv s2 ⟨y, H2, I2, ry, q2⟩ =>
    Calls.spliced_cons (thn (hf.run pins s2 σ H2 _ I2 q2) fun fv s3 ⟨z, H3, I3, rz, k, ey, q3⟩ => Calls.spliced_nil ?_))))
  · cases r1 with
    | str k =>
      refine ⟨k, rfl, ?_⟩
      obtain ⟨t1, t2⟩ := tabs_find (z := k) tb
      have hf : findBy Value.isStrOf es k = (es.toList.find? fun e => Value.isStrOf k e.key).map (·.val) := by
        obtain ⟨l⟩ := es
        unfold findBy
        rw [List.find?_toArray]
      rw [hf]
      cases hk : getS kvs k with
      | some dd =>
        obtain ⟨u, hu, v3, rv, rr⟩ := t1 dd hk
        have h2 : Qd ((getS kvs k).getD d2) st2 := h2
        rw [hk] at h2
        exact .inl ⟨u, v3, hu, rv, p _ _ _ _ _ (s1.trans s2) rl2 (rr _ _) h2⟩
      | none =>
        have h2 : Qd ((getS kvs k).getD d2) st2 := h2
        rw [hk] at h2
        exact .inr ⟨t2 hk, p _ _ _ _ _ (s1.trans s2) rl2 r2 h2⟩
    | _ => exact h2.elim
  · subst ey
    obtain ⟨t, rfl⟩ := (show ∃ t, iv = Value.str k t from ry)
    have mo3 := PySem.W.mapOf_K (prog := X.prog) (w := X.w) I3.kIn D.at_ D.lit
    refine call_meetsIn PySem.F.slot_dict_get mo3.typeIs PySem.F.entry_dict_get (PySem.F.args_dict_get_3 _ _ _) (meets_dict_get_default (strKind X.prog X.w) a (strKind_is X.prog X.w k t) D.low fv) ⟨_, mo3, ?_⟩
    rcases q3 with ⟨u, v3, e1, rv, q⟩ | ⟨e1, q⟩
    · rw [e1]; exact ⟨v3, H3, I3.tok _, rv, q⟩
    · rw [e1]; exact ⟨z, H3, I3.tok _, rz, q⟩

/-! ### boxes: opened at a call, closed behind it -/
def boxD (m : Nat) (now seed turn : Int) : MO := .dct [(.inr "great", .ref m), (.inr "now", .int now), (.inr "seed", .int seed), (.inr "turn", .int turn)]
theorem ints_reps {G : Gx} {g : Gh} {H : Hp} : ∀ ns : List Int, Reps G g H (ns.map V.int) (ns.map D.int)
  | [] => .nil
  | n :: r => .cons (.int n) (ints_reps r)
theorem ints_back {G : Gx} {g : Gh} {H : Hp} : ∀ {vs : List V} {ns : List Int}, Reps G g H vs (ns.map D.int) → vs = ns.map V.int
  | _, [], .nil => rfl
  | _, n :: r, .cons (.int _) t => by rw [ints_back t]; rfl
/-- the box n opened: its list the cell m -/
theorem Rel.openB {G : Gx} {g : Gh} {st : Sto} {H : Hp} (rl : Rel G g st H) {n : Nat} (h : st n = some .box) : ∃ (m : Nat) (g' : Gh) (gs : List Int) (now seed turn : Int), st m = none ∧ m ≠ n ∧ Rel G g' (sup (sup st n (boxD m now seed turn)) m (.lst (gs.map D.int))) H ∧
    (∀ v d, Rep G g H v d → Rep G g' H v d) ∧
    ∀ (gs2 : List Int) (now2 seed2 turn2 : Int) (g2 : Gh) (H2 : Hp) (st2 : Sto), st2 n = some (boxD m now2 seed2 turn2) → st2 m = some (.lst (gs2.map D.int)) → Step g' (sup (sup st n (boxD m now seed turn)) m (.lst (gs.map D.int))) H g2 st2 H2 → Rel G g2 st2 H2 →
      ∃ g3, Step g st H g3 (sdel (sup st2 n .box) m) H2 ∧ Rel G g3 (sdel (sup st2 n .box) m) H2 ∧ ∀ v d, Rep G g2 H2 v d → Rep G g3 H2 v d := by
  obtain ⟨a, ra, oa, b, gs, now, seed, turn, e1, e2, ob, nba⟩ := rl.cell n _ h
  obtain ⟨m, hm, hs⟩ := rl.fresh
  have hmn : m ≠ n := by rintro rfl; rw [hs] at h; cases h
  let g' : Gh := ⟨fun k => if k = m then some b else g.rho k, fun c => if c = b then some m else g.own c⟩
  have grm : g'.rho m = some b := by simp [g']
  have gr : ∀ k, k ≠ m → g'.rho k = g.rho k := fun k q => by simp [g', q]
  have gob : g'.own b = some m := by simp [g']
  have go : ∀ c, c ≠ b → g'.own c = g.own c := fun c q => by simp [g', q]
  let st' : Sto := sup (sup st n (boxD m now seed turn)) m (.lst (gs.map D.int))
  have sm : st' m = some (.lst (gs.map D.int)) := sup_same
  have sn : st' n = some (boxD m now seed turn) := by show sup _ m _ n = _; rw [sup_ne (Ne.symm hmn), sup_same]
  have so : ∀ k, k ≠ m → k ≠ n → st' k = st k := fun k q1 q2 => by show sup _ m _ k = _; rw [sup_ne q1, sup_ne q2]
  have s1 : Step g st H g' st' H := by
    refine ⟨fun k c e => ?_, fun k c e q => ?_, fun c o w e => ?_, fun c o _ e _ => e, fun c kv _ r => r⟩
    · rw [gr k (by rintro rfl; rw [hm] at e; cases e)]; exact e
    · rw [so k (by rintro rfl; rw [hm] at e; cases e) (by rintro rfl; rw [h] at q; cases q)]; exact q
    · exact go c (by rintro rfl; have := (w n ob).1; rw [h] at this; cases this)
  refine ⟨m, g', gs, now, seed, turn, hs, hmn, ⟨fun k mk hk => ?_, fun c k e => ?_, ?_⟩, fun v d r => r.mono s1, ?_⟩
  · by_cases k1 : k = m
    · subst k1
      rw [show sup (sup st n (boxD k now seed turn)) k (.lst (gs.map D.int)) k = _ from sm] at hk
      cases hk
      exact ⟨b, grm, gob, _, e2, ints_reps gs⟩
    · by_cases k2 : k = n
      · subst k2
        rw [show sup (sup st k (boxD m now seed turn)) m (.lst (gs.map D.int)) k = _ from sn] at hk
        cases hk
        exact ⟨a, by rw [gr k k1]; exact ra, by rw [go a (Ne.symm nba)]; exact oa, _, e1, .cons (.ref grm) (.cons (.int _) (.cons (.int _) (.cons (.int _) .nil)))⟩
      · rw [show sup (sup st n (boxD m now seed turn)) m (.lst (gs.map D.int)) k = _ from so k k1 k2] at hk
        obtain ⟨c, f1, f2, f3⟩ := rl.cell k mk hk
        have nb : ∀ c, g.own c = some k → c ≠ b := fun c hc => by rintro rfl; rw [ob] at hc; exact k2 (Option.some.inj hc).symm
        exact ⟨c, by rw [gr k k1]; exact f1, by rw [go c (nb c f2)]; exact f2, f3.mono s1 (fun _ _ => rfl) (fun c hc => by rw [go c (nb c hc)]; exact hc) f2⟩
  · by_cases hc : c = b
    · subst hc
      rw [gob] at e; cases e
      exact ⟨⟨_, e2⟩, c, grm⟩
    · rw [go c hc] at e
      obtain ⟨q1, d, q2⟩ := rl.own c k e
      exact ⟨q1, d, by rw [gr k (by rintro rfl; rw [hm] at q2; cases q2)]; exact q2⟩
  · obtain ⟨N, hN⟩ := rl.fin
    refine ⟨max N (m + 1), fun k hk => ?_⟩
    have h1 : N ≤ k := by omega
    have h2 : k ≠ m := by omega
    have h3 : k ≠ n := by rintro rfl; rw [(hN k h1).2] at h; cases h
    exact ⟨by rw [gr k h2]; exact (hN k h1).1, by rw [show sup (sup st n (boxD m now seed turn)) m (.lst (gs.map D.int)) k = _ from so k h2 h3]; exact (hN k h1).2⟩
  · intro gs2 now2 seed2 turn2 g2 H2 st2 t1 t2 s2 rl2
    have r2m : g2.rho m = some b := s2.rho m b grm
    obtain ⟨b', x1, x2, vs, x3, x4⟩ := rl2.cell m _ t2
    rw [r2m] at x1; cases x1
    cases ints_back x4
    obtain ⟨a2, y1, y2, kv, y3, y4⟩ := rl2.cell n _ t1
    let g3 : Gh := ⟨g2.rho, fun c => if c = b then some n else g2.own c⟩
    have g3b : g3.own b = some n := by simp [g3]
    have g3o : ∀ c, c ≠ b → g3.own c = g2.own c := fun c q => by simp [g3, q]
    have ab : a2 ≠ b := by rintro rfl; rw [x2] at y2; exact hmn (Option.some.inj y2)
    have s3 : Step g2 st2 H2 g3 (sdel (sup st2 n .box) m) H2 := by
      refine ⟨fun k c e => e, fun k c e q => ?_, fun c o w e => ?_, fun c o _ e _ => e, fun c kv _ r => r⟩
      · have k1 : k ≠ n := by rintro rfl; rw [t1] at q; cases q
        by_cases k2 : k = m
        · subst k2; exact sdel_same
        · rw [sdel_ne k2, sup_ne k1]; exact q
      · exact g3o c (by rintro rfl; have := (w m x2).1; rw [t2] at this; cases this)
    refine ⟨g3, (s1.trans s2).trans s3, ⟨fun k mk hk => ?_, fun c k e => ?_, ?_⟩, fun v d r => r.mono s3⟩
    · have k1 : k ≠ m := by rintro rfl; rw [sdel_same] at hk; cases hk
      rw [sdel_ne k1] at hk
      by_cases k2 : k = n
      · subst k2
        rw [sup_same] at hk; cases hk
        refine ⟨a2, y1, by rw [g3o a2 ab]; exact y2, b, gs2, now2, seed2, turn2, ?_, x3, g3b, Ne.symm ab⟩
        cases y4 with
        | cons q1 y4 =>
        cases y4 with
        | cons q2 y4 =>
        cases y4 with
        | cons q3 y4 =>
        cases y4 with
        | cons q4 y4 =>
        cases y4
        cases q2; cases q3; cases q4
        cases q1 with
        | ref q1 => rw [r2m] at q1; cases q1; exact y3
      · rw [sup_ne k2] at hk
        obtain ⟨c, f1, f2, f3⟩ := rl2.cell k mk hk
        have nb : ∀ c, g2.own c = some k → c ≠ b := fun c hc => by rintro rfl; rw [x2] at hc; exact k1 (Option.some.inj hc).symm
        exact ⟨c, f1, by rw [g3o c (nb c f2)]; exact f2, f3.mono s3 (fun _ _ => rfl) (fun c hc => by rw [g3o c (nb c hc)]; exact hc) f2⟩
    · by_cases hc : c = b
      · subst hc
        rw [g3b] at e; cases e
        exact ⟨⟨_, x3⟩, a2, y1⟩
      · rw [g3o c hc] at e
        exact rl2.own c k e
    · obtain ⟨N, hN⟩ := rl2.fin
      refine ⟨N, fun k hk => ⟨(hN k hk).1, ?_⟩⟩
      have k1 : k ≠ m := by rintro rfl; rw [(hN k hk).2] at t2; cases t2
      have k2 : k ≠ n := by rintro rfl; rw [(hN k hk).2] at t1; cases t1
      rw [sdel_ne k1, sup_ne k2]; exact (hN k hk).2
end
/-- what _law_take does, the box open -/
def spTakeO : DSp := fun ds st Q _ => ∃ (n m : Nat) (gs : List Int) (now seed turn many : Int), ds = [.ref n, .int many] ∧ 0 < many ∧ many < 1073741824 ∧ m ≠ n ∧ st n = some (boxD m now seed turn) ∧ st m = some (.lst (gs.map D.int)) ∧
  ∀ (r : Int) (gs' : List Int) (now' seed' turn' : Int), 0 ≤ r → r < many → Q (.int r) (sup (sup st m (.lst (gs'.map D.int))) n (boxD m now' seed' turn'))
/-- .. closed: any digit may come, the store is as it was -/
def spTake : DSp := fun ds st Q _ => ∃ n many, ds = [.ref n, .int many] ∧ 0 < many ∧ many < 1073741824 ∧ st n = some .box ∧ ∀ r, 0 ≤ r → r < many → Q (.int r) st
theorem take_closed {cA : Nat → Addr} {P : Program} {w : World} {K : PySem.W.Frag} {mg : Str → Option Value} {base : Heap} {k : Nat} {f : Addr} {fd : FuncData} {ps : List Str} (hl : ps.length = 2) (F : FnT cA P w K mg base k f fd ps spTakeO) : FnT cA P w K mg base k f fd ps spTake := by
  refine ⟨fun ds st Q E ⟨n, many, e, _⟩ => by rw [e, hl]; rfl, fun A outer s H args us vs Q hr hg e0 hb hv ⟨g, st, ds, Qd, rl, rs, hs, p⟩ => ?_⟩
  obtain ⟨n, many, rfl, h1, h2, h3, h4⟩ := hs
  obtain ⟨m, g', gs, now, seed, turn, q1, q2, rl', rp, back⟩ := rl.openB h3
  refine F.run A outer s H args us vs Q hr hg e0 hb hv ⟨g', _, [.ref n, .int many], fun d st2 => ∃ (r : Int) (gs2 : List Int) (now2 seed2 turn2 : Int), d = .int r ∧ 0 ≤ r ∧ r < many ∧ st2 n = some (boxD m now2 seed2 turn2) ∧ st2 m = some (.lst (gs2.map D.int)) ∧ sdel (sup st2 n .box) m = st, rl', ?_, ?_, ?_⟩
  · cases rs with
    | cons r1 t => cases t with
      | cons r2 t => cases t; exact .cons (rp _ _ r1) (.cons (rp _ _ r2) .nil)
  · refine ⟨n, m, gs, now, seed, turn, many, rfl, h1, h2, q2, by rw [sup_ne (Ne.symm q2), sup_same], sup_same, fun r gs' now' seed' turn' r1 r2 => ⟨r, gs', now', seed', turn', rfl, r1, r2, sup_same, by rw [sup_ne q2, sup_same], ?_⟩⟩
    funext k
    by_cases k1 : k = m
    · subst k1; rw [sdel_same, q1]
    · rw [sdel_ne k1]
      by_cases k2 : k = n
      · subst k2; rw [sup_same, h3]
      · rw [sup_ne k2, sup_ne k2, sup_ne k1, sup_ne k1, sup_ne k2]
  · rintro d st2 g2 H2 v s2 rl2 rv ⟨r, gs2, now2, seed2, turn2, rfl, r1, r2, e1, e2, e3⟩
    obtain ⟨g3, s3, rl3, rp3⟩ := back _ _ _ _ _ _ _ e1 e2 s2 rl2
    rw [e3] at s3 rl3
    exact p _ _ _ _ _ s3 rl3 (rp3 _ _ rv) (h4 r r1 r2)
/-- a box is made of a dict cell and a list cell -/
theorem Rel.closeB {G : Gx} {g : Gh} {st : Sto} {H : Hp} (rl : Rel G g st H) {n m : Nat} {gs : List Int} {now seed turn : Int} (hmn : m ≠ n) (t1 : st n = some (boxD m now seed turn)) (t2 : st m = some (.lst (gs.map D.int))) :
    ∃ g3, Step g st H g3 (sdel (sup st n .box) m) H ∧ Rel G g3 (sdel (sup st n .box) m) H := by
  obtain ⟨b, r2m, x2, vs, x3, x4⟩ := rl.cell m _ t2
  cases ints_back x4
  obtain ⟨a2, y1, y2, kv, y3, y4⟩ := rl.cell n _ t1
  let g3 : Gh := ⟨g.rho, fun c => if c = b then some n else g.own c⟩
  have g3b : g3.own b = some n := by simp [g3]
  have g3o : ∀ c, c ≠ b → g3.own c = g.own c := fun c q => by simp [g3, q]
  have ab : a2 ≠ b := by rintro rfl; rw [x2] at y2; exact hmn (Option.some.inj y2)
  have s3 : Step g st H g3 (sdel (sup st n .box) m) H := by
    refine ⟨fun k c e => e, fun k c e q => ?_, fun c o w e => ?_, fun c o _ e _ => e, fun c kv _ r => r⟩
    · have k1 : k ≠ n := by rintro rfl; rw [t1] at q; cases q
      by_cases k2 : k = m
      · subst k2; exact sdel_same
      · rw [sdel_ne k2, sup_ne k1]; exact q
    · exact g3o c (by rintro rfl; have := (w m x2).1; rw [t2] at this; cases this)
  refine ⟨g3, s3, ⟨fun k mk hk => ?_, fun c k e => ?_, ?_⟩⟩
  · have k1 : k ≠ m := by rintro rfl; rw [sdel_same] at hk; cases hk
    rw [sdel_ne k1] at hk
    by_cases k2 : k = n
    · subst k2
      rw [sup_same] at hk; cases hk
      refine ⟨a2, y1, by rw [g3o a2 ab]; exact y2, b, gs, now, seed, turn, ?_, x3, g3b, Ne.symm ab⟩
      cases y4 with
      | cons q1 y4 =>
      cases y4 with
      | cons q2 y4 =>
      cases y4 with
      | cons q3 y4 =>
      cases y4 with
      | cons q4 y4 =>
      cases y4
      cases q2; cases q3; cases q4
      cases q1 with
      | ref q1 => rw [r2m] at q1; cases q1; exact y3
    · rw [sup_ne k2] at hk
      obtain ⟨c, f1, f2, f3⟩ := rl.cell k mk hk
      have nb : ∀ c, g.own c = some k → c ≠ b := fun c hc => by rintro rfl; rw [x2] at hc; exact k1 (Option.some.inj hc).symm
      exact ⟨c, f1, by rw [g3o c (nb c f2)]; exact f2, f3.mono s3 (fun _ _ => rfl) (fun c hc => by rw [g3o c (nb c hc)]; exact hc) f2⟩
  · by_cases hc : c = b
    · subst hc
      rw [g3b] at e; cases e
      exact ⟨⟨_, x3⟩, a2, y1⟩
    · rw [g3o c hc] at e
      exact rl.own c k e
  · obtain ⟨N, hN⟩ := rl.fin
    refine ⟨N, fun k hk => ⟨(hN k hk).1, ?_⟩⟩
    have k1 : k ≠ m := by rintro rfl; rw [(hN k hk).2] at t2; cases t2
    have k2 : k ≠ n := by rintro rfl; rw [(hN k hk).2] at t1; cases t1
    rw [sdel_ne k1, sup_ne k2]; exact (hN k hk).2
/-- what _law_box does, ahead of the closing -/
def spBoxO : DSp := fun ds st Q _ => ∃ ns base, ds = [.scr ns, .int base] ∧ 0 ≤ base ∧ base ≤ 100 ∧ ∀ (n m : Nat) (gs : List Int) (now seed turn : Int), st n = none → st m = none → m ≠ n → Q (.ref n) (sup (sup st m (.lst (gs.map D.int))) n (boxD m now seed turn))
def spBox : DSp := fun ds st Q _ => ∃ ns base, ds = [.scr ns, .int base] ∧ 0 ≤ base ∧ base ≤ 100 ∧ ∀ n, st n = none → Q (.ref n) (sup st n .box)
theorem box_closed {cA : Nat → Addr} {P : Program} {w : World} {K : PySem.W.Frag} {mg : Str → Option Value} {base : Heap} {k : Nat} {f : Addr} {fd : FuncData} {ps : List Str} (hl : ps.length = 2) (F : FnT cA P w K mg base k f fd ps spBoxO) : FnT cA P w K mg base k f fd ps spBox := by
  refine ⟨fun ds st Q E ⟨n, many, e, _⟩ => by rw [e, hl]; rfl, fun A outer s H args us vs Q hr hg e0 hb hv ⟨g, st, ds, Qd, rl, rs, hs, p⟩ => ?_⟩
  obtain ⟨ns, b0, rfl, h1, h2, h4⟩ := hs
  refine F.run A outer s H args us vs Q hr hg e0 hb hv ⟨g, st, _, fun d st2 => ∃ (n m : Nat) (gs : List Int) (now seed turn : Int), d = .ref n ∧ st n = none ∧ st m = none ∧ m ≠ n ∧ st2 = sup (sup st m (.lst (gs.map D.int))) n (boxD m now seed turn), rl, rs, ⟨ns, b0, rfl, h1, h2, fun n m gs now seed turn e1 e2 e3 => ⟨n, m, gs, now, seed, turn, rfl, e1, e2, e3, rfl⟩⟩, ?_⟩
  rintro d st2 g2 H2 v s2 rl2 rv ⟨n, m, gs, now, seed, turn, rfl, e1, e2, e3, rfl⟩
  obtain ⟨g3, s3, rl3⟩ := rl2.closeB (n := n) (m := m) (gs := gs) e3 sup_same (by rw [sup_ne e3, sup_same])
  have e : sdel (sup (sup (sup st m (.lst (gs.map D.int))) n (boxD m now seed turn)) n .box) m = sup st n .box := by
    funext k
    by_cases k1 : k = m
    · subst k1; rw [sdel_same, sup_ne e3, e2]
    · rw [sdel_ne k1]
      by_cases k2 : k = n
      · subst k2; rw [sup_same, sup_same]
      · rw [sup_ne k2, sup_ne k2, sup_ne k1, sup_ne k2]
  rw [e] at s3 rl3
  exact p _ _ _ _ _ (s2.trans s3) rl3 (rv.mono s3) (h4 n e1)
end TL
namespace TL
open PySem PySem.Spec PyProof.Rows L2
/-! ### a def as the top has written it; a def with its promise -/
structure FnW (K : PySem.W.Frag) (mg : Str → Option Value) (x : Str) (st : Stmt) (ps : List Str) : Prop where
  ex : ∃ (f : Addr) (fd : FuncData), Fun K x x st f fd ∧ mg x = some (.ref f) ∧ ∀ us : List Value, us.length = ps.length → bindArgs fd ⟨us, []⟩ = pure (ps.zip us)
structure Cal (cA : Nat → Addr) (P : Program) (w : World) (K : PySem.W.Frag) (mg : Str → Option Value) (base : Heap) (k : Nat) (x : Str) (ps : List Str) (sp : DSp) : Prop where
  ex : ∃ (f : Addr) (fd : FuncData), FnT cA P w K mg base k f fd ps sp ∧ mg x = some (.ref f) ∧ PySem.W.keepIn K (.ref f) = true ∧ Binds K fd ps []
section
variable {cA : Nat → Addr} {P : Program} {w : World} {K : PySem.W.Frag} {mg : Str → Option Value} {base h : Heap}
theorem fnw_mk {x : Str} {st : Stmt} {ps : List Str} {f : Addr} {oc : Value} {od an : Option Addr} {osl : Array (Option Value)} {kV doc pm cdv ct : Value} (X : K.In h) (G : h.Ns mainGlobals mg) (a : PySem.W.nsIn K mainGlobals x = some (some (.ref f)))
    (l : K.lookup f = some ⟨oc, od, .func (PySem.W.fnOf x x (defArgs st) (defBody st) (defScope st) .none kV doc pm an cdv ct), osl⟩) (c : PySem.W.codeIn K cdv x = true) (k : PySem.W.keepIn K (.ref f) = true)
    (hb : ∀ (kV doc pm : Value) (an : Option Addr) (cdv ct : Value) (us : List Value), us.length = ps.length → bindArgs (PySem.W.fnOf x x (defArgs st) (defBody st) (defScope st) .none kV doc pm an cdv ct) ⟨us, []⟩ = pure (ps.zip us)) : FnW K mg x st ps :=
  ⟨f, _, fun_mk l c k, PySem.W.mg_of X G a, hb kV doc pm an cdv ct⟩
theorem Cal.mono {j k : Nat} {x : Str} {ps : List Str} {sp : DSp} (C : Cal cA P w K mg base j x ps sp) (h : j ≤ k) : Cal cA P w K mg base k x ps sp := let ⟨f, fd, a, b⟩ := C.ex; ⟨f, fd, a.mono h, b⟩
theorem Cal.imp {k : Nat} {x : Str} {ps : List Str} {sp sp' : DSp} (C : Cal cA P w K mg base k x ps sp) (h : ∀ ds st Q E, sp' ds st Q E → sp ds st Q E) : Cal cA P w K mg base k x ps sp' := let ⟨f, fd, a, b⟩ := C.ex; ⟨f, fd, a.imp h, b⟩
theorem Cal.take {k : Nat} {x : Str} {ps : List Str} (C : Cal cA P w K mg base k x ps spTakeO) (hl : ps.length = 2) : Cal cA P w K mg base k x ps spTake := let ⟨f, fd, a, b⟩ := C.ex; ⟨f, fd, take_closed hl a, b⟩
theorem Cal.box {k : Nat} {x : Str} {ps : List Str} (C : Cal cA P w K mg base k x ps spBoxO) (hl : ps.length = 2) : Cal cA P w K mg base k x ps spBox := let ⟨f, fd, a, b⟩ := C.ex; ⟨f, fd, box_closed hl a, b⟩
/-- a def's body as a term -/
abbrev BodyD (cA : Nat → Addr) (P : Program) (w : World) (K : PySem.W.Frag) (mg : Str → Option Value) (base : Heap) (k : Nat) (x : Str) (st : Stmt) (N : List Str) (tb : TDS) : Prop :=
  ∀ (f : Addr) (cdv : Value) (A : Around) (outer : List Env) (s : Shared) (H : Hp), Room k (A.deeper (envOfC x (defScope st) s.heap.objs.size f cdv)) → (A.deeper (envOfC x (defScope st) s.heap.objs.size f cdv)).guards = some [] →
    DSs cA (cxOf CX0 P w K mg base N x (defScope st) f cdv A outer s H E0).nox (defBody st) tb
theorem FnW.cal {k : Nat} {x : Str} {st : Stmt} {N ps : List Str} {sp : DSp} {tb : TDS} (W : FnW K mg x st ps) (S : FnScope N ps (defScope st)) (len : ∀ ds st Q E, sp ds st Q E → ds.length = ps.length) (hd : BodyD cA P w K mg base k x st N tb)
    (hb : ∀ ds s0 Q, sp ds s0 Q (fun _ _ _ => False) → tb (ends Q) (startD N ds) s0) : Cal cA P w K mg base (k + 1) x ps sp := by
  obtain ⟨f, fd, F, hm, hbd⟩ := W.ex
  exact ⟨f, fd, fn F S len (fun cdv A outer s H hr hg => hd f cdv A outer s H hr hg) hb, hm, F.kp, .all hbd⟩
end
section
variable {X : Cx} {cA : Nat → Addr} {k : Nat} {ps : List Str} {sp : DSp} {x : Str} {p pos : Pos} {e : Expr} {es : List Expr} {t : TDA}
theorem dc_call (C : Cal cA X.prog X.w X.K X.mg X.base k x ps sp) (hr : Room k X.A) (hgd : X.A.guards = some []) (hg : Gl X x)
    (ha : DA cA X (e :: es) t) (hdb : (x == ("__debug__" : Str)) = false := by decide) (he : starEach (e :: es) X.env = (false, eval e X.env) :: starEach es X.env := by rfl) (hpl : (backTo pos (starEach es X.env)).any (·.1) = false := by rfl) :
    DE cA X (.Call (.Name x p) (e :: es) [] pos) (dCall sp t) := by
  obtain ⟨f, fd, F, hm, hk, hb⟩ := C.ex
  exact dt_call F hr hgd hg hm hk hb ha hdb he hpl
theorem dc_call0 (C : Cal cA X.prog X.w X.K X.mg X.base k x ps sp) (hr : Room k X.A) (hgd : X.A.guards = some []) (hg : Gl X x) (hdb : (x == ("__debug__" : Str)) = false := by decide) : DE cA X (.Call (.Name x p) [] [] pos) (dCall sp dNil) := by
  obtain ⟨f, fd, F, hm, hk, hb⟩ := C.ex
  exact dt_call0 F hr hgd hg hm hk hb hdb
end
section
variable {X : Cx} {cA : Nat → Addr}
def rdRevM : RD1 := fun x st Q => match look st x with
  | .lst ds => ∀ n, st n = none → Q (.ref n) (sup st n (.lst ds.reverse))
  | _ => False
theorem de_revM {e : Expr} {te : TDE} {k : Nat} {p1 p2 p3 pos : Pos} (he : DE cA X e te) : DE cA X (.Subscript e (.Slice none none (some (.UnaryOp .USub (.Constant (.int 1) k p1) p2)) p3) pos) (dUn rdRevM te) :=
  pe_weak (pe_revL he) fun σ H Q ⟨g, st, env, Qd, rl, en, h, p⟩ => ⟨g, st, env, _, rl, en, h, fun d st1 g1 H1 v s1 rl1 r1 h1 => by
    unfold rdRevM at h1
    split at h1
    · rename_i ds ex
      obtain ⟨a, vs, rfl, e1, rs⟩ := see_lst rl1 r1 ex
      exact ⟨a, vs, rfl, .of e1, lay_cell rl1 rs.reverse (p.step s1) h1⟩
    · exact h1.elim⟩
def rdSub : RD2 := rdI (fun _ _ => True) fun i j => .int (i - j)
def rdFdiv : RD2 := rdI CDiv fun i j => .int (i / j)
def rdMod : RD2 := rdI (fun _ j => 0 < j) fun i j => .int (i % j)
def rdPow : RD2 := rdI CPow fun i j => .int (i ^ j.toNat)
def rdLt : RD2 := rdI (fun _ _ => True) fun i j => .bl (decide (i < j))
def rdLe : RD2 := rdI (fun _ _ => True) fun i j => .bl (decide (i ≤ j))
def rdGt : RD2 := rdI (fun _ _ => True) fun i j => .bl (decide (j < i))
def rdGe : RD2 := rdI (fun _ _ => True) fun i j => .bl (decide (j ≤ i))
def rdAbs : List D → Sto → QD → Prop := rdI1 fun i => if i < 0 then -i else i
def rdMax : List D → Sto → QD → Prop := rdI2 fun i j => if j > i then j else i
def rdMin : List D → Sto → QD → Prop := rdI2 fun i j => if j < i then j else i
theorem hu1 {A : Around} {k : Nat} (hr : Room k A) : A.units + 1 < cLine := by have := hr.un; omega
theorem hu64 {A : Around} {k : Nat} (hr : Room k A) : A.units + 64 < cLine := by have := hr.un; omega
theorem hu65 {A : Around} {k : Nat} (hr : Room k A) : A.units + 65 < cLine := by have := hr.un; omega
theorem hu70 {A : Around} {k : Nat} (hr : Room k A) : A.units + 70 < cLine := by have := hr.un; omega
end
end TL
namespace TL
open PySem PySem.Spec PyProof.Rows L2
section
variable {cA : Nat → Addr} {P : Program} {w : World} {K : PySem.W.Frag} {mg : Str → Option Value} {base h : Heap}
/-- a promise that is never asked for -/
theorem FnW.bot {x : Str} {st : Stmt} {ps : List Str} (W : FnW K mg x st ps) : Cal cA P w K mg base 0 x ps (fun _ _ _ _ => False) := by
  obtain ⟨f, fd, F, hm, hbd⟩ := W.ex
  exact ⟨f, fd, ⟨fun _ _ _ _ h => h.elim, fun A outer s H args us vs Q hr hg e0 hb hv ⟨_, _, _, _, _, _, h, _⟩ => h.elim⟩, hm, F.kp, .all hbd⟩
theorem law_fin {k : Nat} {N : List Str} {x : Str} {st : Stmt} {sp : DSp} {tb : TDS} {fa : Addr} (W : FnW K mg "law" st [x]) (hfa : mg "law" = some (.ref fa)) (S : FnScope N [x] (defScope st)) (len : ∀ ds st Q E, sp ds st Q E → ds.length = [x].length)
    (hd : ∀ base, BodyD cA P w K mg base k "law" st N tb) (hb : ∀ ds s0 Q, sp ds s0 Q (fun _ _ _ => False) → tb (ends Q) (startD N ds) s0) :
    ∃ (fd : FuncData) (cA : Nat → Addr), (∀ (s : Shared) (u : Value), BindsTo s fd ⟨[u], []⟩ [(x, u)]) ∧ ∀ base : Heap, K.In base → base.Ns mainGlobals mg → FnT cA P w K mg base (k + 1) fa fd [x] sp := by
  obtain ⟨f, fd, F, hm, hbd⟩ := W.ex
  have e := hfa.symm.trans hm
  cases e
  exact ⟨fd, cA, fun s u => .of_eq (hbd [u] rfl), fun base _ _ => fn F S len (fun cdv A outer s H hr hg => hd base fa cdv A outer s H hr hg) hb⟩
theorem ktab_mk {a : Addr} {kvs : List (Str × D)} {es : Array DictEntry} {n : Nat} (h1 : K.lookup a = some ⟨.type "dict", none, .dict es n, #[]⟩) (h2 : (a == sysModules) = false) (h3 : PySem.W.KeysLit w.params es.toList) (h4 : tabs K cA es.toList kvs) : KTab K cA w a kvs := ⟨es, n, ⟨h1, h3, h2⟩, h4⟩
theorem lit_cons {P : Params} {e : DictEntry} {r : List DictEntry} (h : ∃ x t, e.key = .str x t ∧ e.hash = PyData.keyHash P x) (hr : PySem.W.KeysLit P r) : PySem.W.KeysLit P (e :: r) := ⟨h, hr⟩
theorem tab_str {e : DictEntry} {es : List DictEntry} {x y : Str} {r : List (Str × D)} (hk : ∃ t, e.key = .str x t) (hv : ∃ t, e.val = .str y t) (h : tabs K cA es r) : tabs K cA (e :: es) ((x, .str y) :: r) := ⟨hk, let ⟨t, ht⟩ := hv; ⟨.str y, ⟨t, ht⟩, fun _ _ => .str y⟩, h⟩
end
end TL
namespace TL
open PySem PySem.Spec PyProof.Rows L2
/-! ### instances over trees -/
section
variable {G : Gx} {g : Gh} {st : Sto} {H : Hp} {v : V} {d : D}
theorem see_obj {c : Nat} {fd : List (Str × D)} (rl : Rel G g st H) (r : Rep G g H v d) (h : look st d = .obj c fd) : ∃ a dx fv, v = .ref a ∧ H a = some (.ins (G.cA c) dx fv) ∧ RepF G g H fv fd := by
  cases r with
  | obj w e rs => cases h; exact ⟨_, _, _, rfl, e, rs⟩
  | @ref a n e =>
    unfold look at h
    cases q : st n with
    | none => simp [q] at h
    | some m =>
      simp only [q] at h
      cases m with
      | obj c' fd' =>
        cases h
        obtain ⟨a', e1, e2, dx, fv, e3, e4⟩ := rl.cell n _ q
        rw [e] at e1; cases e1
        exact ⟨a, dx, fv, rfl, e3, e4⟩
      | dct _ => cases h
      | lst _ => cases h
      | box => cases h
  | _ => cases h
theorem RepF.lookup : ∀ {fv : List (Str × V)} {fd : List (Str × D)} {f : Str} {d : D}, RepF G g H fv fd → fd.lookup f = some d → ∃ v, fv.lookup f = some v ∧ Rep G g H v d
  | _, _, f, d, .nil, e => by simp at e
  | _, _, f, d, .cons (k := k) r t, e => by
    rw [List.lookup_cons] at e ⊢
    cases hb : f == k with
    | true => simp only [hb] at e ⊢; cases e; exact ⟨_, rfl, r⟩
    | false => simp only [hb] at e ⊢; exact RepF.lookup t e
theorem RepF.lookupN : ∀ {fv : List (Str × V)} {fd : List (Str × D)} {f : Str}, RepF G g H fv fd → fd.lookup f = none → fv.lookup f = none
  | _, _, f, .nil, e => rfl
  | _, _, f, .cons (k := k) r t, e => by
    rw [List.lookup_cons] at e ⊢
    cases hb : f == k with
    | true => simp only [hb] at e; cases e
    | false => simp only [hb] at e ⊢; exact RepF.lookupN t e
theorem RepF.length : ∀ {fv : List (Str × V)} {fd : List (Str × D)}, RepF G g H fv fd → fv.length = fd.length
  | _, _, .nil => rfl
  | _, _, .cons _ t => by simp [RepF.length t]
def putD (f : Str) (v : D) : List (Str × D) → List (Str × D)
  | [] => [(f, v)]
  | (g, x) :: r => if g = f then (g, v) :: r else (g, x) :: putD f v r
theorem RepF.put {f : Str} (rv : Rep G g H v d) : ∀ {fv : List (Str × V)} {fd : List (Str × D)}, RepF G g H fv fd → RepF G g H (putF f v fv) (putD f d fd)
  | _, _, .nil => .cons rv .nil
  | _, _, .cons (k := k) r t => by
    unfold putF putD
    by_cases hk : k = f
    · rw [if_pos hk, if_pos hk]; exact .cons rv t
    · rw [if_neg hk, if_neg hk]; exact .cons r (RepF.put rv t)
end
section
variable {X : Cx} {cA : Nat → Addr}
/-- classes whose instances keep f in their own dict -/
structure FldK (K : PySem.W.Frag) (cA : Nat → Addr) (f : Str) (cs : List Nat) : Prop where
  ok : ∀ c ∈ cs, Cls K (cA c) ∧ NoAttr K (cA c) f
theorem FldK.nil {K : PySem.W.Frag} {f : Str} : FldK K cA f [] := ⟨fun _ h => by cases h⟩
theorem FldK.cons {K : PySem.W.Frag} {f : Str} {c : Nat} {cs : List Nat} (h : Cls K (cA c)) (n : NoAttr K (cA c) f) (r : FldK K cA f cs) : FldK K cA f (c :: cs) :=
  ⟨fun k hk => by
    rcases List.mem_cons.mp hk with rfl | hk
    · exact ⟨h, n⟩
    · exact r.ok k hk⟩
def rdFld (cs : List Nat) (f : Str) : RD1 := fun x st Q => match look st x with
  | .obj c fd => c ∈ cs ∧ (match fd.lookup f with
    | some d => Q d st
    | none => False)
  | _ => False
theorem de_fld {e : Expr} {te : TDE} {f : Str} {cs : List Nat} {pos : Pos} (hf : FldK X.K cA f cs) (he : DE cA X e te) (hb : attributeBase e f X.env (eval e X.env) = eval e X.env := by rfl) : DE cA X (.Attribute e f pos) (dUn (rdFld cs f) te) :=
  pe_weak (pe_fld he hb) fun σ H Q ⟨g, st, env, Qd, rl, en, h, p⟩ => ⟨g, st, env, _, rl, en, h, fun d st1 g1 H1 v s1 rl1 r1 h1 => by
    unfold rdFld at h1
    split at h1
    · rename_i c fd ex
      obtain ⟨a, dx, fv, rfl, e1, rs⟩ := see_obj rl1 r1 ex
      obtain ⟨hc, h1⟩ := h1
      split at h1
      · rename_i d' ed
        obtain ⟨v, hv, rv⟩ := rs.lookup ed
        exact ⟨a, _, dx, fv, v, rfl, e1, (hf.ok c hc).1, (hf.ok c hc).2, hv, p _ _ _ _ _ s1 rl1 rv h1⟩
      · exact h1.elim
    · exact h1.elim⟩
/-- o.f = e, o a cell -/
def dFldS (cs : List Nat) (f : Str) (to te : TDE) : TDS := fun D' env st => te env st fun v st1 => to env st1 fun x st2 => match x with
  | .ref n => (match st2 n with
    | some (.obj c fd) => c ∈ cs ∧ fd.length < 1000 ∧ D'.nx env (sup st2 n (.obj c (putD f v fd)))
    | _ => False)
  | _ => False
theorem ds_fld {o value : Expr} {to tv : TDE} {f : Str} {cs : List Nat} {pos pos' : Pos} (hf : FldK X.K cA f cs) (ho : DE cA X o to) (hv : DE cA X value tv) (hs : swapsWith value (some (.Attribute o f pos')) pos.line X.env = pure false := by rfl) :
    DS cA X (.Assign [.Attribute o f pos'] value pos) (dFldS cs f to tv) :=
  ps_weak (ps_fld ho hv hs) fun σ H Q ⟨g, st, env, Dd, rl, en, h, p⟩ => ⟨g, st, env, _, rl, en, h, fun d st1 g1 H1 v s1 rl1 r1 h1 => ⟨g1, st1, env, _, rl1, en.mono s1, h1, fun x st2 g2 H2 y s2 rl2 r2 h2 => by
    cases r2 with
    | @ref a n hn =>
      simp only at h2
      split at h2
      · rename_i c fd ec
        obtain ⟨hc, hl, h2⟩ := h2
        obtain ⟨a', e1, e2, dx, fv, e3, e4⟩ := rl2.cell n _ ec
        rw [hn] at e1; cases e1
        have e4' := e4.put (f := f) (r1.mono s2)
        obtain ⟨s3, rl3⟩ := rl2.write (m' := .obj c (putD f d fd)) (o := .ins (cA c) dx (putF f v fv)) ec hn fun st' H' s' e => ⟨dx, _, by rw [e]; exact upd_same, e4'.mono s'⟩
        exact ⟨a, _, dx, fv, rfl, e3, (hf.ok c hc).1, (hf.ok c hc).2, by rw [e4.length]; exact hl, p.nx _ _ _ _ _ ((s1.trans s2).trans s3) rl3 ((en.mono (s1.trans s2)).mono s3) h2⟩
      · exact h2.elim
    | _ => exact h2.elim⟩⟩

/-! ### what a call binds, by places -/
def pick {α : Type} (ix : List Nat) (xs : List α) : List α := ix.filterMap (xs[·]?)
theorem pick_nil {α : Type} (xs : List α) : pick [] xs = [] := rfl
theorem pick_cons {α : Type} {i : Nat} {ix : List Nat} {xs : List α} {x : α} (h : xs[i]? = some x) : pick (i :: ix) xs = x :: pick ix xs := by
  unfold pick; rw [List.filterMap_cons, h]
theorem pick_vals : ∀ {ix : List Nat} {vs : List V} {us : List Value}, Vals vs us → Vals (pick ix vs) (pick ix us)
  | [], _, _, _ => .nil
  | i :: ix, vs, us, r => by
    cases e : vs[i]? with
    | none =>
      have e2 := r.none_of e
      have := pick_vals (ix := ix) r
      unfold pick at this ⊢
      rw [List.filterMap_cons, List.filterMap_cons, e, e2]; exact this
    | some v =>
      obtain ⟨u, e2, ru⟩ := r.get e
      rw [pick_cons e, pick_cons e2]
      exact .cons ru (pick_vals r)
theorem pick_reps {G : Gx} {g : Gh} {H : Hp} : ∀ {ix : List Nat} {vs : List V} {ds : List D}, Reps G g H vs ds → Reps G g H (pick ix vs) (pick ix ds)
  | [], _, _, _ => .nil
  | i :: ix, vs, ds, r => by
    cases e : ds[i]? with
    | none =>
      have e2 : vs[i]? = none := List.getElem?_eq_none_iff.mpr (by rw [r.length]; exact List.getElem?_eq_none_iff.mp e)
      have := pick_reps (ix := ix) r
      unfold pick at this ⊢
      rw [List.filterMap_cons, List.filterMap_cons, e, e2]; exact this
    | some d =>
      obtain ⟨v, e2, rv⟩ := r.get e
      rw [pick_cons e, pick_cons e2]
      exact .cons rv (pick_reps r)
/-- how a call is written: n values by place, names ks, where each parameter's value comes from, the defaults -/
structure Shape where
  n : Nat
  ks : List Str
  ix : List Nat
  dfl : List D
structure Bnd (K : PySem.W.Frag) (cA : Nat → Addr) (fd : FuncData) (ps : List Str) (sh : Shape) : Prop where
  ex : ∃ (its : List Value) (dvs : List V), Vals dvs its ∧ (∀ g H, Reps ⟨K, cA⟩ g H dvs sh.dfl) ∧ ∀ (s : Shared) (us ws : List Value), K.In s.heap → us.length = sh.n → ws.length = sh.ks.length → BindsTo s fd ⟨us, sh.ks.zip ws⟩ (ps.zip (pick sh.ix (us ++ ws ++ its)))
/-- all by place -/
def full (n : Nat) : Shape := ⟨n, [], List.range n, []⟩
end
section
variable {X : Cx} {cA : Nat → Addr} {k : Nat} {f : Addr} {fd : FuncData} {ps : List Str} {sp : DSp} {sh : Shape}
/-- the promise at the callee's values -/
def spK (sp : DSp) (sh : Shape) : List D → List D → Sto → QD → Prop := fun ds es st Q => ds.length = sh.n ∧ es.length = sh.ks.length ∧ sp (pick sh.ix (ds ++ es ++ sh.dfl)) st Q fun _ _ _ => False
/-- the callee's run, by a shape -/
theorem code_k {A : Around} {outer : List Env} {pins : List (Addr × Obj)} {σ : L2.St} {H : Hp} {s : Shared} {us ws : List Value} {vs zs : List V} {ds es : List D} {g : Gh} {st : Sto} {Qd : QD} {Q : VK} (F : FnT cA X.prog X.w X.K X.mg X.base k f fd ps sp) (hr : Room k A) (hgd : A.guards = some []) (hb : Bnd X.K cA fd ps sh)
    (KX : X.K.In s.heap) (e0 : Env0 X.prog X.w X.K X.mg X.base A outer s H) (r : Vals vs us) (rz : Vals zs ws) (rl : Rel (gx X cA) g st H) (rs : Reps (gx X cA) g H vs ds) (re : Reps (gx X cA) g H zs es) (h : spK sp sh ds es st Qd) (p : Post (gx X cA) g st H Qd Q) :
    codeAny (model X.prog X.w) A (.call (.ref f) ⟨us, sh.ks.zip ws⟩) (CR CX0 outer X.prog X.w H s Q E0) s := by
  obtain ⟨its, dvs, r3, rd, hbd⟩ := hb.ex
  obtain ⟨l1, l2, h⟩ := h
  refine F.run A outer s H ⟨us, sh.ks.zip ws⟩ (pick sh.ix (us ++ ws ++ its)) (pick sh.ix (vs ++ zs ++ dvs)) Q hr hgd e0 (hbd s us ws KX (by rw [← r.length, rs.length]; exact l1) (by rw [← rz.length, re.length]; exact l2)) (pick_vals ((r.append rz).append r3)) ?_
  exact ⟨g, st, _, Qd, rl, pick_reps ((rs.append re).append (rd g H)), h, p⟩
end
end TL
namespace TL
open PySem PySem.Spec PyProof.Rows L2
/-! ### calls with keywords and defaults, new instances, methods -/
/-- with the receiver ahead -/
def slf (sh : Shape) : Shape := ⟨sh.n + 1, sh.ks, 0 :: sh.ix.map (· + 1), sh.dfl⟩
theorem pick_slf {α : Type} (ix : List Nat) (x : α) (xs : List α) : pick (0 :: ix.map (· + 1)) (x :: xs) = x :: pick ix xs := by
  unfold pick
  rw [List.filterMap_cons, List.filterMap_map]
  rfl
section
variable {X : Cx} {cA : Nat → Addr}
/-- keywords -/
def DK (cA : Nat → Addr) (X : Cx) (kws : List Keyword) (t : TDA) : Prop := PK X kws (liftA (gx X cA) t)
theorem dk_nil : DK cA X [] dNil := ⟨fun pos pins s σ H Q I ⟨g, st, env, Qd, rl, en, h, p⟩ => pk_nil.run pos pins s σ H Q I (p _ _ _ _ _ (Step.refl g st H) rl .nil h)⟩
theorem dk_cons {e : Expr} {kws : List Keyword} {te : TDE} {t : TDA} {nm : Option Str} {kpos : Pos} (ha : DE cA X e te) (hr : DK cA X kws t) : DK cA X (⟨nm, e, kpos⟩ :: kws) (dCons te t) :=
  ⟨fun pos pins s σ H Q I ⟨g, st, env, Qd, rl, en, h, p⟩ => (pk_cons ha hr).run pos pins s σ H Q I ⟨g, st, env, _, rl, en, h, fun d st1 g1 H1 v s1 rl1 r1 h1 =>
    ⟨g1, st1, env, _, rl1, en.mono s1, h1, fun ds st2 g2 H2 vs s2 rl2 r2 h2 => p _ _ _ _ _ (s1.trans s2) rl2 (.cons (r1.mono s2) r2) h2⟩⟩⟩
end
/-- a def called with keywords or defaults -/
structure CalK (cA : Nat → Addr) (P : Program) (w : World) (K : PySem.W.Frag) (mg : Str → Option Value) (base : Heap) (k : Nat) (x : Str) (ps : List Str) (sp : DSp) (shs : List Shape) : Prop where
  ex : ∃ (f : Addr) (fd : FuncData), FnT cA P w K mg base k f fd ps sp ∧ mg x = some (.ref f) ∧ PySem.W.keepIn K (.ref f) = true ∧ ∀ sh ∈ shs, Bnd K cA fd ps sh
/-- how a new instance is handed on: frozen, or a cell -/
def fin (z : Bool) (n : Nat) (st : Sto) (Q : QD) : Prop := if z = true then frz (.ref n) st Q else Q (.ref n) st
def newOk (spI : DSp) (c : Nat) (z : Bool) (sp : DSp) : Prop := ∀ ds st Q, sp ds st Q (fun _ _ _ => False) → ∀ n, st n = none → spI (.ref n :: ds) (sup st n (.obj c [])) (fun v st2 => v = .non ∧ fin z n st2 Q) fun _ _ _ => False
/-- a class that is made: its promise over the arguments -/
structure CalN (cA : Nat → Addr) (P : Program) (w : World) (K : PySem.W.Frag) (mg : Str → Option Value) (base : Heap) (k : Nat) (x : Str) (ps : List Str) (sp : DSp) : Prop where
  ex : ∃ (c : Nat) (z : Bool) (f : Addr) (fd : FuncData) (spI : DSp), FnT cA P w K mg base k f fd ps spI ∧ Mk K (cA c) f ∧ mg x = some (.ref (cA c)) ∧ Binds K fd ps [] ∧ newOk spI c z sp
structure CalNK (cA : Nat → Addr) (P : Program) (w : World) (K : PySem.W.Frag) (mg : Str → Option Value) (base : Heap) (k : Nat) (x : Str) (ps : List Str) (sp : DSp) (shs : List Shape) : Prop where
  ex : ∃ (c : Nat) (z : Bool) (f : Addr) (fd : FuncData) (spI : DSp), FnT cA P w K mg base k f fd ps spI ∧ Mk K (cA c) f ∧ mg x = some (.ref (cA c)) ∧ (∀ sh ∈ shs, Bnd K cA fd ps (slf sh)) ∧ newOk spI c z sp
/-- a method -/
structure CalM (cA : Nat → Addr) (P : Program) (w : World) (K : PySem.W.Frag) (mg : Str → Option Value) (base : Heap) (k : Nat) (c : Nat) (m : Str) (ps : List Str) (sp : DSp) : Prop where
  ex : ∃ (f : Addr) (fd : FuncData), FnT cA P w K mg base k f fd ps sp ∧ Cls K (cA c) ∧ Meth K (cA c) m f ∧ Binds K fd ps []
structure CalMK (cA : Nat → Addr) (P : Program) (w : World) (K : PySem.W.Frag) (mg : Str → Option Value) (base : Heap) (k : Nat) (c : Nat) (m : Str) (ps : List Str) (sp : DSp) (shs : List Shape) : Prop where
  ex : ∃ (f : Addr) (fd : FuncData), FnT cA P w K mg base k f fd ps sp ∧ Cls K (cA c) ∧ Meth K (cA c) m f ∧ ∀ sh ∈ shs, Bnd K cA fd ps (slf sh)
theorem CalN.mono {cA : Nat → Addr} {P : Program} {w : World} {K : PySem.W.Frag} {mg : Str → Option Value} {base : Heap} {j k : Nat} {x : Str} {ps : List Str} {sp : DSp} (C : CalN cA P w K mg base j x ps sp) (h : j ≤ k) : CalN cA P w K mg base k x ps sp :=
  let ⟨c, z, f, fd, spI, a, b⟩ := C.ex; ⟨c, z, f, fd, spI, a.mono h, b⟩
theorem CalM.mono {cA : Nat → Addr} {P : Program} {w : World} {K : PySem.W.Frag} {mg : Str → Option Value} {base : Heap} {j k c : Nat} {x : Str} {ps : List Str} {sp : DSp} (C : CalM cA P w K mg base j c x ps sp) (h : j ≤ k) : CalM cA P w K mg base k c x ps sp :=
  let ⟨f, fd, a, b⟩ := C.ex; ⟨f, fd, a.mono h, b⟩
theorem CalK.mono {cA : Nat → Addr} {P : Program} {w : World} {K : PySem.W.Frag} {mg : Str → Option Value} {base : Heap} {j k : Nat} {x : Str} {ps : List Str} {sp : DSp} {shs : List Shape} (C : CalK cA P w K mg base j x ps sp shs) (h : j ≤ k) : CalK cA P w K mg base k x ps sp shs :=
  let ⟨f, fd, a, b⟩ := C.ex; ⟨f, fd, a.mono h, b⟩
section
variable {X : Cx} {cA : Nat → Addr} {k : Nat} {ps : List Str} {sp : DSp} {sh : Shape} {x m : Str} {p pos apos : Pos} {e o : Expr} {es : List Expr} {kws : List Keyword} {t tk : TDA} {to : TDE}
/-- back from a callee's run -/
theorem back_k {pins : List (Addr × Obj)} {σ : L2.St} {H : Hp} {s : Shared} {Q : VK} {f : Addr} {args : Args} (I : Inv X pins σ H s) (h : codeAny (model X.prog X.w) X.A (.call (.ref f) args) (CR CX0 X.stack X.prog X.w H s Q E0) s) :
    wpAny (model X.prog X.w) X.A (call (.ref f) args.pos args.kw) (EP X pins σ Q) X.xe s := by
  refine wpAny_call (codeAny_mono h fun r s' hq => ?_)
  cases r with
  | error e => exact hq.elim
  | ok fl => cases fl with
    | ret u => exact I.after hq
    | _ => exact hq.elim
def dCallK (sp : DSp) (sh : Shape) (t tk : TDA) : TDE := fun env st Q => t env st fun ds st1 => tk env st1 fun es st2 => spK sp sh ds es st2 Q
theorem dc_callK {shs : List Shape} (C : CalK cA X.prog X.w X.K X.mg X.base k x ps sp shs) (hsh : sh ∈ shs) (hr : Room k X.A) (hgd : X.A.guards = some []) (hg : Gl X x) (ha : DA cA X (e :: es) t) (hkw : DK cA X kws tk)
    (hall : (backToKw pos (keywordEach kws X.env)).all (·.1.isSome) = true := by rfl) (hks : (backToKw pos (keywordEach kws X.env)).filterMap (·.1) = sh.ks := by rfl) (hdb : (x == ("__debug__" : Str)) = false := by decide)
    (he : starEach (e :: es) X.env = (false, eval e X.env) :: starEach es X.env := by rfl) (hpl : ((backTo pos (starEach (e :: es) X.env)).any (·.1) || (backToKw pos (keywordEach kws X.env)).any (·.1.isNone)) = false := by rfl) :
    DE cA X (.Call (.Name x p) (e :: es) kws pos) (dCallK sp sh t tk) := by
  obtain ⟨f, fd, F, hm, hk, hb⟩ := C.ex
  refine ⟨fun pins s σ H Q I h => ?_⟩
  obtain ⟨g, st, env, Qd, rl, en, h, pq⟩ := h
  refine wpAny_Call_Name_kw (ld_glob I hg hm ?_ hdb)
  refine PySem.W.callWith_KW (h₀ := X.base) I.ok.mod.kin hk hall (thn (ha.run pos pins s σ H (fun vs H' => ∃ g1 st1 ds, Step g st H g1 st1 H' ∧ Rel (gx X cA) g1 st1 H' ∧ Reps (gx X cA) g1 H' vs ds ∧ tk env st1 fun es st2 => spK sp sh ds es st2 Qd) I ⟨g, st, env, _, rl, en, h, fun ds st1 g1 H1 vs s1 rl1 r1 h1 => ⟨g1, st1, ds, s1, rl1, r1, h1⟩⟩) fun us s1 ⟨vs, H1, I1, r, g1, st1, ds, q1, rl1, rs1, h1⟩ => ?_) hpl he
  refine thn (hkw.run pos pins s1 σ H1 (fun zs H' => ∃ g2 st2 es, Step g1 st1 H1 g2 st2 H' ∧ Rel (gx X cA) g2 st2 H' ∧ Reps (gx X cA) g2 H' zs es ∧ spK sp sh ds es st2 Qd) I1 ⟨g1, st1, env, _, rl1, en.mono q1, h1, fun es st2 g2 H2 zs s2 rl2 r2 h2 => ⟨g2, st2, es, s2, rl2, r2, h2⟩⟩) fun ws s2 ⟨zs, H2, I2, rz, g2, st2, es, q2, rl2, re, h2⟩ => ⟨I2.kIn, ?_⟩
  rw [hks]
  exact back_k (args := ⟨us, sh.ks.zip ws⟩) I2 (code_k (pins := pins) (σ := σ) F hr hgd (hb sh hsh) I2.kIn I2.env0 r rz rl2 (rs1.mono q2) re h2 (pq.step (q1.trans q2)))
theorem dc_callK0 {shs : List Shape} (C : CalK cA X.prog X.w X.K X.mg X.base k x ps sp shs) (hsh : sh ∈ shs) (hr : Room k X.A) (hgd : X.A.guards = some []) (hg : Gl X x) (hkw : DK cA X kws tk)
    (hall : (backToKw pos (keywordEach kws X.env)).all (·.1.isSome) = true := by rfl) (hks : (backToKw pos (keywordEach kws X.env)).filterMap (·.1) = sh.ks := by rfl) (hdb : (x == ("__debug__" : Str)) = false := by decide)
    (hpl : ((backTo pos (starEach [] X.env)).any (·.1) || (backToKw pos (keywordEach kws X.env)).any (·.1.isNone)) = false := by rfl) :
    DE cA X (.Call (.Name x p) [] kws pos) (dCallK sp sh dNil tk) := by
  obtain ⟨f, fd, F, hm, hk, hb⟩ := C.ex
  refine ⟨fun pins s σ H Q I h => ?_⟩
  obtain ⟨g, st, env, Qd, rl, en, h, pq⟩ := h
  refine wpAny_Call_Name_kw (ld_glob I hg hm ?_ hdb)
  refine PySem.W.callWith_KW0 (h₀ := X.base) I.ok.mod.kin hk hall ?_ hpl
  refine thn (hkw.run pos pins s σ H (fun zs H' => ∃ g2 st2 es, Step g st H g2 st2 H' ∧ Rel (gx X cA) g2 st2 H' ∧ Reps (gx X cA) g2 H' zs es ∧ spK sp sh [] es st2 Qd) I ⟨g, st, env, _, rl, en, h, fun es st2 g2 H2 zs s2 rl2 r2 h2 => ⟨g2, st2, es, s2, rl2, r2, h2⟩⟩) fun ws s2 ⟨zs, H2, I2, rz, g2, st2, es, q2, rl2, re, h2⟩ => ⟨I2.kIn, ?_⟩
  rw [hks]
  exact back_k (args := ⟨[], sh.ks.zip ws⟩) I2 (code_k (pins := pins) (σ := σ) F hr hgd (hb sh hsh) I2.kIn I2.env0 .nil rz rl2 .nil re h2 (pq.step q2))

/-! new instances -/
theorem make_guards {A : Around} {C : Addr} {us : List Value} {kw : List (Str × Value)} (h : A.guards = some []) : (A.under (.builtin "type.__call__" ⟨.ref C :: us, kw⟩)).guards = some [] := by
  first | exact h | (simp [Around.under, Code.weight, Code.isCreation, Code.isGuard, Code.isCaller, Code.frames, Code.isFrame, guardIds]; exact h) | simpa [Around.under, Code.weight, Code.isCreation, Code.isGuard, Code.isCaller, Code.frames, Code.isFrame, guardIds] using h
/-- the ghost's side of a new instance -/
theorem Rel.made {G : Gx} {g : Gh} {st : Sto} {H : Hp} (rl : Rel G g st H) {x dx : Addr} (hx : H x = none) (hd : H dx = none) (hne : dx ≠ x) (c : Nat) : ∃ n, st n = none ∧ g.rho n = none ∧ Step g st H (g.new n x) (sup st n (.obj c [])) (upd (upd H dx (.own x)) x (.ins (G.cA c) dx [])) ∧
    Rel G (g.new n x) (sup st n (.obj c [])) (upd (upd H dx (.own x)) x (.ins (G.cA c) dx [])) := by
  obtain ⟨s1, rl1⟩ := rl.lay (o := .own x) hd
  obtain ⟨n, hn, hs⟩ := rl1.fresh
  have hx1 : (upd H dx (.own x)) x = none := by rw [upd_ne (Ne.symm hne)]; exact hx
  obtain ⟨s2, rl2⟩ := rl1.cellNew (o := .ins (G.cA c) dx []) (m := .obj c []) hx1 hn fun g' _ s' => ⟨dx, [], upd_same, .nil⟩
  exact ⟨n, hs, hn, s1.trans s2, rl2⟩
theorem fin_post {G : Gx} {g : Gh} {st : Sto} {H : Hp} {a : Addr} {n : Nat} {z : Bool} {Qd : QD} {Q : VK} (rl : Rel G g st H) (r : g.rho n = some a) (q : fin z n st Qd) (p : Post G g st H Qd Q) : Q (.ref a) H := by
  unfold fin at q
  split at q
  · exact frz_post rl (.ref r) q p
  · exact p.now rl (.ref r) q
theorem run_new {c : Nat} {z : Bool} {f : Addr} {fd : FuncData} {spI : DSp} {args : Args} {pins : List (Addr × Obj)} {σ : L2.St} {H : Hp} {s : Shared} {g : Gh} {st : Sto} {Qd : QD} {Q : VK} (M : Mk X.K (cA c) f) (hgd : X.A.guards = some []) (I : Inv X pins σ H s) (rl : Rel (gx X cA) g st H) (p : Post (gx X cA) g st H Qd Q)
    (run : ∀ (s' : Shared) (A : Around) (x dx : Addr) (n : Nat) (g' : Gh) (H' : Hp), A = X.A.under (.builtin "type.__call__" ⟨.ref (cA c) :: args.pos, args.kw⟩) → Inv X pins σ H' s' → Rel (gx X cA) g' (sup st n (.obj c [])) H' → Step g st H g' (sup st n (.obj c [])) H' → st n = none → g'.rho n = some x → A.guards = some [] →
      codeAny (model X.prog X.w) A (.call (.ref f) ⟨.ref x :: args.pos, args.kw⟩) (CR CX0 X.stack X.prog X.w H' s' (fun v H2 => v = .non ∧ Q (.ref x) H2) E0) s') :
    wpAny (model X.prog X.w) X.A (call (.ref (cA c)) args.pos args.kw) (EP X pins σ Q) X.xe s := by
  have I2 := Inv.made (C := cA c) I
  obtain ⟨n, hn, hr, s2, rl2⟩ := rl.made (I.hok.fresh (Nat.le_succ _)) (I.hok.fresh (Nat.le_refl _)) (Nat.ne_of_lt (Nat.lt_succ_self _)) c
  refine wpAny_call (make_map (f := f) I.kIn M.makes M.init (beq_iff_eq.mp M.fn) (codeAny_mono (run _ _ (s.heap.objs.size + 1) s.heap.objs.size n _ _ rfl I2 rl2 s2 hn (by simp [Gh.new]) (make_guards hgd)) fun r s' hq' => ?_))
  cases r with
  | error e => exact hq'.elim
  | ok fl => cases fl with
    | ret u =>
      obtain ⟨v, H', I3, rv, ev, q3⟩ := I2.after hq'
      subst ev
      exact ⟨rv, ⟨V.ref (s.heap.objs.size + 1), H', I3, rfl, q3⟩⟩
    | _ => exact hq'.elim
/-- C(e, ..) -/
theorem new_core {c : Nat} {z : Bool} {f : Addr} {fd : FuncData} {spI : DSp} {us ws : List Value} {vs zs : List V} {ds es : List D} {ks : List Str} {pins : List (Addr × Obj)} {σ : L2.St} {H : Hp} {s : Shared} {g : Gh} {st : Sto} {Qd : QD} {Q : VK} (F : FnT cA X.prog X.w X.K X.mg X.base k f fd ps spI) (M : Mk X.K (cA c) f) (hr : Room (k + 1) X.A)
    (hgd : X.A.guards = some []) (hb : Bnd X.K cA fd ps (slf sh)) (nk : newOk spI c z sp) (I : Inv X pins σ H s) (r : Vals vs us) (rz : Vals zs ws) (rl : Rel (gx X cA) g st H) (rs : Reps (gx X cA) g H vs ds) (re : Reps (gx X cA) g H zs es) (h : spK sp sh ds es st Qd) (p : Post (gx X cA) g st H Qd Q) :
    wpAny (model X.prog X.w) X.A (call (.ref (cA c)) us (sh.ks.zip ws)) (EP X pins σ Q) X.xe s := by
  refine run_new (z := z) (fd := fd) (spI := spI) (args := ⟨us, sh.ks.zip ws⟩) M hgd I rl p fun s' A x dx n g' H' eA I2 rl2 s2 hn hx hg2 => ?_
  obtain ⟨l1, l2, h⟩ := h
  have h2 := nk _ _ _ h n hn
  subst eA
  refine code_k (pins := pins) (σ := σ) (vs := .ref x :: vs) (us := .ref x :: us) (ds := .ref n :: ds) (es := es) (zs := zs) (sh := slf sh) F (hr.make (cA c) us (sh.ks.zip ws)) hg2 hb I2.kIn (I2.env0.make (cA c) us (sh.ks.zip ws)) (.cons rfl r) rz rl2 (.cons (.ref hx) (rs.mono s2)) (re.mono s2) ⟨by simp [slf, l1], l2, ?_⟩
    (Qd := fun v st2 => v = .non ∧ fin z n st2 Qd) ?_
  · show spI (pick (0 :: sh.ix.map (· + 1)) (.ref n :: (ds ++ es ++ sh.dfl))) _ _ _
    rw [pick_slf]
    exact h2
  · rintro d st3 g3 H3 v s3 rl3 r3 ⟨rfl, q⟩
    cases r3
    exact ⟨rfl, fin_post rl3 (s3.rho n x hx) q (p.step (s2.trans s3))⟩
theorem bnd_full {K : PySem.W.Frag} {fd : FuncData} {n : Nat} (hb : Binds K fd ps []) (hn : ps.length = n) : Bnd K cA fd ps ⟨n, [], List.range n, []⟩ := by
  refine ⟨[], [], .nil, fun _ _ => .nil, fun s us ws X l1 l2 => ?_⟩
  have : ws = [] := List.length_eq_zero_iff.mp l2
  subst this
  have e : pick (List.range n) (us ++ [] ++ []) = us := by
    rw [List.append_nil, List.append_nil]
    unfold pick
    subst l1
    have : ∀ (l : List Value), (List.range l.length).filterMap (l[·]?) = l := fun l => by
      induction l with
      | nil => rfl
      | cons a r ih =>
        rw [List.length_cons, List.range_succ_eq_map, List.filterMap_cons, List.filterMap_map]
        simp only [List.getElem?_cons_zero]
        congr 1
    exact this us
  have := hb s us X (by rw [List.append_nil, l1, hn])
  rw [List.append_nil] at this
  show BindsTo s fd ⟨us, []⟩ _
  rw [e]
  exact this
theorem dc_newK {shs : List Shape} (C : CalNK cA X.prog X.w X.K X.mg X.base k x ps sp shs) (hsh : sh ∈ shs) (hr : Room (k + 1) X.A) (hgd : X.A.guards = some []) (hg : Gl X x) (ha : DA cA X (e :: es) t) (hkw : DK cA X kws tk)
    (hall : (backToKw pos (keywordEach kws X.env)).all (·.1.isSome) = true := by rfl) (hks : (backToKw pos (keywordEach kws X.env)).filterMap (·.1) = sh.ks := by rfl) (hdb : (x == ("__debug__" : Str)) = false := by decide)
    (he : starEach (e :: es) X.env = (false, eval e X.env) :: starEach es X.env := by rfl) (hpl : ((backTo pos (starEach (e :: es) X.env)).any (·.1) || (backToKw pos (keywordEach kws X.env)).any (·.1.isNone)) = false := by rfl) :
    DE cA X (.Call (.Name x p) (e :: es) kws pos) (dCallK sp sh t tk) := by
  obtain ⟨c, z, f, fd, spI, F, M, hm, hb, nk⟩ := C.ex
  refine ⟨fun pins s σ H Q I h => ?_⟩
  obtain ⟨g, st, env, Qd, rl, en, h, pq⟩ := h
  refine wpAny_Call_Name_kw (ld_glob I hg hm ?_ hdb)
  refine PySem.W.callWith_KW (h₀ := X.base) I.ok.mod.kin M.kp hall (thn (ha.run pos pins s σ H (fun vs H' => ∃ g1 st1 ds, Step g st H g1 st1 H' ∧ Rel (gx X cA) g1 st1 H' ∧ Reps (gx X cA) g1 H' vs ds ∧ tk env st1 fun es st2 => spK sp sh ds es st2 Qd) I ⟨g, st, env, _, rl, en, h, fun ds st1 g1 H1 vs s1 rl1 r1 h1 => ⟨g1, st1, ds, s1, rl1, r1, h1⟩⟩) fun us s1 ⟨vs, H1, I1, r, g1, st1, ds, q1, rl1, rs1, h1⟩ => ?_) hpl he
  refine thn (hkw.run pos pins s1 σ H1 (fun zs H' => ∃ g2 st2 es, Step g1 st1 H1 g2 st2 H' ∧ Rel (gx X cA) g2 st2 H' ∧ Reps (gx X cA) g2 H' zs es ∧ spK sp sh ds es st2 Qd) I1 ⟨g1, st1, env, _, rl1, en.mono q1, h1, fun es st2 g2 H2 zs s2 rl2 r2 h2 => ⟨g2, st2, es, s2, rl2, r2, h2⟩⟩) fun ws s2 ⟨zs, H2, I2, rz, g2, st2, es, q2, rl2, re, h2⟩ => ⟨I2.kIn, ?_⟩
  rw [hks]
  exact new_core F M hr hgd (hb sh hsh) nk I2 r rz rl2 (rs1.mono q2) re h2 (pq.step (q1.trans q2)) (ks := sh.ks)
theorem dc_newK0 {shs : List Shape} (C : CalNK cA X.prog X.w X.K X.mg X.base k x ps sp shs) (hsh : sh ∈ shs) (hr : Room (k + 1) X.A) (hgd : X.A.guards = some []) (hg : Gl X x) (hkw : DK cA X kws tk)
    (hall : (backToKw pos (keywordEach kws X.env)).all (·.1.isSome) = true := by rfl) (hks : (backToKw pos (keywordEach kws X.env)).filterMap (·.1) = sh.ks := by rfl) (hdb : (x == ("__debug__" : Str)) = false := by decide)
    (hpl : ((backTo pos (starEach [] X.env)).any (·.1) || (backToKw pos (keywordEach kws X.env)).any (·.1.isNone)) = false := by rfl) :
    DE cA X (.Call (.Name x p) [] kws pos) (dCallK sp sh dNil tk) := by
  obtain ⟨c, z, f, fd, spI, F, M, hm, hb, nk⟩ := C.ex
  refine ⟨fun pins s σ H Q I h => ?_⟩
  obtain ⟨g, st, env, Qd, rl, en, h, pq⟩ := h
  refine wpAny_Call_Name_kw (ld_glob I hg hm ?_ hdb)
  refine PySem.W.callWith_KW0 (h₀ := X.base) I.ok.mod.kin M.kp hall ?_ hpl
  refine thn (hkw.run pos pins s σ H (fun zs H' => ∃ g2 st2 es, Step g st H g2 st2 H' ∧ Rel (gx X cA) g2 st2 H' ∧ Reps (gx X cA) g2 H' zs es ∧ spK sp sh [] es st2 Qd) I ⟨g, st, env, _, rl, en, h, fun es st2 g2 H2 zs s2 rl2 r2 h2 => ⟨g2, st2, es, s2, rl2, r2, h2⟩⟩) fun ws s2 ⟨zs, H2, I2, rz, g2, st2, es, q2, rl2, re, h2⟩ => ⟨I2.kIn, ?_⟩
  rw [hks]
  exact new_core F M hr hgd (hb sh hsh) nk I2 .nil rz rl2 .nil re h2 (pq.step q2) (ks := sh.ks)
/-- all by place: the promise as it is -/
theorem full_pick {α : Type} : ∀ (ds : List α), pick (List.range ds.length) ds = ds := fun l => by
  unfold pick
  induction l with
  | nil => rfl
  | cons a r ih =>
    rw [List.length_cons, List.range_succ_eq_map, List.filterMap_cons, List.filterMap_map]
    simp only [List.getElem?_cons_zero]
    congr 1
theorem slf_full (n : Nat) : slf ⟨n, [], List.range n, []⟩ = ⟨n + 1, [], List.range (n + 1), []⟩ := by
  unfold slf
  rw [List.range_succ_eq_map]
theorem dc_new (C : CalN cA X.prog X.w X.K X.mg X.base k x ps sp) (hr : Room (k + 1) X.A) (hgd : X.A.guards = some []) (hg : Gl X x) (ha : DA cA X (e :: es) t) (hdb : (x == ("__debug__" : Str)) = false := by decide)
    (he : starEach (e :: es) X.env = (false, eval e X.env) :: starEach es X.env := by rfl) (hpl : (backTo pos (starEach es X.env)).any (·.1) = false := by rfl) : DE cA X (.Call (.Name x p) (e :: es) [] pos) (dCall sp t) := by
  obtain ⟨c, z, f, fd, spI, F, M, hm, hb, nk⟩ := C.ex
  refine ⟨fun pins s σ H Q I h => ?_⟩
  obtain ⟨g, st, env, Qd, rl, en, h, pq⟩ := h
  refine wpAny_Call_Name_kw (ld_glob I hg hm ?_ hdb)
  refine PySem.W.callWith_K (h₀ := X.base) I.ok.mod.kin M.kp (thn (ha.run pos pins s σ H (fun vs H' => ∃ g1 st1 ds, Step g st H g1 st1 H' ∧ Rel (gx X cA) g1 st1 H' ∧ Reps (gx X cA) g1 H' vs ds ∧ sp ds st1 Qd fun _ _ _ => False) I ⟨g, st, env, _, rl, en, h, fun ds st1 g1 H1 vs s1 rl1 r1 h1 => ⟨g1, st1, ds, s1, rl1, r1, h1⟩⟩) fun us s1 ⟨vs, H1, I1, r, g1, st1, ds, q1, rl1, rs1, h1⟩ => ⟨I1.kIn, ?_⟩) he hpl
  have hl : ds.length + 1 = ps.length := by
    obtain ⟨n, hn⟩ := rl1.fresh
    have := F.len _ _ _ _ (nk _ _ _ h1 n hn.2)
    simpa using this
  refine new_core (sh := ⟨ds.length, [], List.range ds.length, []⟩) (ws := []) (zs := []) (es := []) F M hr hgd (by rw [slf_full]; exact bnd_full hb hl.symm) nk I1 r .nil rl1 rs1 .nil ⟨rfl, rfl, ?_⟩ (pq.step q1) (ks := [])
  show sp (pick (List.range ds.length) (ds ++ [] ++ [])) _ _ _
  rw [List.append_nil, List.append_nil, full_pick]
  exact h1

/-! ### methods -/
def dMeth (cs : List Nat) (m : Str) (sps : Nat → DSp) (to : TDE) (t : TDA) : TDE := fun env st Q => to env st fun o st1 => match look st1 o with
  | .obj c fd => c ∈ cs ∧ fd.lookup m = none ∧ t env st1 fun ds st2 => sps c (o :: ds) st2 Q fun _ _ _ => False
  | _ => False
def dMethK (cs : List Nat) (m : Str) (sps : Nat → DSp) (sh : Shape) (to : TDE) (t tk : TDA) : TDE := fun env st Q => to env st fun o st1 => match look st1 o with
  | .obj c fd => c ∈ cs ∧ fd.lookup m = none ∧ t env st1 fun ds st2 => tk env st2 fun es st3 => ds.length = sh.n ∧ es.length = sh.ks.length ∧ sps c (o :: pick sh.ix (ds ++ es ++ sh.dfl)) st3 Q fun _ _ _ => False
  | _ => False
theorem meth_core {c : Nat} {f : Addr} {fd : FuncData} {us ws : List Value} {vs zs : List V} {d : D} {v : V} {u : Value} {ds es : List D} {pins : List (Addr × Obj)} {σ : L2.St} {H : Hp} {s : Shared} {g : Gh} {st : Sto} {Qd : QD} {Q : VK} (F : FnT cA X.prog X.w X.K X.mg X.base k f fd ps sp) (hr : Room k X.A)
    (hgd : X.A.guards = some []) (hb : Bnd X.K cA fd ps (slf sh)) (I : Inv X pins σ H s) (ru : RelV v u) (r : Vals vs us) (rz : Vals zs ws) (rl : Rel (gx X cA) g st H) (rd : Rep (gx X cA) g H v d) (rs : Reps (gx X cA) g H vs ds) (re : Reps (gx X cA) g H zs es) (l1 : ds.length = sh.n) (l2 : es.length = sh.ks.length) (h : sp (d :: pick sh.ix (ds ++ es ++ sh.dfl)) st Qd fun _ _ _ => False) (p : Post (gx X cA) g st H Qd Q) :
    wpAny (model X.prog X.w) X.A (call (.ref f) (u :: us) (sh.ks.zip ws)) (EP X pins σ Q) X.xe s := by
  refine back_k (args := ⟨u :: us, sh.ks.zip ws⟩) I (code_k (pins := pins) (σ := σ) (vs := v :: vs) (us := u :: us) (ds := d :: ds) (es := es) (zs := zs) (sh := slf sh) F hr hgd hb I.kIn I.env0 (.cons ru r) rz rl (.cons rd rs) re ⟨by simp [slf, l1], l2, ?_⟩ p)
  show sp (pick (0 :: sh.ix.map (· + 1)) (d :: (ds ++ es ++ sh.dfl))) _ _ _
  rw [pick_slf]
  exact h
theorem dm_callK {cs : List Nat} {sps : Nat → DSp} {shs : Nat → List Shape} {pss : Nat → List Str} {pl : Sem Bool} (C : ∀ c ∈ cs, CalMK cA X.prog X.w X.K X.mg X.base k c m (pss c) (sps c) (shs c)) (hsh : ∀ c ∈ cs, sh ∈ shs c) (hr : Room k X.A) (hgd : X.A.guards = some []) (ho : DE cA X o to) (ha : DA cA X (e :: es) t) (hkw : DK cA X kws tk)
    (hall : (backToKw pos (keywordEach kws X.env)).all (·.1.isSome) = true := by rfl) (hks : (backToKw pos (keywordEach kws X.env)).filterMap (·.1) = sh.ks := by rfl)
    (hst : starEach (e :: es) X.env = (false, eval e X.env) :: starEach es X.env := by rfl) (hpl : ((backTo pos (starEach (e :: es) X.env)).any (·.1) || (backToKw pos (keywordEach kws X.env)).any (·.1.isNone)) = false := by rfl)
    (ht : eval (.Call (.Attribute o m apos) (e :: es) kws pos) X.env = (do
      let ov ← eval o X.env
      standAt apos.atName
      let (f, first) ← holding [ov] (getMethod ov m pl)
      callWith pos f first (backTo pos (starEach (e :: es) X.env)) (backToKw pos (keywordEach kws X.env))) := by rfl) :
    DE cA X (.Call (.Attribute o m apos) (e :: es) kws pos) (dMethK cs m sps sh to t tk) := by
  refine ⟨fun pins s σ H Q I h => ?_⟩
  obtain ⟨g, st, env, Qd, rl, en, h, pq⟩ := h
  refine PySem.W.methodCall_KW (pl := pl) (thn (ho.run pins s σ H (fun v H' => ∃ g1 st1 d c fd, Step g st H g1 st1 H' ∧ Rel (gx X cA) g1 st1 H' ∧ Rep (gx X cA) g1 H' v d ∧ look st1 d = .obj c fd ∧ c ∈ cs ∧ fd.lookup m = none ∧ t env st1 fun ds st2 => tk env st2 fun es st3 => ds.length = sh.n ∧ es.length = sh.ks.length ∧ sps c (d :: pick sh.ix (ds ++ es ++ sh.dfl)) st3 Qd fun _ _ _ => False) I ⟨g, st, env, _, rl, en, h, fun d st1 g1 H1 v s1 rl1 r1 h1 => ?_⟩) fun u s1 ⟨v, H1, I1, rv, g1, st1, d, c, fd, q1, rl1, r1, ed, hc, hl, h1⟩ => ?_) ht
  · split at h1
    · rename_i c fd ed
      exact ⟨g1, st1, d, c, fd, s1, rl1, r1, ed, h1.1, h1.2.1, h1.2.2⟩
    · exact h1.elim
  obtain ⟨f, fdd, F, cl, hm, hb⟩ := (C c hc).ex
  obtain ⟨a, dx, fv, rfl, ea, rf⟩ := see_obj rl1 r1 ed
  obtain rfl : u = Value.ref a := rv
  refine getmeth_ok I1 ea cl hm (rf.lookupN hl) ?_
  refine PySem.W.callWith_KW (first := [.ref a]) (h₀ := X.base) I.ok.mod.kin hm.kp hall (thn (ha.run pos pins s1 σ H1 (fun vs H' => ∃ g2 st2 ds, Step g1 st1 H1 g2 st2 H' ∧ Rel (gx X cA) g2 st2 H' ∧ Reps (gx X cA) g2 H' vs ds ∧ tk env st2 fun es st3 => ds.length = sh.n ∧ es.length = sh.ks.length ∧ sps c (d :: pick sh.ix (ds ++ es ++ sh.dfl)) st3 Qd fun _ _ _ => False) I1 ⟨g1, st1, env, _, rl1, en.mono q1, h1, fun ds st2 g2 H2 vs s2 rl2 r2 h2 => ⟨g2, st2, ds, s2, rl2, r2, h2⟩⟩) fun us s2 ⟨vs, H2, I2, r, g2, st2, ds, q2, rl2, rs2, h2⟩ => ?_) hpl hst
  refine thn (hkw.run pos pins s2 σ H2 (fun zs H' => ∃ g3 st3 es, Step g2 st2 H2 g3 st3 H' ∧ Rel (gx X cA) g3 st3 H' ∧ Reps (gx X cA) g3 H' zs es ∧ ds.length = sh.n ∧ es.length = sh.ks.length ∧ sps c (d :: pick sh.ix (ds ++ es ++ sh.dfl)) st3 Qd fun _ _ _ => False) I2 ⟨g2, st2, env, _, rl2, (en.mono q1).mono q2, h2, fun es st3 g3 H3 zs s3 rl3 r3 h3 => ⟨g3, st3, es, s3, rl3, r3, h3⟩⟩) fun ws s3 ⟨zs, H3, I3, rz, g3, st3, es, q3, rl3, re, l1, l2, h3⟩ => ⟨I3.kIn, ?_⟩
  rw [hks]
  exact meth_core (c := c) F hr hgd (hb sh (hsh c hc)) I3 (v := .ref a) rfl r rz rl3 ((r1.mono q2).mono q3) (rs2.mono q3) re l1 l2 h3 (pq.step ((q1.trans q2).trans q3))
theorem dm_call {cs : List Nat} {sps : Nat → DSp} {pss : Nat → List Str} {pl : Sem Bool} (C : ∀ c ∈ cs, CalM cA X.prog X.w X.K X.mg X.base k c m (pss c) (sps c)) (hr : Room k X.A) (hgd : X.A.guards = some []) (ho : DE cA X o to) (ha : DA cA X (e :: es) t)
    (hst : starEach (e :: es) X.env = (false, eval e X.env) :: starEach es X.env := by rfl) (hpl : (backTo pos (starEach es X.env)).any (·.1) = false := by rfl)
    (ht : eval (.Call (.Attribute o m apos) (e :: es) [] pos) X.env = (do
      let ov ← eval o X.env
      standAt apos.atName
      let (f, first) ← holding [ov] (getMethod ov m pl)
      callWith pos f first (backTo pos (starEach (e :: es) X.env)) (backToKw pos (keywordEach [] X.env))) := by rfl) :
    DE cA X (.Call (.Attribute o m apos) (e :: es) [] pos) (dMeth cs m sps to t) := by
  refine ⟨fun pins s σ H Q I h => ?_⟩
  obtain ⟨g, st, env, Qd, rl, en, h, pq⟩ := h
  refine PySem.W.methodCall_KW (pl := pl) (thn (ho.run pins s σ H (fun v H' => ∃ g1 st1 d c fd, Step g st H g1 st1 H' ∧ Rel (gx X cA) g1 st1 H' ∧ Rep (gx X cA) g1 H' v d ∧ look st1 d = .obj c fd ∧ c ∈ cs ∧ fd.lookup m = none ∧ t env st1 fun ds st2 => sps c (d :: ds) st2 Qd fun _ _ _ => False) I ⟨g, st, env, _, rl, en, h, fun d st1 g1 H1 v s1 rl1 r1 h1 => ?_⟩) fun u s1 ⟨v, H1, I1, rv, g1, st1, d, c, fd, q1, rl1, r1, ed, hc, hl, h1⟩ => ?_) ht
  · split at h1
    · rename_i c fd ed
      exact ⟨g1, st1, d, c, fd, s1, rl1, r1, ed, h1.1, h1.2.1, h1.2.2⟩
    · exact h1.elim
  obtain ⟨f, fdd, F, cl, hm, hb⟩ := (C c hc).ex
  obtain ⟨a, dx, fv, rfl, ea, rf⟩ := see_obj rl1 r1 ed
  obtain rfl : u = Value.ref a := rv
  refine getmeth_ok I1 ea cl hm (rf.lookupN hl) ?_
  refine PySem.W.callWith_K (first := [.ref a]) (h₀ := X.base) I.ok.mod.kin hm.kp (thn (ha.run pos pins s1 σ H1 (fun vs H' => ∃ g2 st2 ds, Step g1 st1 H1 g2 st2 H' ∧ Rel (gx X cA) g2 st2 H' ∧ Reps (gx X cA) g2 H' vs ds ∧ sps c (d :: ds) st2 Qd fun _ _ _ => False) I1 ⟨g1, st1, env, _, rl1, en.mono q1, h1, fun ds st2 g2 H2 vs s2 rl2 r2 h2 => ⟨g2, st2, ds, s2, rl2, r2, h2⟩⟩) fun us s2 ⟨vs, H2, I2, r, g2, st2, ds, q2, rl2, rs2, h2⟩ => ⟨I2.kIn, ?_⟩) hst hpl
  have hlen : ds.length + 1 = (pss c).length := by simpa using F.len _ _ _ _ h2
  refine meth_core (c := c) (sh := ⟨ds.length, [], List.range ds.length, []⟩) (ws := []) (zs := []) (es := []) F hr hgd (by rw [slf_full]; exact bnd_full hb hlen.symm) I2 (v := .ref a) rfl r .nil rl2 (r1.mono q2) rs2 .nil rfl rfl ?_ (pq.step (q1.trans q2))
  show sps c (d :: pick (List.range ds.length) (ds ++ [] ++ [])) _ _ _
  rw [List.append_nil, List.append_nil, full_pick]
  exact h2
theorem dm_call0 {cs : List Nat} {sps : Nat → DSp} {pss : Nat → List Str} {pl : Sem Bool} (C : ∀ c ∈ cs, CalM cA X.prog X.w X.K X.mg X.base k c m (pss c) (sps c)) (hr : Room k X.A) (hgd : X.A.guards = some []) (ho : DE cA X o to)
    (ht : eval (.Call (.Attribute o m apos) [] [] pos) X.env = (do
      let ov ← eval o X.env
      standAt apos.atName
      let (f, first) ← holding [ov] (getMethod ov m pl)
      callWith pos f first (backTo pos (starEach [] X.env)) (backToKw pos (keywordEach [] X.env))) := by rfl) :
    DE cA X (.Call (.Attribute o m apos) [] [] pos) (dMeth cs m sps to dNil) := by
  refine ⟨fun pins s σ H Q I h => ?_⟩
  obtain ⟨g, st, env, Qd, rl, en, h, pq⟩ := h
  refine PySem.W.methodCall_KW (pl := pl) (thn (ho.run pins s σ H (fun v H' => ∃ g1 st1 d c fd, Step g st H g1 st1 H' ∧ Rel (gx X cA) g1 st1 H' ∧ Rep (gx X cA) g1 H' v d ∧ look st1 d = .obj c fd ∧ c ∈ cs ∧ fd.lookup m = none ∧ sps c (d :: []) st1 Qd fun _ _ _ => False) I ⟨g, st, env, _, rl, en, h, fun d st1 g1 H1 v s1 rl1 r1 h1 => ?_⟩) fun u s1 ⟨v, H1, I1, rv, g1, st1, d, c, fd, q1, rl1, r1, ed, hc, hl, h1⟩ => ?_) ht
  · split at h1
    · rename_i c fd ed
      exact ⟨g1, st1, d, c, fd, s1, rl1, r1, ed, h1.1, h1.2.1, h1.2.2⟩
    · exact h1.elim
  obtain ⟨f, fdd, F, cl, hm, hb⟩ := (C c hc).ex
  obtain ⟨a, dx, fv, rfl, ea, rf⟩ := see_obj rl1 r1 ed
  obtain rfl : u = Value.ref a := rv
  refine getmeth_ok I1 ea cl hm (rf.lookupN hl) ?_
  have hlen : 1 = (pss c).length := by simpa using F.len _ _ _ _ h1
  refine PySem.W.callWith_K0 (first := [.ref a]) I1.kIn hm.kp ?_
  exact meth_core (c := c) (sh := ⟨0, [], List.range 0, []⟩) (us := []) (vs := []) (ds := []) (ws := []) (zs := []) (es := []) F hr hgd (by rw [slf_full]; exact bnd_full hb hlen.symm) I1 (v := .ref a) rfl .nil .nil rl1 r1 .nil .nil rfl rfl h1 (pq.step q1)
end
end TL
namespace TL
open PySem PySem.Spec PyProof.Rows L2
/-! ### what is known of the own classes 0 .. n - 1; types of trees -/
def tyNames : List String := ["NoneType", "bool", "int", "str", "list", "tuple", "dict"]
structure KCls (K : PySem.W.Frag) (cA : Nat → Addr) (n : Nat) (sub : Nat → Nat → Bool) : Prop where
  cls : ∀ c, c < n → Cls K (cA c)
  cla : ∀ c, c < n → PySem.W.findIn K (.ref (cA c)) "__class__" = some (some (.builtin "object.__class__"))
  get : PySem.W.specialIn K (.builtin "object.__class__") "__get__" = some (some (.builtin "getset_descriptor.__get__"))
  tak : PySem.W.takesIn K (.builtin "object.__class__") = some true
  obj : ∀ c, c < n → PySem.W.mroIn K (cA c) (.type "object") = some true
  toB : ∀ c, c < n → ∀ T ∈ tyNames, PySem.W.kitOne K (.ref (cA c)) (.type T) = some false
  ofB : ∀ c, c < n → ∀ T ∈ tyNames, PySem.W.kitOne K (.type T) (.ref (cA c)) = some false
  two : ∀ c, c < n → ∀ c', c' < n → PySem.W.kitOne K (.ref (cA c)) (.ref (cA c')) = some (sub c c')
/-- the type of a tree -/
def tyD (cA : Nat → Addr) : D → Option Value
  | .non => some (.type "NoneType")
  | .bl _ => some (.type "bool")
  | .int _ => some (.type "int")
  | .str _ => some (.type "str")
  | .tup _ => some (.type "tuple")
  | .lst _ => some (.type "list")
  | .scr _ => some (.type "list")
  | .dct _ => some (.type "dict")
  | .obj c _ => some (.ref (cA c))
  | .ref _ => none
theorem see_non {G : Gx} {g : Gh} {st : Sto} {H : Hp} {v : V} {d : D} (r : Rep G g H v d) (h : look st d = .non) : v = .non := by
  cases r with
  | non => rfl
  | @ref a n e =>
    unfold look at h
    cases q : st n with
    | none => simp [q] at h
    | some m => simp only [q] at h; cases m <;> cases h
  | _ => cases h
section
variable {X : Cx} {cA : Nat → Addr} {n : Nat} {sub : Nat → Nat → Bool}
/-- a tree's value has its type -/
theorem ty_rep {g : Gh} {st : Sto} {H : Hp} {v : V} {d : D} {t : Value} (KC : KCls X.K cA n sub) (rl : Rel (gx X cA) g st H) (r : Rep (gx X cA) g H v d) (h : tyD cA (look st d) = some t) (hc : ∀ c fd, look st d = .obj c fd → c < n) : TyX X.K H v t := by
  cases e : look st d with
  | non => rw [e] at h; cases h; rw [see_non r e]; exact .base .non
  | bl b => rw [e] at h; cases h; rw [see_bl r e]; exact .base (.bl b)
  | int b => rw [e] at h; cases h; rw [see_int r e]; exact .base (.int b)
  | str b => rw [e] at h; cases h; rw [see_str r e]; exact .base (.str b)
  | tup ds =>
    rw [e] at h; cases h
    obtain ⟨a, vs, rfl, ft, _⟩ := see_tup r e
    rcases ft with ⟨_, q | ⟨o, q⟩⟩ | ⟨o, its, m, q1, q2, _⟩
    · exact .base (.tup q)
    · exact .fTuple q
    · exact .kTuple q1 q2
  | lst ds =>
    rw [e] at h; cases h
    obtain ⟨a, vs, rfl, q, _⟩ := see_lst rl r e
    exact .base (.lst q)
  | scr ns =>
    rw [e] at h; cases h
    obtain ⟨a, rfl, fl⟩ := see_scr r e
    rcases fl with ⟨_, q | ⟨o, q⟩⟩ | ⟨o, its, m, q1, q2, _⟩
    · exact .base (.lst q)
    · exact .base (.frz q)
    · exact .kList q1 q2
  | dct kd =>
    rw [e] at h; cases h
    obtain ⟨a, kv, rfl, q, _⟩ := see_dct rl r e
    rcases q with q | ⟨o, q⟩
    · exact .base (.dK q)
    · exact .fDict q
  | obj c fd =>
    rw [e] at h; cases h
    obtain ⟨a, dx, fv, rfl, q, _⟩ := see_obj rl r e
    have hl := hc c fd e
    exact .base (.ins q (KC.cls c hl) (KC.cla c hl) KC.get KC.tak (KC.obj c hl))
  | ref k => rw [e] at h; cases h
/-! ### isinstance -/
/-- against an own class c0 -/
def isO (n : Nat) (sub : Nat → Nat → Bool) (c0 : Nat) : D → Option Bool
  | .obj c _ => if c < n then some (sub c c0) else none
  | .ref _ => none
  | _ => some false
inductive BT where
  | int | bool | str | tup | lst | dct
def BT.nm : BT → String
  | .int => "int" | .bool => "bool" | .str => "str" | .tup => "tuple" | .lst => "list" | .dct => "dict"
/-- against a built-in type -/
def isB (n : Nat) : BT → D → Option Bool
  | _, .obj c _ => if c < n then some false else none
  | _, .ref _ => none
  | .int, .int _ => some true
  | .int, .bl _ => some true
  | .bool, .bl _ => some true
  | .str, .str _ => some true
  | .tup, .tup _ => some true
  | .lst, .lst _ => some true
  | .lst, .scr _ => some true
  | .dct, .dct _ => some true
  | _, _ => some false
theorem isB_ty {g : Gh} {st : Sto} {H : Hp} {v : V} {d : D} {T : BT} {b : Bool} (KC : KCls X.K cA n sub) (rl : Rel (gx X cA) g st H) (r : Rep (gx X cA) g H v d) (h : isB n T (look st d) = some b) : ∃ t, TyX X.K H v t ∧ PySem.W.kitOne X.K t (.type T.nm) = some b := by
  have hc : ∀ c fd, look st d = .obj c fd → c < n := fun c fd e => by
    rw [e] at h
    cases T <;> (simp only [isB] at h; split at h <;> first | assumption | cases h)
  cases e : look st d with
  | obj c fd =>
    have hl := hc c fd e
    refine ⟨.ref (cA c), ty_rep KC rl r (by rw [e]; rfl) hc, ?_⟩
    have hb : b = false := by
      rw [e] at h
      cases T <;> (simp only [isB, if_pos hl] at h; cases h; rfl)
    subst hb
    exact KC.toB c hl _ (by cases T <;> simp [tyNames, BT.nm])
  | ref k => rw [e] at h; cases T <;> simp [isB] at h
  | non => refine ⟨.type "NoneType", ty_rep KC rl r (by rw [e]; rfl) hc, ?_⟩; rw [e] at h; cases T <;> (simp only [isB] at h; cases h; exact kit_ty (by decide +kernel))
  | bl y => refine ⟨.type "bool", ty_rep KC rl r (by rw [e]; rfl) hc, ?_⟩; rw [e] at h; cases T <;> (simp only [isB] at h; cases h; exact kit_ty (by decide +kernel))
  | int y => refine ⟨.type "int", ty_rep KC rl r (by rw [e]; rfl) hc, ?_⟩; rw [e] at h; cases T <;> (simp only [isB] at h; cases h; exact kit_ty (by decide +kernel))
  | str y => refine ⟨.type "str", ty_rep KC rl r (by rw [e]; rfl) hc, ?_⟩; rw [e] at h; cases T <;> (simp only [isB] at h; cases h; exact kit_ty (by decide +kernel))
  | tup y => refine ⟨.type "tuple", ty_rep KC rl r (by rw [e]; rfl) hc, ?_⟩; rw [e] at h; cases T <;> (simp only [isB] at h; cases h; exact kit_ty (by decide +kernel))
  | lst y => refine ⟨.type "list", ty_rep KC rl r (by rw [e]; rfl) hc, ?_⟩; rw [e] at h; cases T <;> (simp only [isB] at h; cases h; exact kit_ty (by decide +kernel))
  | scr y => refine ⟨.type "list", ty_rep KC rl r (by rw [e]; rfl) hc, ?_⟩; rw [e] at h; cases T <;> (simp only [isB] at h; cases h; exact kit_ty (by decide +kernel))
  | dct y => refine ⟨.type "dict", ty_rep KC rl r (by rw [e]; rfl) hc, ?_⟩; rw [e] at h; cases T <;> (simp only [isB] at h; cases h; exact kit_ty (by decide +kernel))
theorem isO_ty {g : Gh} {st : Sto} {H : Hp} {v : V} {d : D} {c0 : Nat} {b : Bool} (KC : KCls X.K cA n sub) (h0 : c0 < n) (rl : Rel (gx X cA) g st H) (r : Rep (gx X cA) g H v d) (h : isO n sub c0 (look st d) = some b) : ∃ t, TyX X.K H v t ∧ PySem.W.kitOne X.K t (.ref (cA c0)) = some b := by
  have hc : ∀ c fd, look st d = .obj c fd → c < n := fun c fd e => by
    rw [e] at h
    simp only [isO] at h; split at h <;> first | assumption | cases h
  cases e : look st d with
  | obj c fd =>
    have hl := hc c fd e
    refine ⟨.ref (cA c), ty_rep KC rl r (by rw [e]; rfl) hc, ?_⟩
    rw [e] at h
    simp only [isO, if_pos hl] at h
    cases h
    exact KC.two c hl c0 h0
  | ref k => rw [e] at h; simp [isO] at h
  | _ => exact ⟨_, ty_rep KC rl r (by rw [e]; rfl) hc, by rw [e] at h; cases h; exact KC.ofB c0 h0 _ (by simp [tyNames])⟩
def rdIsB (n : Nat) (T : BT) : RD1 := fun x st Q => match isB n T (look st x) with
  | some b => Q (.bl b) st
  | none => False
def rdIsO (n : Nat) (sub : Nat → Nat → Bool) (c0 : Nat) : RD1 := fun x st Q => match isO n sub c0 (look st x) with
  | some b => Q (.bl b) st
  | none => False
/-- (c1, c2): the first that fits -/
def rdIsBB (n : Nat) (T U : BT) : RD1 := fun x st Q => match isB n T (look st x), isB n U (look st x) with
  | some b, some c => Q (.bl (b || c)) st
  | _, _ => False
theorem de_isB {T : BT} {e : Expr} {te : TDE} {x : Str} {p q pos : Pos} (KC : KCls X.K cA n sub) (hg : Gl X "isinstance") (hm : X.mg "isinstance" = none) (hg2 : Gl X x) (hm2 : X.mg x = none) (hv : bootBuiltins x = some (.type T.nm)) (he : DE cA X e te)
    (hn : x ≠ "__name__" := by decide) (hdb : (x == ("__debug__" : Str)) = false := by decide) (hs2 : starEach [e, .Name x q] X.env = (false, eval e X.env) :: starEach [.Name x q] X.env := by rfl) (hs3 : starEach [.Name x q] X.env = (false, eval (.Name x q) X.env) :: starEach [] X.env := by rfl)
    (hpl : (backTo pos (starEach [.Name x q] X.env)).any (·.1) = false := by rfl) : DE cA X (.Call (.Name "isinstance" p) [e, .Name x q] [] pos) (dUn (rdIsB n T) te) :=
  pe_weak (pe_callB call_isi hg hm (by decide +kernel) (pa_cons he (pa_cons (pe_bltn (v := .ty T.nm) hg2 hm2 hv rfl hn hdb) pa_nil hs3) hs2) (by decide) (by decide) hs2 hpl) fun σ H Q ⟨g, st, env, Qd, rl, en, h, p⟩ => ⟨g, st, env, _, rl, en, h, fun d st1 g1 H1 v s1 rl1 r1 h1 => by
    unfold rdIsB at h1
    split at h1
    · rename_i b eb
      obtain ⟨t, ty, kt⟩ := isB_ty KC rl1 r1 eb
      exact ⟨v, .ty T.nm, t, .type T.nm, b, rfl, .ty _, ty, kt, p _ _ _ _ _ s1 rl1 (.bl b) h1⟩
    · exact h1.elim⟩
theorem de_isO {c0 : Nat} {e : Expr} {te : TDE} {x : Str} {p q pos : Pos} (KC : KCls X.K cA n sub) (h0 : c0 < n) (hg : Gl X "isinstance") (hm : X.mg "isinstance" = none) (hg2 : Gl X x) (hm2 : X.mg x = some (.ref (cA c0))) (he : DE cA X e te)
    (hdb : (x == ("__debug__" : Str)) = false := by decide) (hs2 : starEach [e, .Name x q] X.env = (false, eval e X.env) :: starEach [.Name x q] X.env := by rfl) (hs3 : starEach [.Name x q] X.env = (false, eval (.Name x q) X.env) :: starEach [] X.env := by rfl)
    (hpl : (backTo pos (starEach [.Name x q] X.env)).any (·.1) = false := by rfl) : DE cA X (.Call (.Name "isinstance" p) [e, .Name x q] [] pos) (dUn (rdIsO n sub c0) te) :=
  pe_weak (pe_callB call_isi hg hm (by decide +kernel) (pa_cons he (pa_cons (pe_glob (v := .ref (cA c0)) hg2 hm2 rfl hdb) pa_nil hs3) hs2) (by decide) (by decide) hs2 hpl) fun σ H Q ⟨g, st, env, Qd, rl, en, h, p⟩ => ⟨g, st, env, _, rl, en, h, fun d st1 g1 H1 v s1 rl1 r1 h1 => by
    unfold rdIsO at h1
    split at h1
    · rename_i b eb
      obtain ⟨t, ty, kt⟩ := isO_ty KC h0 rl1 r1 eb
      exact ⟨v, .ref (cA c0), t, .ref (cA c0), b, rfl, .own _, ty, kt, p _ _ _ _ _ s1 rl1 (.bl b) h1⟩
    · exact h1.elim⟩
end
end TL
namespace PySem.W
open PySem PySem.Spec PySem.Calls PyProof.Rows
section
variable {prog : Program} {w : World} {A : Around} {E : Value → Shared → Prop} {s : Shared} {K : Frag} {x C f : Addr} {ox : Obj} {od : Option Obj} {b tb : Value}
open Builtin in
/-- != where the class has its own == and object's != -/
theorem tl_ne {Q : Value → Shared → Prop} (hu : A.in1.units < cLine) (X : K.In s.heap) (I : InstAt s.heap x ox C od) (hb : Looks (model prog w) s.heap (typeOf b) tb) (hn : notFirst K C tb = true) (hne : findIn K (.ref C) "__ne__" = some (some (.builtin "object.__ne__")))
    (hm : mroIn K C (.type "object") = some true) (hs : findIn K (.ref C) "__eq__" = some (some (.ref f))) (hf : isFn K (.ref f) = true)
    (h : wpAny (model prog w) A.in1 (call (.ref f) [.ref x, b]) (fun v s' => ∃ r, v = .bool r ∧ Q (.bool (!r)) s') E s) : wpAny (model prog w) A (richCompare .NotEq (.ref x) b) Q E s := by
  have hu0 : A.units < cLine := Nat.lt_of_le_of_lt (Nat.le_succ _) hu
  have ent : wpAny (model prog w) A (call (.builtin "object.__ne__") [.ref x, b]) (CmpBack Q) E s := by
    refine wpAny_call (codeAny_call_builtin PySem.F.slot_object_ne.plain PySem.F.cmpEntry_ne (check_slot (i := "object.__ne__") (owner := "object") (n := "__ne__") (by decide +kernel) (by decide +kernel) (I.type.andThen (looks_mroIn X hm)) (PySem.F.cmpArgs_ne _ _) ?_))
    unfold Builtin.«object.__ne__»
    refine wpAny_bind (m := slotArgs "__ne__" 1 _) (wpAny_pure ?_)
    refine wpAny_bind (m := cRoomFor _ _) (wpAny_cRoomFor hu ?_)
    refine wpAny_bind (m := callSpecialIfBound? (.ref x) (Str.ofString "__eq__") _) (ifBound_K X I hs hf (wpAny_mono h (fun r s' hq => ?_) fun _ _ y => y))
    obtain ⟨r, rfl, q⟩ := hq
    refine wpAny_bind (m := truthy (.bool r)) (wpAny_truthy_bool (wpAny_pure ?_))
    exact q
  have one : wpAny (model prog w) A (tryCompare (.ref x) (cmpInfo .NotEq).2.1 b) (fun r s' => ∃ v, r = some v ∧ Q v s') E s := by
    unfold tryCompare
    refine wpAny_bind (NtL.csib (I.type.andThen (looks_findIn X hne)) (PySem.F.slot_object_ne.bind _) (wpAny_mono ent (fun v s' hv => ?_) fun _ _ e => e))
    cases v <;> first | exact hv.elim | exact wpAny_pure ⟨_, rfl, hv⟩
  unfold richCompare
  simp only [oneThing_ref]
  refine wpAny_holding (wpAny_bind (wpAny_cRoomFor hu0 ?_))
  refine wpAny_bind (I.type.here (wpAny_bind (hb.here ?_)))
  split
  · rename_i q
    have e : subIn K tb (.ref C) = some false := by
      rcases Bool.or_eq_true_iff.mp hn with e | e
      · rw [beq_iff_eq.mp e] at q; simp at q
      · exact beq_iff_eq.mp e
    refine wpAny_bind ((looks_subIn X e).here ?_)
    simp only [Bool.false_eq_true, if_false]
    refine wpAny_bind (wpAny_mono one (fun r s' z => ?_) fun _ _ e => e)
    obtain ⟨v, rfl, hq⟩ := z
    exact wpAny_pure hq
  · refine wpAny_bind (wpAny_pure ?_)
    simp only [Bool.false_eq_true, if_false]
    refine wpAny_bind (wpAny_mono one (fun r s' z => ?_) fun _ _ e => e)
    obtain ⟨v, rfl, hq⟩ := z
    exact wpAny_pure hq
end
end PySem.W
namespace TL
open PySem PySem.Spec PyProof.Rows L2
section
variable {X : Cx} {cA : Nat → Addr} {n : Nat} {sub : Nat → Nat → Bool}
/-- a reading of two trees, over the layer -/
def up2 (G : Gx) (rd : RD2) : R2 := fun x y H Q => ∃ g st dx dy Qd, Rel G g st H ∧ Rep G g H x dx ∧ Rep G g H y dy ∧ rd dx dy st Qd ∧ Post G g st H Qd Q
theorem im_up2 {G : Gx} {rd : RD2} : Im2 G (up2 G rd) rd := fun g st H x y dx dy Qd Q rl rx ry h p => ⟨g, st, dx, dy, Qd, rl, rx, ry, h, p⟩
def upA (G : Gx) (rd : List D → Sto → QD → Prop) : List V → Hp → VK → Prop := fun xs H Q => ∃ g st ds Qd, Rel G g st H ∧ Reps G g H xs ds ∧ rd ds st Qd ∧ Post G g st H Qd Q
/-- comparable: its type is known -/
def tyOk (n : Nat) : D → Prop
  | .obj c _ => c < n
  | .ref _ => False
  | _ => True
theorem tyOk_ty {cA : Nat → Addr} {d : D} (h : tyOk n d) : ∃ t, tyD cA d = some t ∧ (∀ c fd, d = .obj c fd → c < n) ∧ ((∃ T ∈ tyNames, t = .type T) ∨ ∃ c, c < n ∧ t = .ref (cA c)) := by
  cases d with
  | obj c fd => exact ⟨_, rfl, fun _ _ e => by cases e; exact h, .inr ⟨c, h, rfl⟩⟩
  | ref k => exact h.elim
  | non => exact ⟨_, rfl, fun _ _ e => (by cases e), .inl ⟨"NoneType", by simp [tyNames], rfl⟩⟩
  | bl _ => exact ⟨_, rfl, fun _ _ e => (by cases e), .inl ⟨"bool", by simp [tyNames], rfl⟩⟩
  | int _ => exact ⟨_, rfl, fun _ _ e => (by cases e), .inl ⟨"int", by simp [tyNames], rfl⟩⟩
  | str _ => exact ⟨_, rfl, fun _ _ e => (by cases e), .inl ⟨"str", by simp [tyNames], rfl⟩⟩
  | tup _ => exact ⟨_, rfl, fun _ _ e => (by cases e), .inl ⟨"tuple", by simp [tyNames], rfl⟩⟩
  | lst _ => exact ⟨_, rfl, fun _ _ e => (by cases e), .inl ⟨"list", by simp [tyNames], rfl⟩⟩
  | scr _ => exact ⟨_, rfl, fun _ _ e => (by cases e), .inl ⟨"list", by simp [tyNames], rfl⟩⟩
  | dct _ => exact ⟨_, rfl, fun _ _ e => (by cases e), .inl ⟨"dict", by simp [tyNames], rfl⟩⟩
/-- classes with an own == -/
structure EqK (K : PySem.W.Frag) (cA : Nat → Addr) (n : Nat) (cs : List Nat) : Prop where
  lt : ∀ c ∈ cs, c < n
  nfB : ∀ c ∈ cs, ∀ T ∈ tyNames, PySem.W.notFirst K (cA c) (.type T) = true
  nfO : ∀ c ∈ cs, ∀ c', c' < n → PySem.W.notFirst K (cA c) (.ref (cA c')) = true
  ne : ∀ c ∈ cs, PySem.W.findIn K (.ref (cA c)) "__ne__" = some (some (.builtin "object.__ne__"))
def rdEqO (n : Nat) (cs : List Nat) (sps : Nat → DSp) (neg : Bool) : RD2 := fun x y st Q => match look st x with
  | .obj c _ => c ∈ cs ∧ tyOk n (look st y) ∧ sps c [x, y] st (fun v st' => match v with | .bl b => Q (.bl (b != neg)) st' | _ => False) fun _ _ _ => False
  | _ => False
theorem eqO_core {k : Nat} {cs : List Nat} {sps : Nat → DSp} {pss : Nat → List Str} {neg : Bool} (KC : KCls X.K cA n sub) (EK : EqK X.K cA n cs) (C : ∀ c ∈ cs, CalM cA X.prog X.w X.K X.mg X.base k c "__eq__" (pss c) (sps c)) (hr : Room (k + 1) X.A) (hgd : X.A.guards = some []) :
    OpR X (compareOp (if neg = true then .NotEq else .Eq)) (up2 (gx X cA) (rdEqO n cs sps neg)) := by
  intro pins s σ H x y v u Q I rx ry ⟨g, st, dx, dy, Qd, rl, rpx, rpy, h, p⟩
  unfold rdEqO at h
  split at h
  · rename_i c fdx ex
    obtain ⟨hc, ty, h⟩ := h
    obtain ⟨f, fd, F, cl, hm, hb⟩ := (C c hc).ex
    obtain ⟨a, ax, fv, rfl, ea, rf⟩ := see_obj rl rpx ex
    obtain rfl : v = Value.ref a := rx
    obtain ⟨t, e1, e2, e3⟩ := tyOk_ty (cA := cA) ty
    obtain ⟨Pt, kt, pt, _⟩ := kit_of I ry (ty_rep KC rl rpy e1 e2)
    have lk := kt.ty (model X.prog X.w) s.heap I.kIn pt
    have nf : PySem.W.notFirst X.K (cA c) t = true := by
      rcases e3 with ⟨T, hT, rfl⟩ | ⟨c', hc', rfl⟩
      · exact EK.nfB c hc T hT
      · exact EK.nfO c hc c' hc'
    obtain ⟨mA, J, _⟩ := ins_get I.hok ea
    obtain ⟨od, J, _⟩ := J.look
    obtain ⟨m0, hF⟩ := I.fr
    have hlen := F.len _ _ _ _ h
    have bd : BindsTo s fd ⟨[.ref a, u], []⟩ ((pss c).zip [.ref a, u]) := by
      have := hb s [.ref a, u] I.kIn (by simpa using hlen)
      simpa using this
    have run : ∀ A : Around, Room k A → A.guards = some [] → Env0 X.prog X.w X.K X.mg X.base A X.stack s H → codeAny (model X.prog X.w) A (.call (.ref f) ⟨[.ref a, u], []⟩) (CR CX0 X.stack X.prog X.w H s (fun w H' => ∃ b, w = .bl b ∧ Q (.bl (b != neg)) H') E0) s := fun A r1 r2 r3 =>
      F.run A X.stack s H ⟨[.ref a, u], []⟩ [.ref a, u] [.ref a, y] _ r1 r2 r3 bd (.cons rfl (.cons ry .nil)) ⟨g, st, _, _, rl, .cons rpx (.cons rpy .nil), h, fun d st' g' H' w s' rl' r' q => by
        cases r' with
        | bl b => exact ⟨b, rfl, p _ _ _ _ _ s' rl' (.bl _) q⟩
        | _ => exact q.elim⟩
    cases neg with
    | false =>
      show wpAny (model X.prog X.w) X.A (richCompare .Eq (.ref a) u) (EP X pins σ Q) X.xe s
      refine PySem.W.cmp_K (op := .Eq) (hr.mono (Nat.le_succ _)).units0 hF I.ok.mod.kin J lk nf hm.at_ hm.fn ?_
      refine wpAny_call (codeAny_mono (run X.A (hr.mono (Nat.le_succ _)) hgd I.env0) fun r s' hq => ?_)
      cases r with
      | error e => exact hq.elim
      | ok fl => cases fl with
        | ret w =>
          obtain ⟨z, H', I', rz, b, rfl, q⟩ := I.after hq
          cases rz
          exact ⟨.bl b, H', I', rfl, by simpa using q⟩
        | _ => exact hq.elim
    | true =>
      show wpAny (model X.prog X.w) X.A (richCompare .NotEq (.ref a) u) (EP X pins σ Q) X.xe s
      refine PySem.W.tl_ne hr.in1.units0 I.kIn J lk nf (EK.ne c hc) (KC.obj c (EK.lt c hc)) hm.at_ hm.fn ?_
      refine wpAny_call (codeAny_mono (run X.A.in1 hr.in1 hgd I.env0.in1) fun r s' hq => ?_)
      cases r with
      | error e => exact hq.elim
      | ok fl => cases fl with
        | ret w =>
          obtain ⟨z, H', I', rz, b, rfl, q⟩ := I.after hq
          cases rz
          exact ⟨b, rfl, .bl _, H', I', rfl, by simpa using q⟩
        | _ => exact hq.elim
  · exact h.elim
theorem rd_or {G : Gx} {r r' : R2} {rd rd' : RD2} (i : Im2 G r rd) (i' : Im2 G r' rd') (b : D → D → Sto → Bool) : Im2 G (fun x y H Q => r x y H Q ∨ r' x y H Q) (fun x y st Q => if b x y st = true then rd x y st Q else rd' x y st Q) := fun g st H x y dx dy Qd Q rl rx ry h p => by
  by_cases hb : b dx dy st = true
  · simp only [hb, if_true] at h; exact .inl (i g st H x y dx dy Qd Q rl rx ry h p)
  · simp only [hb, if_false] at h; exact .inr (i' g st H x y dx dy Qd Q rl rx ry h p)
/-- ==, != where the left side may be an instance -/
def isObj (st : Sto) (x : D) : Bool := match look st x with
  | .obj _ _ => true
  | _ => false
def rdEqC (n : Nat) (cs : List Nat) (sps : Nat → DSp) (neg : Bool) : RD2 := fun x y st Q => if isObj st x = true then rdEqO n cs sps neg x y st Q else rdEq neg x y st Q
section
variable {k : Nat} {cs : List Nat} {sps : Nat → DSp} {pss : Nat → List Str} {a b : Expr} {pos : Pos} {ta tb : TDE} (KC : KCls X.K cA n sub) (EK : EqK X.K cA n cs) (C : ∀ c ∈ cs, CalM cA X.prog X.w X.K X.mg X.base k c "__eq__" (pss c) (sps c)) (hr : Room (k + 1) X.A) (hgd : X.A.guards = some []) (hu : X.A.units + 64 < cLine)
include KC EK C hr hgd hu
theorem de_eqC (ha : DE cA X a ta) (hb : DE cA X b tb) : DE cA X (.Compare a [.Eq] [b] pos) (dOp (rdEqC n cs sps false) ta tb) := de_cmp (OpR.or (eqO_core (neg := false) KC EK C hr hgd) (op_eq.or (op_eqD hu))) (rd_or im_up2 im_eq fun x _ st => isObj st x) ha hb (nomark _)
theorem dt_eqC (ha : DE cA X a ta) (hb : DE cA X b tb) : DT cA X (.Compare a [.Eq] [b] pos) (dTst (dOp (rdEqC n cs sps false) ta tb)) := dt_cmp (OpR.or (eqO_core (neg := false) KC EK C hr hgd) (op_eq.or (op_eqD hu))) (rd_or im_up2 im_eq fun x _ st => isObj st x) ha hb (nomark _)
theorem de_neC (ha : DE cA X a ta) (hb : DE cA X b tb) : DE cA X (.Compare a [.NotEq] [b] pos) (dOp (rdEqC n cs sps true) ta tb) := de_cmp (OpR.or (eqO_core (neg := true) KC EK C hr hgd) (op_ne.or (op_neD hu))) (rd_or im_up2 im_ne fun x _ st => isObj st x) ha hb (nomark _)
theorem dt_neC (ha : DE cA X a ta) (hb : DE cA X b tb) : DT cA X (.Compare a [.NotEq] [b] pos) (dTst (dOp (rdEqC n cs sps true) ta tb)) := dt_cmp (OpR.or (eqO_core (neg := true) KC EK C hr hgd) (op_ne.or (op_neD hu))) (rd_or im_up2 im_ne fun x _ st => isObj st x) ha hb (nomark _)
end
end
end TL
namespace TL
open PySem PySem.Spec PyProof.Rows L2
/-! ### instances called; str(..); f-strings -/
structure CalO (cA : Nat → Addr) (P : Program) (w : World) (K : PySem.W.Frag) (mg : Str → Option Value) (base : Heap) (k : Nat) (c : Nat) (ps : List Str) (sp : DSp) : Prop where
  ex : ∃ (f : Addr) (fd : FuncData), FnT cA P w K mg base k f fd ps sp ∧ Meth K (cA c) "__call__" f ∧ Binds K fd ps [] ∧ PySem.W.fnIn K f = true
section
variable {X : Cx} {cA : Nat → Addr} {k : Nat} {fe e : Expr} {es : List Expr} {pos p : Pos} {tf : TDE} {t : TDA}
def dCallO (cs : List Nat) (sps : Nat → DSp) (tf : TDE) (t : TDA) : TDE := fun env st Q => tf env st fun o st1 => (match o with | .obj c _ => c ∈ cs | _ => False) ∧ t env st1 fun ds st2 => match o with
  | .obj c _ => sps c (o :: ds) st2 Q fun _ _ _ => False
  | _ => False
theorem dc_callO {cs : List Nat} {sps : Nat → DSp} {pss : Nat → List Str} (C : ∀ c ∈ cs, CalO cA X.prog X.w X.K X.mg X.base k c (pss c) (sps c)) (hr : Room k X.A) (hgd : X.A.guards = some []) (hf : DE cA X fe tf) (ha : DA cA X (e :: es) t)
    (ht : eval (.Call fe (e :: es) [] pos) X.env = (do callWith pos (← eval fe X.env) [] (backTo pos (starEach (e :: es) X.env)) (backToKw pos (keywordEach [] X.env))) := by rfl)
    (he : starEach (e :: es) X.env = (false, eval e X.env) :: starEach es X.env := by rfl) (hpl : (backTo pos (starEach es X.env)).any (·.1) = false := by rfl) : DE cA X (.Call fe (e :: es) [] pos) (dCallO cs sps tf t) := by
  refine ⟨fun pins s σ H Q I h => ?_⟩
  obtain ⟨g, st, env, Qd, rl, en, h, pq⟩ := h
  refine Call_ (thn (hf.run pins s σ H (fun v H' => ∃ g1 st1 c fd, Step g st H g1 st1 H' ∧ Rel (gx X cA) g1 st1 H' ∧ Rep (gx X cA) g1 H' v (.obj c fd) ∧ c ∈ cs ∧ t env st1 fun ds st2 => sps c (.obj c fd :: ds) st2 Qd fun _ _ _ => False) I ⟨g, st, env, _, rl, en, h, fun d st1 g1 H1 v s1 rl1 r1 h1 => ?_⟩) fun u s1 ⟨v, H1, I1, rv, g1, st1, c, fd, q1, rl1, r1, hc, h1⟩ => ?_) ht
  · obtain ⟨ha, hb⟩ := h1
    cases d with
    | obj c fd => exact ⟨g1, st1, c, fd, s1, rl1, r1, ha, hb⟩
    | _ => exact ha.elim
  obtain ⟨f, fdd, F, hm, hb, hfi⟩ := (C c hc).ex
  obtain ⟨a, dx, fv, rfl, ea, rf⟩ := see_obj rl1 r1 (st := st1) rfl
  obtain rfl : u = Value.ref a := rv
  refine StX.callO_with (thn (ha.run pos pins s1 σ H1 (fun vs H' => ∃ g2 st2 ds, Step g1 st1 H1 g2 st2 H' ∧ Rel (gx X cA) g2 st2 H' ∧ Reps (gx X cA) g2 H' vs ds ∧ sps c (.obj c fd :: ds) st2 Qd fun _ _ _ => False) I1 ⟨g1, st1, env, _, rl1, en.mono q1, h1, fun ds st2 g2 H2 vs s2 rl2 r2 h2 => ⟨g2, st2, ds, s2, rl2, r2, h2⟩⟩) fun us s2 ⟨vs, H2, I2, r, g2, st2, ds, q2, rl2, rs2, h2⟩ => ?_) he hpl
  have r1' := r1.mono q2
  obtain ⟨a', dx', fv', ea1, ea2, rf'⟩ := see_obj rl2 r1' (st := st2) rfl
  cases ea1
  obtain ⟨mA, O, _⟩ := ins_get I2.hok ea2
  obtain ⟨od, J, _⟩ := O.look
  refine ⟨⟨cA c, _, _, J, rfl⟩, ?_⟩
  refine wpAny_call (PySem.W.kco_code I2.kIn J rfl hm.at_ hm.fn hfi (codeAny_mono (F.run X.A X.stack s2 H2 ⟨.ref a :: us, []⟩ (.ref a :: us) (.ref a :: vs) Q hr hgd I2.env0 ?_ (.cons rfl r) ⟨g2, st2, _, Qd, rl2, .cons r1' rs2, h2, pq.step (q1.trans q2)⟩) fun r s' hq => ?_))
  · have hl := F.len _ _ _ _ h2
    have := hb s2 (.ref a :: us) I2.kIn (by rw [List.append_nil, List.length_cons, ← r.length, rs2.length]; simpa using hl)
    rw [List.append_nil] at this
    exact this
  · cases r with
    | error e => exact hq.elim
    | ok fl => cases fl with
      | ret u => exact I2.after hq
      | _ => exact hq.elim
/-! str(x) -/
def rdStrO (cs : List Nat) (sps : Nat → DSp) : List D → Sto → QD → Prop := fun ds st Q => match ds with
  | [.int i] => i.natAbs.log2 < 1920 ∧ Q (.str (toString i)) st
  | [.str a] => Q (.str a) st
  | [.obj c fd] => c ∈ cs ∧ sps c [.obj c fd] st (fun v st' => match v with | .str t => Q (.str t) st' | _ => False) fun _ _ _ => False
  | _ => False
theorem call_strO {cs : List Nat} {sps : Nat → DSp} {pss : Nat → List Str} (C : ∀ c ∈ cs, CalM cA X.prog X.w X.K X.mg X.base k c "__str__" (pss c) (sps c)) (hr : Room (k + 2) X.A) (hgd : X.A.guards = some []) :
    CallR X (.type "str") (upA (gx X cA) (rdStrO cs sps)) := by
  intro pins s σ H xs us Q I r ⟨g, st, ds, Qd, rl, rs, h, p⟩
  unfold rdStrO at h
  split at h
  · cases rs with
    | cons ra rt => cases rt; cases ra; exact call_str_int pins s σ H _ us Q I r ⟨_, rfl, h.1, p.now rl (.str _) h.2⟩
  · cases rs with
    | cons ra rt => cases rt; cases ra; exact SkE.call_str_str pins s σ H _ us Q I r ⟨_, rfl, p.now rl (.str _) h⟩
  · rename_i c fd
    obtain ⟨hc, h⟩ := h
    cases rs with
    | cons ra rt =>
      cases rt
      obtain ⟨f, fdd, F, cl, hm, hb⟩ := (C c hc).ex
      obtain ⟨a, dx, fv, rfl, ea, rf⟩ := see_obj rl ra (st := st) rfl
      cases r with
      | cons r0 rt0 =>
      cases rt0
      obtain rfl := r0
      obtain ⟨mA, J, _⟩ := ins_get I.hok ea
      obtain ⟨od, J, _⟩ := J.look
      have hr2 : Room k X.A.in1.in1 := hr.in1.in1
      refine PySem.W.kso_call hr2.units0 I.kIn J hm.at_ hm.fn ?_
      have hlen := F.len _ _ _ _ h
      have bd : BindsTo s fdd ⟨[.ref a], []⟩ ((pss c).zip [.ref a]) := by
        have := hb s [.ref a] I.kIn (by simpa using hlen)
        simpa using this
      refine wpAny_call (codeAny_mono (F.run X.A.in1.in1 X.stack s H ⟨[.ref a], []⟩ [.ref a] [.ref a] (fun w H' => ∃ t, w = .str t ∧ Q (.str t) H') hr2 hgd I.env0.in1.in1 bd (.cons rfl .nil) ⟨g, st, _, _, rl, .cons ra .nil, h, fun d st' g' H' w s' rl' r' q => by
        cases r' with
        | str t => exact ⟨t, rfl, p _ _ _ _ _ s' rl' (.str t) q⟩
        | _ => exact q.elim⟩) fun r s' hq => ?_)
      cases r with
      | error e => exact hq.elim
      | ok fl => cases fl with
        | ret w =>
          obtain ⟨z, H', I', rz, t, rfl, q⟩ := I.after hq
          obtain ⟨tk, rfl⟩ := rz
          exact ⟨.str t, H', I', ⟨tk, rfl⟩, q⟩
        | _ => exact hq.elim
  · exact h.elim
theorem de_strO {cs : List Nat} {sps : Nat → DSp} {pss : Nat → List Str} {te : TDE} (C : ∀ c ∈ cs, CalM cA X.prog X.w X.K X.mg X.base k c "__str__" (pss c) (sps c)) (hr : Room (k + 2) X.A) (hgd : X.A.guards = some []) (hg : Gl X "str") (hm : X.mg "str" = none) (he : DE cA X e te)
    (hs : starEach [e] X.env = (false, eval e X.env) :: starEach [] X.env := by rfl) : DE cA X (.Call (.Name "str" p) [e] [] pos) (dCB (rdStrO cs sps) (dCons te dNil)) :=
  pe_weak (pe_callTy (call_strO C hr hgd) hg hm (by decide +kernel) (da_cons he da_nil hs) (by decide) (by decide) hs) fun σ H Q ⟨g, st, env, Qd, rl, en, h, p⟩ => ⟨g, st, env, _, rl, en, h, fun ds st1 g1 H1 vs s1 rl1 r1 h1 => ⟨g1, st1, ds, Qd, rl1, r1, h1, p.step s1⟩⟩
/-- str of ints and texts -/
def rdStr : List D → Sto → QD → Prop := fun ds st Q => match ds with
  | [.int i] => i.natAbs.log2 < 1920 ∧ Q (.str (toString i)) st
  | [.str a] => Q (.str a) st
  | _ => False
theorem de_str1 {te : TDE} (hg : Gl X "str") (hm : X.mg "str" = none) (he : DE cA X e te) (hs : starEach [e] X.env = (false, eval e X.env) :: starEach [] X.env := by rfl) : DE cA X (.Call (.Name "str" p) [e] [] pos) (dCB rdStr (dCons te dNil)) :=
  pe_weak (pe_callTy (CallR.or call_str_int SkE.call_str_str) hg hm (by decide +kernel) (da_cons he da_nil hs) (by decide) (by decide) hs) fun σ H Q ⟨g, st, env, Qd, rl, en, h, p⟩ => ⟨g, st, env, _, rl, en, h, fun ds st1 g1 H1 vs s1 rl1 r1 h1 => by
    unfold rdStr at h1
    split at h1
    · cases r1 with
      | cons ra rt => cases rt; cases ra; exact .inl ⟨_, rfl, h1.1, p _ _ _ _ _ s1 rl1 (.str _) h1.2⟩
    · cases r1 with
      | cons ra rt => cases rt; cases ra; exact .inr ⟨_, rfl, p _ _ _ _ _ s1 rl1 (.str _) h1⟩
    · exact h1.elim⟩
/-! f-strings -/
def dFmt (te : TDE) : TDE := fun env st Q => te env st fun x st1 => match x with
  | .str y => y.length ≤ sizeLine ∧ Q (.str y) st1
  | .int i => i.natAbs.log2 < 1920 ∧ Q (.str (toString i)) st1
  | _ => False
theorem de_fmt {te : TDE} (he : DE cA X e te) : DE cA X (.FormattedValue e (-1) none pos) (dFmt te) :=
  pe_weak (pe_fmt he) fun σ H Q ⟨g, st, env, Qd, rl, en, h, p⟩ => ⟨g, st, env, _, rl, en, h, fun d st1 g1 H1 v s1 rl1 r1 h1 => by
    cases r1 with
    | str y => exact .inl ⟨y, rfl, h1.1, p _ _ _ _ _ s1 rl1 (.str y) h1.2⟩
    | int i => exact .inr ⟨i, rfl, h1.1, p _ _ _ _ _ s1 rl1 (.str _) h1.2⟩
    | _ => exact h1.elim⟩
abbrev TDJ := DSt → Str → Sto → (Str → Sto → Prop) → Prop
def djNil : TDJ := fun _ acc st Q => Q acc st
def djCons (t : TDE) (r : TDJ) : TDJ := fun env acc st Q => t env st fun x st1 => match x with
  | .str y => (acc ++ y).length ≤ sizeLine ∧ r env (acc ++ y) st1 Q
  | _ => False
inductive DJ (cA : Nat → Addr) (X : Cx) : List Expr → List TE → TDJ → Prop
  | nil : DJ cA X [] [] djNil
  | cons {e : Expr} {es : List Expr} {ts : List TE} {t : TDE} {r : TDJ} (h : DE cA X e t) (hr : DJ cA X es ts r) : DJ cA X (e :: es) (liftE (gx X cA) t :: ts) (djCons t r)
theorem DJ.pj : ∀ {es : List Expr} {ts : List TE} {r : TDJ}, DJ cA X es ts r → PJ X es ts
  | _, _, _, .nil => .nil
  | _, _, _, .cons h t => .cons h t.pj
theorem DJ.run : ∀ {es : List Expr} {ts : List TE} {r : TDJ}, DJ cA X es ts r → ∀ {g : Gh} {st : Sto} {H : Hp} {σ : L2.St} {env : DSt} {acc : Str} {Qd : Str → Sto → Prop} {Q : Str → Hp → Prop}, Rel (gx X cA) g st H → EnvR (gx X cA) g H σ env → r env acc st Qd →
    (∀ out st' g' H', Step g st H g' st' H' → Rel (gx X cA) g' st' H' → Qd out st' → Q out H') → tJs ts acc σ H Q
  | _, _, _, .nil, g, st, H, σ, env, acc, Qd, Q, rl, en, h, p => p acc st g H (Step.refl _ _ _) rl h
  | _, _, _, .cons hd tl, g, st, H, σ, env, acc, Qd, Q, rl, en, h, p => ⟨g, st, env, _, rl, en, h, fun d st1 g1 H1 v s1 rl1 r1 h1 => by
    cases r1 with
    | str y => exact ⟨y, rfl, h1.1, tl.run rl1 (en.mono s1) h1.2 fun out st' g' H' s' rl' q => p out st' g' H' (s1.trans s') rl' q⟩
    | _ => exact h1.elim⟩
def dJoined (r : TDJ) : TDE := fun env st Q => r env Str.empty st fun out st1 => Q (.str out) st1
theorem de_joined {v1 v2 : Expr} {rest : List Expr} {ts : List TE} {r : TDJ} (h : DJ cA X (v1 :: v2 :: rest) ts r) : DE cA X (.JoinedStr (v1 :: v2 :: rest) pos) (dJoined r) :=
  pe_weak (pe_joined h.pj) fun σ H Q ⟨g, st, env, Qd, rl, en, hh, p⟩ => h.run rl en hh fun out st' g' H' s' rl' q => p _ _ _ _ _ s' rl' (.str out) q
theorem de_joined1 {te : TDE} (he : DE cA X e te) : DE cA X (.JoinedStr [e] pos) te := pe_joined1 he
/-- a constant of the module -/
theorem de_glob {x : Str} {u : Value} {d : D} (hg : Gl X x) (hm : X.mg x = some u) (hr : CRep X.K cA u d) (hdb : (x == ("__debug__" : Str)) = false := by decide) : DE cA X (.Name x pos) (dC d) := by
  obtain ⟨v, rv, rp⟩ := hr
  exact de_const (pe_glob hg hm rv hdb) rp
end
end TL
namespace TL
open PySem PySem.Spec PyProof.Rows L2
/-! ### defs, methods, classes as the top has written them -/
structure FnB (K : PySem.W.Frag) (x qual : Str) (st : Stmt) (f : Addr) (fd : FuncData) : Prop where
  ex : ∃ (oc : Value) (od : Option Addr) (dV kV doc pm : Value) (an : Option Addr) (cdv ct : Value) (osl : Array (Option Value)),
    fd = PySem.W.fnOf x qual (defArgs st) (defBody st) (defScope st) dV kV doc pm an cdv ct ∧ K.lookup f = some ⟨oc, od, .func fd, osl⟩ ∧ PySem.W.codeIn K cdv qual = true
section
variable {cA : Nat → Addr} {P : Program} {w : World} {K : PySem.W.Frag} {mg : Str → Option Value} {base h : Heap}
theorem fnG {x qual : Str} {st : Stmt} {f : Addr} {fd : FuncData} {N ps : List Str} {k : Nat} {sp : DSp} {tb : TDS} (F : FnB K x qual st f fd) (S : FnScope N ps (defScope st))
    (len : ∀ ds st Q E, sp ds st Q E → ds.length = ps.length) (hd : BodyD cA P w K mg base k qual st N tb)
    (hb : ∀ ds s0 Q, sp ds s0 Q (fun _ _ _ => False) → tb (ends Q) (startD N ds) s0) : FnT cA P w K mg base (k + 1) f fd ps sp := by
  obtain ⟨oc, od, dV, kV, doc, pm, an, cdv, ct, osl, rfl, lk, hcd⟩ := F.ex
  refine ⟨len, fun A outer s H args us vs Q hr hg e0 hbd r hsp => ?_⟩
  obtain ⟨g, s0, ds, Qd, rl, rs, h, p⟩ := hsp
  have hl : vs.length = ps.length := rs.length.trans (len _ _ _ _ h)
  have KX : K.In s.heap := e0.mod.kin.keeps fun b o e => (e0.bs b o e).1
  have lim : s.heap.NoLimit := e0.mod.nolimit.keeps fun b o e => (e0.bs b o e).1
  refine codeAny_call_function hr.depth (KX _ _ lk) rfl S.co S.gen rfl (PySem.W.codeRec_of KX hcd) (hbd _ _ _ _ ?_)
  refine wpAny_newFunctionEnv_cells S.kind (fun y hy => ?_) fun env he s1 x => ?_
  · cases S.par y.1 (List.of_mem_zip (a := y.1) (b := y.2) hy).1 with
    | inl q => exact .inl q
    | inr q => exact .inr ⟨q, PySem.W.cellsFrom_some _ _ _ (.inl q)⟩
  subst he
  refine ⟨lim.keeps x.toInCall.keep, codeAny_func ?_⟩
  have I := inv_start (CX := CX0) (E := E0) S hr.hd e0 hl r x
  have D := PSs.nox (hd f cdv A outer s H (hr.deeper _) hg)
  refine wpAny_mono (D.run [] s1 (L2.start N vs) H { nx := fun _ H' => Q .non H', rt := Q } I
    ⟨g, s0, startD N ds, ends Qd, rl, env_start rs, hb ds s0 Qd h, ⟨fun env1 st1 g1 H1 σ1 q1 rl1 en1 ⟨st', sb, q⟩ => p .non st' g1 H1 .non (q1.sub sb) (rl1.sub sb) .non q, fun d st1 g1 H1 v q1 rl1 r1 ⟨st', sb, q⟩ => p d st' g1 H1 v (q1.sub sb) (rl1.sub sb) r1 q, fun _ _ _ _ _ _ _ _ q => q.elim, fun _ _ _ _ _ _ _ _ q => q.elim⟩⟩) (fun fl s' hs => ?_) fun e s' hs => hs
  cases fl with
  | ret u => obtain ⟨v, σ', H', J, rv, q⟩ := hs; exact ⟨v, H', J.os, J.bare, J.base, J.hok, rv, q⟩
  | next => obtain ⟨σ', H', J, q⟩ := hs; exact ⟨.non, H', J.os, J.bare, J.base, J.hok, rfl, q⟩
  | brk => obtain ⟨_, _, _, q⟩ := hs; exact q.elim
  | cont => obtain ⟨_, _, _, q⟩ := hs; exact q.elim
/-! binding -/
def CReps (K : PySem.W.Frag) (cA : Nat → Addr) : List Value → List D → Prop
  | [], [] => True
  | u :: us, d :: ds => CRep K cA u d ∧ CReps K cA us ds
  | _, _ => False
theorem CReps.split : ∀ {us : List Value} {ds : List D}, CReps K cA us ds → us.length = ds.length ∧ ∃ vs, Vals vs us ∧ ∀ g H, Reps ⟨K, cA⟩ g H vs ds
  | [], [], _ => ⟨rfl, [], .nil, fun _ _ => .nil⟩
  | [], _ :: _, h => h.elim
  | _ :: _, [], h => h.elim
  | u :: us, d :: ds, ⟨⟨v, h1, h2⟩, h3⟩ => by
    obtain ⟨l, vs, h4, h5⟩ := CReps.split h3
    exact ⟨by simp [l], v :: vs, .cons h1 h4, fun g H => .cons (h2 g H) (h5 g H)⟩
theorem crep_int {i : Int} {t : Tok} : CRep K cA (.int i t) (.int i) := ⟨.int i, ⟨t, rfl⟩, fun _ _ => .int i⟩
theorem crep_str {i : Str} {t : Tok} : CRep K cA (.str i t) (.str i) := ⟨.str i, ⟨t, rfl⟩, fun _ _ => .str i⟩
theorem crep_non : CRep K cA .none .non := ⟨.non, rfl, fun _ _ => .non⟩
theorem crep_bl {b : Bool} : CRep K cA (.bool b) (.bl b) := ⟨.bl b, rfl, fun _ _ => .bl b⟩
theorem crep_tup {a : Addr} {o : Obj} {its : Array Value} {m : Nat} {ds : List D} (h1 : K.lookup a = some o) (h2 : o.cls = .type "tuple") (h3 : o.data = .seq its m) (h4 : its.size ≤ sizeLine) (h5 : CReps K cA its.toList ds) : CRep K cA (.ref a) (.tup ds) := by
  obtain ⟨l, vs, r, rp⟩ := h5.split
  exact ⟨.ref a, rfl, fun g H => .tup (.inr ⟨o, its, m, h1, h2, h3, h4, r⟩) (rp g H)⟩
section
variable {x qual : Str} {st : Stmt} {kV doc pm cdv ct : Value} {an : Option Addr} {ps ks : List Str} {n : Nat} {ix : List Nat}
theorem bnd_none (h : ∀ us ws : List Value, us.length = n → ws.length = ks.length → bindArgs (PySem.W.fnOf x qual (defArgs st) (defBody st) (defScope st) .none kV doc pm an cdv ct) ⟨us, ks.zip ws⟩ = pure (ps.zip (pick ix (us ++ ws ++ [])))) :
    Bnd K cA (PySem.W.fnOf x qual (defArgs st) (defBody st) (defScope st) .none kV doc pm an cdv ct) ps ⟨n, ks, ix, []⟩ :=
  ⟨[], [], .nil, fun _ _ => .nil, fun s us ws X l1 l2 => .of_eq (h us ws l1 l2)⟩
theorem bnd_dfl {T : Addr} {o : Obj} {its : List Value} {m : Nat} {dfl : List D} (lT : K.lookup T = some o) (oT : o.data = .seq its.toArray m) (rd : CReps K cA its dfl)
    (h : ∀ us ws its : List Value, us.length = n → ws.length = ks.length → its.length = dfl.length → ∃ k, bindArgs (PySem.W.fnOf x qual (defArgs st) (defBody st) (defScope st) (.ref T) kV doc pm an cdv ct) ⟨us, ks.zip ws⟩ = seqItems? (.ref T) >>= k ∧ k (some its.toArray) = pure (ps.zip (pick ix (us ++ ws ++ its)))) :
    Bnd K cA (PySem.W.fnOf x qual (defArgs st) (defBody st) (defScope st) (.ref T) kV doc pm an cdv ct) ps ⟨n, ks, ix, dfl⟩ := by
  obtain ⟨l, vs, r, rp⟩ := rd.split
  refine ⟨its, vs, r, rp, fun s us ws X l1 l2 => BindsTo.of_looks fun M => ?_⟩
  obtain ⟨k, e1, e2⟩ := h us ws its l1 l2 l
  rw [e1]
  exact looks_items X lT oT (.of_pure e2)
end
/-! methods -/
structure MeW (K : PySem.W.Frag) (C : Addr) (m qual : Str) (st : Stmt) (ps : List Str) : Prop where
  ex : ∃ (f : Addr) (fd : FuncData), FnB K m qual st f fd ∧ Meth K C m f ∧ Binds K fd ps [] ∧ PySem.W.fnIn K f = true
theorem mew_mk {C f : Addr} {m qual : Str} {st : Stmt} {ps : List Str} {oc : Value} {od an : Option Addr} {osl : Array (Option Value)} {kV doc pm cdv ct : Value} (a : PySem.W.findIn K (.ref C) m = some (some (.ref f))) (i : PySem.W.isFn K (.ref f) = true) (kp : PySem.W.keepIn K (.ref f) = true)
    (l : K.lookup f = some ⟨oc, od, .func (PySem.W.fnOf m qual (defArgs st) (defBody st) (defScope st) .none kV doc pm an cdv ct), osl⟩) (c : PySem.W.codeIn K cdv qual = true) (fi : PySem.W.fnIn K f = true)
    (hb : ∀ (kV doc pm : Value) (an : Option Addr) (cdv ct : Value) (us : List Value), us.length = ps.length → bindArgs (PySem.W.fnOf m qual (defArgs st) (defBody st) (defScope st) .none kV doc pm an cdv ct) ⟨us, []⟩ = pure (ps.zip us)) : MeW K C m qual st ps :=
  ⟨f, _, ⟨oc, od, .none, kV, doc, pm, an, cdv, ct, osl, rfl, l, c⟩, ⟨a, i, kp⟩, .all (hb kV doc pm an cdv ct), fi⟩
theorem MeW.cal {c : Nat} {m qual : Str} {st : Stmt} {N ps : List Str} {k : Nat} {sp : DSp} {tb : TDS} (W : MeW K (cA c) m qual st ps) (cl : Cls K (cA c)) (S : FnScope N ps (defScope st)) (len : ∀ ds st Q E, sp ds st Q E → ds.length = ps.length) (hd : BodyD cA P w K mg base k qual st N tb)
    (hb : ∀ ds s0 Q, sp ds s0 Q (fun _ _ _ => False) → tb (ends Q) (startD N ds) s0) : CalM cA P w K mg base (k + 1) c m ps sp := by
  obtain ⟨f, fd, F, hm, hbd, _⟩ := W.ex
  exact ⟨f, fd, fnG F S len hd hb, cl, hm, hbd⟩
theorem MeW.calO {c : Nat} {qual : Str} {st : Stmt} {N ps : List Str} {k : Nat} {sp : DSp} {tb : TDS} (W : MeW K (cA c) "__call__" qual st ps) (S : FnScope N ps (defScope st)) (len : ∀ ds st Q E, sp ds st Q E → ds.length = ps.length) (hd : BodyD cA P w K mg base k qual st N tb)
    (hb : ∀ ds s0 Q, sp ds s0 Q (fun _ _ _ => False) → tb (ends Q) (startD N ds) s0) : CalO cA P w K mg base (k + 1) c ps sp := by
  obtain ⟨f, fd, F, hm, hbd, fi⟩ := W.ex
  exact ⟨f, fd, fnG F S len hd hb, hm, hbd, fi⟩
/-! classes -/
structure InW (K : PySem.W.Frag) (mg : Str → Option Value) (cA : Nat → Addr) (x : Str) (c : Nat) (qual : Str) (st : Stmt) (ps : List Str) (shs : List Shape) : Prop where
  ex : ∃ (f : Addr) (fd : FuncData), FnB K "__init__" qual st f fd ∧ Mk K (cA c) f ∧ mg x = some (.ref (cA c)) ∧ ∀ sh ∈ shs, Bnd K cA fd ps (slf sh)
def spNew (c : Nat) (z : Bool) (sp : DSp) (m : Nat) : DSp := fun ds st Q _ => ∃ n es st0 Q0, ds = .ref n :: es ∧ es.length + 1 = m ∧ st = sup st0 n (.obj c []) ∧ st0 n = none ∧ sp es st0 Q0 (fun _ _ _ => False) ∧ Q = fun v st2 => v = .non ∧ fin z n st2 Q0
theorem InW.cal {x : Str} {c : Nat} {z : Bool} {qual : Str} {st : Stmt} {N ps : List Str} {shs : List Shape} {k : Nat} {sp : DSp} {tb : TDS} (W : InW K mg cA x c qual st ps shs) (S : FnScope N ps (defScope st)) (len : ∀ ds st Q E, sp ds st Q E → ds.length + 1 = ps.length) (hd : BodyD cA P w K mg base k qual st N tb)
    (hb : ∀ ds s0 Q, sp ds s0 Q (fun _ _ _ => False) → ∀ n, s0 n = none → tb (ends fun v st2 => v = .non ∧ fin z n st2 Q) (startD N (.ref n :: ds)) (sup s0 n (.obj c []))) : CalNK cA P w K mg base (k + 1) x ps sp shs := by
  obtain ⟨f, fd, F, M, hm, hbd⟩ := W.ex
  refine ⟨c, z, f, fd, spNew c z sp ps.length, fnG F S ?_ hd ?_, M, hm, hbd, fun ds s0 Q h n hn => ⟨n, ds, s0, Q, rfl, len _ _ _ _ h, rfl, hn, h, rfl⟩⟩
  · rintro ds st Q E ⟨n, es, s0, Q0, rfl, h, _⟩
    simpa using h
  · rintro ds st Q ⟨n, es, s0, Q0, rfl, h, rfl, hn, hs, rfl⟩
    exact hb es s0 Q0 hs n hn
end
/-! facts of classes by one look -/
def clsA (l : List Addr) : Nat → Addr := fun c => l.getD c 0
def clsB (K : PySem.W.Frag) (C : Addr) : Bool :=
  PySem.W.plainGet K C Str.empty && PySem.W.hasDictIn K C && PySem.W.plainOver K C && (PySem.W.findIn K (.ref C) "__setattr__" == some (some (.builtin "object.__setattr__"))) && (PySem.W.findIn K (.ref C) "__class__" == some (some (.builtin "object.__class__"))) &&
  (PySem.W.mroIn K C (.type "object") == some true) && (tyNames.all fun T => (PySem.W.kitOne K (.ref C) (.type T) == some false) && (PySem.W.kitOne K (.type T) (.ref C) == some false))
def kclsB (K : PySem.W.Frag) (l : List Addr) (sub : Nat → Nat → Bool) : Bool :=
  (PySem.W.specialIn K (.builtin "object.__class__") "__get__" == some (some (.builtin "getset_descriptor.__get__"))) && (PySem.W.takesIn K (.builtin "object.__class__") == some true) && ((List.range l.length).all fun c => clsB K (clsA l c)) &&
  ((List.range l.length).all fun c => (List.range l.length).all fun c' => PySem.W.kitOne K (.ref (clsA l c)) (.ref (clsA l c')) == some (sub c c'))
theorem kcls_of {K : PySem.W.Frag} {l : List Addr} {sub : Nat → Nat → Bool} (h : kclsB K l sub = true) : KCls K (clsA l) l.length sub := by
  unfold kclsB at h
  simp only [Bool.and_eq_true, List.all_eq_true, List.mem_range, beq_iff_eq] at h
  obtain ⟨⟨⟨h1, h2⟩, h3⟩, h4⟩ := h
  have c3 : ∀ c, c < l.length → _ := fun c hc => h3 c hc
  unfold clsB at c3
  simp only [Bool.and_eq_true, List.all_eq_true, beq_iff_eq] at c3
  exact ⟨fun c hc => let q := c3 c hc; ⟨q.1.1.1.1.1.1, q.1.1.1.1.1.2, q.1.1.1.1.2, q.1.1.1.2⟩, fun c hc => (c3 c hc).1.1.2, h1, h2, fun c hc => (c3 c hc).1.2, fun c hc T hT => ((c3 c hc).2 T hT).1, fun c hc T hT => ((c3 c hc).2 T hT).2, fun c hc c' hc' => h4 c hc c' hc'⟩
def fldB (K : PySem.W.Frag) (l : List Addr) (f : Str) (cs : List Nat) : Bool := cs.all fun c => decide (c < l.length) && (PySem.W.findIn K (.ref (clsA l c)) f == some none)
theorem fld_of {K : PySem.W.Frag} {l : List Addr} {sub : Nat → Nat → Bool} {f : Str} {cs : List Nat} (KC : KCls K (clsA l) l.length sub) (h : fldB K l f cs = true) : FldK K (clsA l) f cs := by
  unfold fldB at h
  simp only [Bool.and_eq_true, List.all_eq_true, decide_eq_true_eq, beq_iff_eq] at h
  exact ⟨fun c hc => ⟨KC.cls c (h c hc).1, (h c hc).2⟩⟩
def eqB (K : PySem.W.Frag) (l : List Addr) (cs : List Nat) : Bool := cs.all fun c => decide (c < l.length) && (tyNames.all fun T => PySem.W.notFirst K (clsA l c) (.type T)) && ((List.range l.length).all fun c' => PySem.W.notFirst K (clsA l c) (.ref (clsA l c'))) && (PySem.W.findIn K (.ref (clsA l c)) "__ne__" == some (some (.builtin "object.__ne__")))
theorem eqk_of {K : PySem.W.Frag} {l : List Addr} {cs : List Nat} (h : eqB K l cs = true) : EqK K (clsA l) l.length cs := by
  unfold eqB at h
  simp only [Bool.and_eq_true, List.all_eq_true, decide_eq_true_eq, beq_iff_eq, List.mem_range] at h
  exact ⟨fun c hc => (h c hc).1.1.1, fun c hc T hT => (h c hc).1.1.2 T hT, fun c hc c' hc' => (h c hc).1.2 c' hc', fun c hc => (h c hc).2⟩
theorem mk_of {K : PySem.W.Frag} {C f : Addr} (h : (PySem.W.makesIn K C && (PySem.W.findIn K (.ref C) "__init__" == some (some (.ref f))) && PySem.W.isFn K (.ref f) && PySem.W.keepIn K (.ref C)) = true) : Mk K C f := by
  simp only [Bool.and_eq_true, beq_iff_eq] at h
  exact ⟨h.1.1.1, h.1.1.2, h.1.2, h.2⟩
def subE : Nat → Nat → Bool := fun a b => a == b
end TL
namespace TL
open PySem PySem.Spec PyProof.Rows L2
section
variable {X : Cx} {cA : Nat → Addr}
/-- {} -/
def dDnew : TDE := fun _ st Q => Q (.dct []) st
def dDnewM : TDE := fun _ st Q => ∀ n, st n = none → Q (.ref n) (sup st n (.dct []))
theorem de_dnew {pos : Pos} : DE cA X (.Dict [] [] pos) dDnew := pe_weak pe_dnewK fun σ H Q ⟨g, st, env, Qd, rl, en, h, p⟩ a ha => by
  obtain ⟨s, rl'⟩ := rl.lay (o := .dK []) ha
  exact p _ _ _ _ _ s rl' (.dct ⟨rl.free ha, .inl upd_same⟩ .nil) h
theorem de_dnewM {pos : Pos} : DE cA X (.Dict [] [] pos) dDnewM := pe_weak pe_dnewK fun σ H Q ⟨g, st, env, Qd, rl, en, h, p⟩ a ha => by
  obtain ⟨n, hn, hs⟩ := rl.fresh
  obtain ⟨s, rl'⟩ := rl.cellNew (o := .dK []) (m := .dct []) ha hn fun g' _ s' => ⟨[], upd_same, .nil⟩
  exact p _ _ _ _ _ s rl' (.ref (by simp [Gh.new])) (h n hs)
end
end TL
namespace TL
open PySem PySem.Spec PyProof.Rows L2
theorem all_nil {α : Type} {P : α → Prop} : ∀ x ∈ ([] : List α), P x := fun _ h => by cases h
theorem all_cons {α : Type} {P : α → Prop} {a : α} {l : List α} (h : P a) (r : ∀ x ∈ l, P x) : ∀ x ∈ a :: l, P x := fun x hx => by
  rcases List.mem_cons.mp hx with rfl | hx
  · exact h
  · exact r x hx
theorem inw_mk {K : PySem.W.Frag} {mg : Str → Option Value} {cA : Nat → Addr} {h : Heap} {x : Str} {c : Nat} {qual : Str} {st : Stmt} {ps : List Str} {shs : List Shape} {C f : Addr} {oc : Value} {od an : Option Addr} {osl : Array (Option Value)} {dV kV doc pm cdv ct : Value} (X : K.In h) (G : h.Ns mainGlobals mg)
    (aC : PySem.W.nsIn K mainGlobals x = some (some (.ref C))) (hC : cA c = C) (ai : PySem.W.findIn K (.ref C) "__init__" = some (some (.ref f)))
    (l : K.lookup f = some ⟨oc, od, .func (PySem.W.fnOf "__init__" qual (defArgs st) (defBody st) (defScope st) dV kV doc pm an cdv ct), osl⟩) (cd : PySem.W.codeIn K cdv qual = true) (mk : PySem.W.makesIn K C = true) (i : PySem.W.isFn K (.ref f) = true) (kc : PySem.W.keepIn K (.ref C) = true)
    (hb : ∀ sh ∈ shs, Bnd K cA (PySem.W.fnOf "__init__" qual (defArgs st) (defBody st) (defScope st) dV kV doc pm an cdv ct) ps (slf sh)) : InW K mg cA x c qual st ps shs := by
  subst hC
  exact ⟨f, _, ⟨oc, od, dV, kV, doc, pm, an, cdv, ct, osl, rfl, l, cd⟩, ⟨mk, ai, i, kc⟩, PySem.W.mg_of X G aC, hb⟩
end TL
namespace TL
open PySem PySem.Spec PyProof.Rows L2
section
variable {X : Cx} {cA : Nat → Addr}
/-! ### starred items -/
def dStar (te : TDE) (t : TDA) : TDA := fun env st Q => te env st fun x st1 => match seqL st1 x with
  | some ds => t env st1 fun es st2 => Q (ds ++ es) st2
  | none => False
theorem da_star {e : Expr} {es : List Expr} {te : TDE} {t : TDA} {p : Pos} (he : DE cA X e te) (hr : DA cA X es t) (hs : starEach (.Starred e p :: es) X.env = (true, eval e X.env) :: starEach es X.env := by rfl) : DA cA X (.Starred e p :: es) (dStar te t) :=
  pa_weak (StX.pa_star he hr hs) fun σ H Q ⟨g, st, env, Qd, rl, en, h, p⟩ => ⟨g, st, env, _, rl, en, h, fun d st1 g1 H1 v s1 rl1 r1 h1 => by
    unfold seqL at h1
    split at h1
    · rename_i ds ed
      split at ed
      · rename_i es' el
        cases ed
        obtain ⟨a, vs, rfl, q, rs⟩ := see_lst rl1 r1 el
        exact ⟨a, vs, rfl, .inr (.of q), g1, st1, env, _, rl1, en.mono s1, h1, fun es2 st2 g2 H2 ws s2 rl2 r2 h2 => p _ _ _ _ _ (s1.trans s2) rl2 ((rs.mono s2).append r2) h2⟩
      · rename_i es' el
        cases ed
        obtain ⟨a, vs, rfl, q, rs⟩ := see_tup r1 el
        exact ⟨a, vs, rfl, .inl q.sq, g1, st1, env, _, rl1, en.mono s1, h1, fun es2 st2 g2 H2 ws s2 rl2 r2 h2 => p _ _ _ _ _ (s1.trans s2) rl2 ((rs.mono s2).append r2) h2⟩
      · cases ed
    · exact h1.elim⟩
/-! ### all, any of a list of bools -/
def boolsOf : List D → Option (List Bool)
  | [] => some []
  | .bl b :: r => (boolsOf r).map (b :: ·)
  | _ => none
theorem bools_rep {G : Gx} {g : Gh} {H : Hp} : ∀ {vs : List V} {ds : List D} {bs : List Bool}, Reps G g H vs ds → boolsOf ds = some bs → vs = bs.map V.bl
  | _, _, _, .nil, h => by simp only [boolsOf] at h; cases h; rfl
  | _, _, _, .cons (d := d) r t, h => by
    cases r with
    | bl b =>
      simp only [boolsOf] at h
      obtain ⟨r, h1, rfl⟩ := Option.map_eq_some_iff.mp h
      rw [bools_rep t h1]; rfl
    | _ => simp [boolsOf] at h
theorem boolsOf_map (bs : List Bool) : boolsOf (bs.map D.bl) = some bs := by
  induction bs with
  | nil => rfl
  | cons b r ih => simp only [List.map_cons, boolsOf, ih]; rfl
def rdAll : List D → Sto → QD → Prop := fun ds st Q => match ds with
  | [d] => match look st d with
    | .lst es => match boolsOf es with
      | some bs => Q (.bl (bs.all id)) st
      | none => False
    | _ => False
  | _ => False
def rdAny : List D → Sto → QD → Prop := fun ds st Q => match ds with
  | [d] => match look st d with
    | .lst es => match boolsOf es with
      | some bs => Q (.bl (bs.any id)) st
      | none => False
    | _ => False
  | _ => False
theorem de_all {e : Expr} {te : TDE} {p pos : Pos} (hc : X.calm = true) (hg : Gl X "all") (hm : X.mg "all" = none) (he : DE cA X e te) (hs : starEach [e] X.env = (false, eval e X.env) :: starEach [] X.env := by rfl) : DE cA X (.Call (.Name "all" p) [e] [] pos) (dCB rdAll (dCons te dNil)) :=
  pe_weak (pe_callB (cr_all hc) hg hm (by decide +kernel) (da_cons he da_nil hs) (by decide) (by decide) hs) fun σ H Q ⟨g, st, env, Qd, rl, en, h, p⟩ => ⟨g, st, env, _, rl, en, h, fun ds st1 g1 H1 vs s1 rl1 r1 h1 => by
    unfold rdAll at h1
    split at h1
    · cases r1 with
      | cons ra rt =>
        cases rt
        split at h1
        · rename_i es el
          split at h1
          · rename_i bs eb
            obtain ⟨a, ws, rfl, q, rs⟩ := see_lst rl1 ra el
            rw [bools_rep rs eb] at q
            exact ⟨a, bs, rfl, .of q, p _ _ _ _ _ s1 rl1 (.bl _) h1⟩
          · exact h1.elim
        · exact h1.elim
    · exact h1.elim⟩
theorem de_any {e : Expr} {te : TDE} {p pos : Pos} (hc : X.calm = true) (hg : Gl X "any") (hm : X.mg "any" = none) (he : DE cA X e te) (hs : starEach [e] X.env = (false, eval e X.env) :: starEach [] X.env := by rfl) : DE cA X (.Call (.Name "any" p) [e] [] pos) (dCB rdAny (dCons te dNil)) :=
  pe_weak (pe_callB (cr_any hc) hg hm (by decide +kernel) (da_cons he da_nil hs) (by decide) (by decide) hs) fun σ H Q ⟨g, st, env, Qd, rl, en, h, p⟩ => ⟨g, st, env, _, rl, en, h, fun ds st1 g1 H1 vs s1 rl1 r1 h1 => by
    unfold rdAny at h1
    split at h1
    · cases r1 with
      | cons ra rt =>
        cases rt
        split at h1
        · rename_i es el
          split at h1
          · rename_i bs eb
            obtain ⟨a, ws, rfl, q, rs⟩ := see_lst rl1 ra el
            rw [bools_rep rs eb] at q
            exact ⟨a, bs, rfl, .of q, p _ _ _ _ _ s1 rl1 (.bl _) h1⟩
          · exact h1.elim
        · exact h1.elim
    · exact h1.elim⟩
/-! ### a <= b <= c, of ints -/
def dChain (f f' : Int → Int → Bool) (ta tb tc : TDE) : TDE := fun env st Q => ta env st fun x st1 => tb env st1 fun y st2 => match x, y with
  | .int i, .int j => if f i j = true then tc env st2 fun z st3 => (match z with
      | .int k => Q (.bl (f' j k)) st3
      | _ => False) else Q (.bl false) st2
  | _, _ => False
theorem de_chain {a b c : Expr} {op op' : CmpOp} {pos : Pos} {f f' : Int → Int → Bool} {ta tb tc : TDE} (ho : OpR X (compareOp op) (rI0 fun i j => .bl (f i j))) (ho' : OpR X (compareOp op') (rI0 fun i j => .bl (f' i j))) (ha : DE cA X a ta) (hb : DE cA X b tb) (hc : DE cA X c tc)
    (hm : lastMarks [op, op'] [b, c] = false := by with_unfolding_all rfl) : DE cA X (.Compare a [op, op'] [b, c] pos) (dChain f f' ta tb tc) :=
  pe_weak (pe_chain ho ho' ha hb hc hm) fun σ H Q ⟨g, st, env, Qd, rl, en, h, p⟩ => ⟨g, st, env, _, rl, en, h, fun x st1 g1 H1 v s1 rl1 r1 h1 => ⟨g1, st1, env, _, rl1, en.mono s1, h1, fun y st2 g2 H2 u s2 rl2 r2 h2 => by
    have r1' := r1.mono s2
    cases r1' with
    | int i => cases r2 with
      | int j =>
        refine ⟨i, j, rfl, rfl, f i j, rfl, ?_⟩
        cases hf : f i j with
        | false =>
          simp only [hf] at h2
          exact p _ _ _ _ _ (s1.trans s2) rl2 (.bl false) h2
        | true =>
          simp only [hf, if_true] at h2 ⊢
          refine ⟨g2, st2, env, _, rl2, (en.mono s1).mono s2, h2, fun z st3 g3 H3 t s3 rl3 r3 h3 => ?_⟩
          cases r3 with
          | int k => exact ⟨j, k, rfl, rfl, p _ _ _ _ _ ((s1.trans s2).trans s3) rl3 (.bl _) h3⟩
          | _ => exact h3.elim
      | _ => exact h2.elim
    | _ => exact h2.elim⟩⟩
def cLe : Int → Int → Bool := fun i j => decide (i ≤ j)
def cLt : Int → Int → Bool := fun i j => decide (i < j)
theorem dt_of {e : Expr} {t : TDE} (h : DE cA X e t) (he : ∀ whole, isTrue e X.env whole = (do let v ← whole; standAt e.pos; holding [v] (truthy v)) := by intro _; rfl) : DT cA X e (dTst t) := dt_val h he
end
/-! ### keyword-only defaults -/
section
variable {cA : Nat → Addr} {K : PySem.W.Frag} {x qual : Str} {st : Stmt} {doc pm cdv ct : Value} {an : Option Addr} {ps ks : List Str} {n : Nat} {ix : List Nat}
theorem bnd_kw {Dd : Addr} {lk : List Str} {its : List Value} {dfl : List D} (hq : ∀ q ∈ lk.zip its, PySem.W.nsIn K Dd q.1 = some (some q.2)) (rd : CReps K cA its dfl)
    (h : ∀ us ws its : List Value, us.length = n → ws.length = ks.length → its.length = dfl.length → KwChain Dd (lk.zip its) (bindArgs (PySem.W.fnOf x qual (defArgs st) (defBody st) (defScope st) .none (.ref Dd) doc pm an cdv ct) ⟨us, ks.zip ws⟩) (ps.zip (pick ix (us ++ ws ++ its)))) :
    Bnd K cA (PySem.W.fnOf x qual (defArgs st) (defBody st) (defScope st) .none (.ref Dd) doc pm an cdv ct) ps ⟨n, ks, ix, dfl⟩ := by
  obtain ⟨l, vs, r, rp⟩ := rd.split
  exact ⟨its, vs, r, rp, fun s us ws X l1 l2 => BindsTo.of_looks fun M => KwChain.looks X hq (h us ws its l1 l2 l)⟩
theorem kw_nil {Dd : Addr} : ∀ q ∈ ([] : List Str).zip ([] : List Value), PySem.W.nsIn K Dd q.1 = some (some q.2) := fun q h => by cases h
theorem kw_cons {Dd : Addr} {y : Str} {u : Value} {lk : List Str} {its : List Value} (h : PySem.W.nsIn K Dd y = some (some u)) (r : ∀ q ∈ lk.zip its, PySem.W.nsIn K Dd q.1 = some (some q.2)) : ∀ q ∈ (y :: lk).zip (u :: its), PySem.W.nsIn K Dd q.1 = some (some q.2) := fun q hq => by
  rw [List.zip_cons_cons] at hq
  rcases List.mem_cons.mp hq with rfl | hq
  · exact h
  · exact r q hq
end
end TL
namespace TL
open PySem PySem.Spec PyProof.Rows L2
section
variable {X : Cx} {cA : Nat → Addr}
/-! ### a list in a cell is walked: the cell is hidden meanwhile, then told again -/
theorem sub_del {st : Sto} {n : Nat} : Sub (sdel st n) st := fun k m h => by
  unfold sdel at h
  split at h
  · cases h
  · exact h
theorem step_hide {g : Gh} {st : Sto} {H : Hp} {n : Nat} : Step g st H g (sdel st n) H := (Step.refl g st H).sub sub_del
theorem step_show {g g' : Gh} {st st' : Sto} {H H' : Hp} {n : Nat} {m m' : MO} (h : st n = some m) (s : Step g (sdel st n) H g' st' H') : Step g st H g' (sup st' n m') H' := by
  have nob : ∀ a, Nob g st a → Nob g (sdel st n) a := fun a w k hk => by
    obtain ⟨h1, h2⟩ := w k hk
    exact ⟨sub_del.none h1, h2⟩
  refine ⟨s.rho, fun k a e q => ?_, fun a o w e => s.own a o (nob a w) e, fun a o w e q => s.ex a o (nob a w) e q, s.dk⟩
  have : k ≠ n := by rintro rfl; rw [h] at q; cases q
  rw [sup_ne this]
  exact s.hid k a e (sub_del.none q)
/-- the hidden list, behind any step -/
theorem hid_at {G : Gx} {g g' : Gh} {st st' : Sto} {H H' : Hp} {n : Nat} {a : Addr} {ws : List V} {ds : List D} (s : Step g (sdel st n) H g' st' H') (rh : g.rho n = some a) (ow : g.own a = some n) (e : H a = some (.lst ws)) (rs : Reps G g H ws ds) :
    g'.rho n = some a ∧ g'.own a = some n ∧ H' a = some (.lst ws) ∧ Reps G g' H' ws ds := by
  have nb : Nob g (sdel st n) a := fun k hk => by
    rw [ow] at hk; cases hk
    exact ⟨by simp [sdel], a, rh⟩
  exact ⟨s.rho n a rh, (s.own a _ nb e).trans ow, s.ex a _ nb e (.inl rfl), rs.mono s⟩
theorem wk_cell {G : Gx} {g : Gh} {st : Sto} {H : Hp} {n : Nat} {a : Addr} {ws : List V} {ds : List D} (rh : g.rho n = some a) (ow : g.own a = some n) (e : H a = some (.lst ws)) (rs : Reps G g H ws ds) : Wk G g (sdel st n) H (Itl G.K a) ds :=
  wk_seq (xs := ws) (at' := fun H => SqL G.K H a ws) (fun g' st' H' s => let ⟨_, _, c, d⟩ := hid_at s rh ow e rs; ⟨.of c, d⟩) (fun i x H a e => ⟨_, x, a, e⟩) (fun i H x H' a y => ⟨y.1, y.2 _ a⟩) (fun H a => ⟨_, a, Nat.le_refl _⟩)
/-- the walk of a list comprehension, from where its source stands -/
theorem lc_rest {G : Gx} {t : TDG} {tt : TDT} {te : TDE} {vs : List Nat} {σ : L2.St} {H H1 : Hp} {Q : VK} {env : DSt} {g g1 : Gh} {st st1 : Sto} {R : List D → Sto → Prop} {J : It} {ds : List D} (en : EnvR G g H σ env) (s1 : Step g st H g1 st1 H1) (rl1 : Rel G g1 st1 H1) (wk : Wk G g1 st1 H1 J ds)
    (h1 : dLcGo t tt te (wipeD env vs) ds [] st1 R)
    (p : ∀ out st' g' H' a ws n, H1 a = none → g1.rho n = none → Step g1 st1 H1 g' st' H' → Rel G g' st' H' → H' a = some (.lst ws) → g'.own a = some n → g'.rho n = some a → st' n = none → Reps G g' H' ws out → R out st' → Q (.ref a) H') :
    tLc (fun _ _ R => R J H1) (liftG G vs t) (liftT G tt) (liftE G te) vs σ H Q := by
  intro A hA
  obtain ⟨n, hn, hs⟩ := rl1.fresh
  obtain ⟨s2, rl2⟩ := rl1.cellNew (o := .lst []) (m := .lst []) hA hn fun g' _ s' => ⟨[], upd_same, .nil⟩
  have s2' : Step g1 st1 H1 (g1.new n A) st1 (upd H1 A (.lst [])) := s2.sub (Sub.new hs)
  have rl2' : Rel G (g1.new n A) st1 (upd H1 A (.lst [])) := rl2.sub (Sub.new hs)
  -- what holds between two turns
  refine ⟨fun i m H' => i ≤ ds.length ∧ m = ds.length - i ∧ ∃ g' st' acc ws, Step g1 st1 H1 g' st' H' ∧ Rel G g' st' H' ∧ H' A = some (.lst ws) ∧ g'.own A = some n ∧ g'.rho n = some A ∧ st' n = none ∧ Reps G g' H' ws acc ∧ dLcGo t tt te (wipeD env vs) (ds.drop i) acc st' R,
    ⟨_, Nat.zero_le _, rfl, g1.new n A, st1, [], [], s2', rl2', upd_same, by simp [Gh.new], by simp [Gh.new], hs, .nil, h1⟩, ?_⟩
  rintro i m H3 ⟨hi, rfl, g3, st3, acc, ws, s3, rl3, hA3, ow3, rh3, st3n, rs3, h3⟩
  by_cases hlt : i < ds.length
  · rw [List.drop_eq_getElem_cons hlt] at h3
    obtain ⟨go, yld⟩ := wk.go i ds[i] st3 g3 H3 (by simp [hlt]) s3 rl3
    refine .inr ⟨go, fun H' => ∃ g' st' acc ws, Step g1 st1 H1 g' st' H' ∧ Rel G g' st' H' ∧ H' A = some (.lst ws) ∧ g'.own A = some n ∧ g'.rho n = some A ∧ st' n = none ∧ Reps G g' H' ws acc ∧ dLcGo t tt te (wipeD env vs) (ds.drop (i + 1)) acc st' R, fun H' q => ⟨_, by omega, hlt, rfl, q⟩, fun x H4 y => ?_⟩
    obtain ⟨s4, rl4, r4⟩ := yld x H4 y
    -- a hidden cell stands through any step
    have hidden : ∀ {ga gb : Gh} {sa sb : Sto} {Ha Hb : Hp}, Step ga sa Ha gb sb Hb → Ha A = some (.lst ws) → ga.own A = some n → ga.rho n = some A → sa n = none → Hb A = some (.lst ws) ∧ gb.own A = some n ∧ gb.rho n = some A ∧ sb n = none := by
      intro ga gb sa sb Ha Hb s e1 e2 e3 e4
      have nb : Nob ga sa A := fun k hk => by rw [e2] at hk; cases hk; exact ⟨e4, A, e3⟩
      exact ⟨s.ex A _ nb e1 (.inl rfl), (s.own A _ nb e1).trans e2, s.rho n A e3, s.hid n A e3 e4⟩
    obtain ⟨hA4, ow4, rh4, st4n⟩ := hidden s4 hA3 ow3 rh3 st3n
    have en4 : EnvR G g3 H4 (wipe σ vs) (wipeD env vs) := ((en.mono ((s1.trans s3).trans s4)).wipe vs)
    refine ⟨g3, st3, wipeD env vs, _, _, rl4, en4, r4, h3, fun env5 st5 g5 H5 σ5 s5 rl5 en5 w5 h5 => ⟨?_, ?_⟩⟩
    · rw [w5]
      have idem : ∀ (js : List Nat) (τ : L2.St), (∀ j ∈ js, j ∈ vs) → wipe (wipe τ js) vs = wipe τ vs := by
        intro js
        induction js with
        | nil => intro τ _; rfl
        | cons k r ih =>
          intro τ hk
          show wipe ((wipe τ r).set k none) vs = wipe τ vs
          rw [wipe_set (hk k (by simp))]
          exact ih τ fun j hj => hk j (by simp [hj])
      exact idem vs σ fun j hj => hj
    · obtain ⟨hA5, ow5, rh5, st5n⟩ := hidden s5 hA4 ow4 rh4 st4n
      refine ⟨g5, st5, env5, _, rl5, en5, h5, fun b st6 g6 H6 s6 rl6 h6 => ?_⟩
      obtain ⟨hA6, ow6, rh6, st6n⟩ := hidden s6 hA5 ow5 rh5 st5n
      have s36 := ((s3.trans s4).trans s5).trans s6
      have rs6 := ((rs3.mono s4).mono s5).mono s6
      cases b with
      | false => exact ⟨g6, st6, acc, ws, s36, rl6, hA6, ow6, rh6, st6n, rs6, h6⟩
      | true =>
        refine ⟨g6, st6, env5, _, rl6, en5.mono s6, h6, fun d st7 g7 H7 v s7 rl7 r7 h7 => ?_⟩
        obtain ⟨hA7, ow7, rh7, st7n⟩ := hidden s7 hA6 ow6 rh6 st6n
        obtain ⟨hl, h7⟩ := h7
        have rs7 := rs6.mono s7
        refine ⟨ws, hA7, by rw [rs7.length]; exact hl, g7, st7, acc ++ [d], ws ++ [v], (s36.trans s7).poke hA, ?_, upd_same, ow7, rh7, st7n, ?_, h7⟩
        · -- the cell is written while it is hidden
          have base : Rel G g7 (sup st7 n (.lst acc)) H7 := by
            refine ⟨fun k mk hk => ?_, rl7.own, ?_⟩
            · by_cases hkn : k = n
              · subst hkn
                rw [sup_same] at hk; cases hk
                exact ⟨A, rh7, ow7, ws, hA7, rs7⟩
              · rw [sup_ne hkn] at hk
                exact rl7.cell k mk hk
            · obtain ⟨N, hN⟩ := rl7.fin
              refine ⟨N, fun k hk => ⟨(hN k hk).1, ?_⟩⟩
              have : k ≠ n := by rintro rfl; rw [(hN k hk).1] at rh7; cases rh7
              rw [sup_ne this]; exact (hN k hk).2
          obtain ⟨sw, rw'⟩ := base.write (m' := .lst (acc ++ [d])) (o := .lst (ws ++ [v])) sup_same rh7 fun st' H' s' e => ⟨_, by rw [e]; exact upd_same, (rs7.append (.cons r7 .nil)).mono s'⟩
          refine rw'.sub fun k mk hk => ?_
          have : k ≠ n := by rintro rfl; rw [st7n] at hk; cases hk
          rw [sup_ne this, sup_ne this]; exact hk
        · -- the items are as they were: the list itself is no item
          have base : Rel G g7 (sup st7 n (.lst acc)) H7 := by
            refine ⟨fun k mk hk => ?_, rl7.own, ?_⟩
            · by_cases hkn : k = n
              · subst hkn
                rw [sup_same] at hk; cases hk
                exact ⟨A, rh7, ow7, ws, hA7, rs7⟩
              · rw [sup_ne hkn] at hk
                exact rl7.cell k mk hk
            · obtain ⟨N, hN⟩ := rl7.fin
              refine ⟨N, fun k hk => ⟨(hN k hk).1, ?_⟩⟩
              have : k ≠ n := by rintro rfl; rw [(hN k hk).1] at rh7; cases rh7
              rw [sup_ne this]; exact (hN k hk).2
          obtain ⟨sw, _⟩ := base.write (m' := .lst (acc ++ [d])) (o := .lst (ws ++ [v])) sup_same rh7 fun st' H' s' e => ⟨_, by rw [e]; exact upd_same, (rs7.append (.cons r7 .nil)).mono s'⟩
          exact (rs7.append (.cons r7 .nil)).mono sw
  · have e : i = ds.length := by omega
    subst e
    rw [List.drop_length] at h3
    exact .inl ⟨wk.stop st3 g3 H3 s3 rl3, p _ _ _ _ _ _ _ hA hn s3 rl3 hA3 ow3 rh3 st3n rs3 h3⟩
/-- the source: a tree that can be walked, or a list in a cell -/
def dLcC (te0 : TDE) (t : TDG) (tt : TDT) (te : TDE) (vs : List Nat) : TDE := fun env st Q => te0 env st fun d st1 => match d with
  | .ref n => (match st1 n with
    | some (.lst ds) => dLcGo t tt te (wipeD env vs) ds [] (sdel st1 n) fun out st2 => Q (.lst out) (sup st2 n (.lst ds))
    | _ => False)
  | d => (match itemsOf d with
    | some ds => dLcGo t tt te (wipeD env vs) ds [] st1 fun out st2 => Q (.lst out) st2
    | none => False)
theorem de_lcC {elt tg iter : Expr} {ifs : List Expr} {scope : Scope} {own : List (Str × Nat)} {pos : Pos} {te0 : TDE} {t : TDG} {tt : TDT} {te : TDE} (hc : X.calm = true) (hN : X.N.Nodup) (hi : DE cA X iter te0) (ok : BlkOk X.N X.env.scope scope own)
    (hg : ∀ (s : Shared) (H : Hp) (C : Addr) (cl : List (Str × Addr)) (fp : List Addr), DG cA (X.blk s H scope (compEnvC scope cl C X.env) fp) (own.map (·.2)) tg t) (ht : ∀ (s : Shared) (H : Hp) (C : Addr) (cl : List (Str × Addr)) (fp : List Addr), DTs cA (X.blk s H scope (compEnvC scope cl C X.env) fp) ifs tt)
    (he : ∀ (s : Shared) (H : Hp) (C : Addr) (cl : List (Str × Addr)) (fp : List Addr), DE cA (X.blk s H scope (compEnvC scope cl C X.env) fp) elt te) (hs : ∀ x, foldedSetIterable iter X.env x = pure x := by intro _; rfl) :
    DE cA X (.ListComp elt [⟨tg, iter, ifs, 0⟩] scope pos) (dLcC te0 t tt te (own.map (·.2))) :=
  pe_weak (pe_lc (g := liftG (gx X cA) (own.map fun (q : Str × Nat) => q.2) t) (tt := liftT (gx X cA) tt) (te := liftE (gx X cA) te) hc hN (pi_any hi) ok hg ht he hs) fun σ H Q ⟨g, st, env, Qd, rl, en, h, p⟩ => ⟨g, st, env, _, rl, en, h, fun d st1 g1 H1 v s1 rl1 r1 h1 => by
    cases r1 with
    | @ref a n hn =>
      simp only at h1
      split at h1
      · rename_i ds ec
        obtain ⟨a', e1, e2, ws, e3, e4⟩ := rl1.cell n _ ec
        rw [hn] at e1; cases e1
        refine .inl ⟨_, rfl, ⟨ws, .of e3⟩, ?_⟩
        refine lc_rest (en := en) (s1 := s1.trans step_hide) (rl1 := rl1.sub sub_del) (wk := wk_cell hn e2 e3 e4) h1 fun out st' g' H' b ws' k hb hk s2 rl2 f1 f2 f3 f4 f5 q => ?_
        obtain ⟨i1, i2, i3, i4⟩ := hid_at s2 hn e2 e3 e4
        obtain ⟨s3, rl3, r3⟩ := lc_frozen s2 rl2 f1 f2 f3 f4 f5 hb
        obtain ⟨j1, j2, j3, j4⟩ := hid_at s3 hn e2 e3 e4
        exact p _ _ _ _ _ (s1.trans (step_show ec s3)) (rl3.show j2 j1 j3 j4) r3 q
      · exact h1.elim
    | lst w hh rs =>
      simp only [itemsOf] at h1
      refine .inl ⟨_, rfl, ⟨_, .of hh⟩, ?_⟩
      refine lc_rest (en := en) (s1 := s1) (rl1 := rl1) (wk := ?_) h1 fun out st' g' H' b ws' k hb hk s2 rl2 f1 f2 f3 f4 f5 q => ?_
      · exact wk_seq (xs := _) (at' := fun H => SqL X.K H _ _) (fun g st H s => ⟨.of (s.ex _ _ (.of w) hh (.inl rfl)), rs.mono s⟩) (fun i x H a e => ⟨_, x, a, e⟩) (fun i H x H' a y => ⟨y.1, y.2 _ a⟩) (fun H a => ⟨_, a, Nat.le_refl _⟩)
      · obtain ⟨s3, rl3, r3⟩ := lc_frozen s2 rl2 f1 f2 f3 f4 f5 hb
        exact p _ _ _ _ _ (s1.trans s3) rl3 r3 q
    | tup hh rs =>
      simp only [itemsOf] at h1
      refine .inr (.inl ⟨_, rfl, ⟨_, hh.sq⟩, ?_⟩)
      refine lc_rest (en := en) (s1 := s1) (rl1 := rl1) (wk := ?_) h1 fun out st' g' H' b ws' k hb hk s2 rl2 f1 f2 f3 f4 f5 q => ?_
      · exact wk_seq (xs := _) (at' := fun H => SqT X.K H _ _) (fun g st H s => ⟨(hh.mono s).sq, rs.mono s⟩) (fun i x H a e => ⟨_, x, a, e⟩) (fun i H x H' a y => ⟨y.1, y.2 _ a⟩) (fun H a => ⟨_, a, Nat.le_refl _⟩)
      · obtain ⟨s3, rl3, r3⟩ := lc_frozen s2 rl2 f1 f2 f3 f4 f5 hb
        exact p _ _ _ _ _ (s1.trans s3) rl3 r3 q
    | str x =>
      simp only [itemsOf] at h1
      refine .inr (.inr ⟨x, rfl, ?_⟩)
      refine lc_rest (en := en) (s1 := s1) (rl1 := rl1) (wk := ?_) h1 fun out st' g' H' b ws' k hb hk s2 rl2 f1 f2 f3 f4 f5 q => ?_
      · exact wk_seq (xs := signs x) (at' := fun _ => True) (fun g st H s => ⟨trivial, reps_signs x⟩) (fun i v H a e => by have := (List.getElem?_eq_some_iff.mp e).1; rw [signs_len] at this; exact this) (fun i H v H' a ⟨y, c, hc, e⟩ => ⟨y, by rw [e]; exact signs_get hc⟩) (fun H a => by rw [signs_len]; exact Nat.le_refl _)
      · obtain ⟨s3, rl3, r3⟩ := lc_frozen s2 rl2 f1 f2 f3 f4 f5 hb
        exact p _ _ _ _ _ (s1.trans s3) rl3 r3 q
    | scr hh =>
      simp only [itemsOf] at h1
      refine .inl ⟨_, rfl, ⟨_, hh.sq⟩, ?_⟩
      refine lc_rest (en := en) (s1 := s1) (rl1 := rl1) (wk := ?_) h1 fun out st' g' H' b ws' k hb hk s2 rl2 f1 f2 f3 f4 f5 q => ?_
      · exact wk_seq (xs := _) (at' := fun H => SqL X.K H _ _) (fun g st H s => ⟨(hh.mono s).sq, reps_ints _⟩) (fun i x H a e => ⟨_, x, a, e⟩) (fun i H x H' a y => ⟨y.1, y.2 _ a⟩) (fun H a => ⟨_, a, Nat.le_refl _⟩)
      · obtain ⟨s3, rl3, r3⟩ := lc_frozen s2 rl2 f1 f2 f3 f4 f5 hb
        exact p _ _ _ _ _ (s1.trans s3) rl3 r3 q
    | _ => exact h1.elim⟩
/-! ### xs.clear() -/
def rdClear (x : D) (ds : List D) (st : Sto) (Q : QD) : Prop := cellL st x fun n _ => ds = [] ∧ Q .non (sup st n (.lst []))
theorem im_clear : ImM (gx X cA) rClear rdClear := by
  intro g st H x vs d ds Qd Q rl rx rs h p
  obtain ⟨n, a, ws, xs, rfl, rfl, e, e1, e2, r1, h2, h3⟩ := cellL_of rl rx h
  subst h2
  cases rs
  exact ⟨a, ws, rfl, rfl, e2, put_cell rl e e1 .nil .non p h3⟩
theorem de_clear {o : Expr} {to : TDE} {apos cpos : Pos} (ho : DE cA X o to) (hbase : attributeBase o "clear" X.env (eval o X.env) = eval o X.env := by rfl) (hline : (apos.endLine == cpos.line) = true := by rfl) : DE cA X (.Call (.Attribute o "clear" apos) [] [] cpos) (dMt0 rdClear to) :=
  de_mt0 PySem.F.slot_list_clear PySem.F.type_list_clear mt_clear im_clear ho hbase hline
end
end TL
namespace TL
open PySem PySem.Spec PyProof.Rows L2
/-! ### dicts compared by their pairs as data -/
def DpK (K : PySem.W.Frag) (H : Hp) : List (Key × V) → List (Key × PyData) → Prop := Paired fun p q => p.1 = q.1 ∧ Dp K H p.2 q.2 ∧ SeqAt.shaped q.2 = true
def lookP (qs : List (Key × PyData)) (k : Key) : Option PyData := (qs.find? fun q => decide (q.1 = k)).map (·.2)
def hitP (qs : List (Key × PyData)) (p : Key × PyData) : Bool := match lookP qs p.1 with
  | some q => PyData.eqv p.2 q
  | none => false
def eqKP (ps qs : List (Key × PyData)) : Bool := decide (ps.length = qs.length) && ps.all (hitP qs)
section
variable {X : Cx} {cA : Nat → Addr}
theorem lookP_val {K : PySem.W.Frag} {H : Hp} (k : Key) : ∀ {ls : List (Key × V)} {vb : List (Key × Value)} {qs : List (Key × PyData)}, KV ls vb → DpK K H ls qs →
    (lookP qs k = none → valueAt vb k = none) ∧ ∀ q, lookP qs k = some q → ∃ v y, valueAt vb k = some y ∧ RelV v y ∧ Dp K H v q ∧ SeqAt.shaped q = true
  | _, _, _, Paired.nil, Paired.nil => ⟨fun _ => rfl, fun q h => by cases h⟩
  | _, _, _, Paired.cons (a := p) (b := b) (l₂ := vb) h1 t1, Paired.cons (b := q) (l₂ := qs) h2 t2 => by
    obtain ⟨i1, i2⟩ := lookP_val k t1 t2
    by_cases e : p.1 = k
    · have eb : b.1 = k := h1.1.symm.trans e
      have eq : q.1 = k := h2.1.symm.trans e
      refine ⟨fun h => ?_, fun q' h => ?_⟩
      · simp [lookP, eq] at h
      · simp [lookP, eq] at h
        subst h
        exact ⟨p.2, b.2, by simp [valueAt, eb], h1.2, h2.2.1, h2.2.2⟩
    · have eb : ¬ b.1 = k := fun z => e (h1.1.trans z)
      have eq : ¬ q.1 = k := fun z => e (h2.1.trans z)
      have l1 : lookP (q :: qs) k = lookP qs k := by simp [lookP, eq]
      have l2 : valueAt (b :: vb) k = valueAt vb k := by simp [valueAt, eb]
      rw [l1, l2]
      exact ⟨i1, i2⟩
theorem hits_py {pins : List (Addr × Obj)} {σ : L2.St} {H : Hp} {A : Around} {s : Shared} (hu : A.in1.units + 64 < cLine) (I : Inv X pins σ H s) {ls : List (Key × V)} {vb : List (Key × Value)} {qs : List (Key × PyData)} (rb : KV ls vb) (db : DpK X.K H ls qs) :
    ∀ {ks : List (Key × V)} {va : List (Key × Value)} {ps : List (Key × PyData)}, KV ks va → DpK X.K H ks ps → PySem.W.KeqHits A.in1 s vb va (ps.all (hitP qs))
  | _, _, _, Paired.nil, Paired.nil => .nil
  | _, _, _, Paired.cons (a := p) (b := (k, v)) (l₂ := va) h1 t1, Paired.cons (b := q) (l₂ := ps) h2 t2 => by
    have ih := hits_py hu I rb db t1 t2
    obtain ⟨i1, i2⟩ := lookP_val k rb db
    have ek : q.1 = k := h2.1.symm.trans h1.1
    rw [List.all_cons]
    cases e : lookP qs k with
    | none =>
      have : hitP qs q = false := by simp [hitP, ek, e]
      rw [this, Bool.false_and]
      exact .miss (i1 e)
    | some q' =>
      have : hitP qs q = PyData.eqv q.2 q' := by simp [hitP, ek, e]
      rw [this]
      obtain ⟨x, y, f1, f2, f3, f4⟩ := i2 q' e
      obtain ⟨as, r1⟩ := Dp.reads I q.2 p.2 v h2.2.1 h1.2
      obtain ⟨bs, r2⟩ := Dp.reads I q' x y f3 f2
      exact .hit f1 (PySem.W.keq_at (A := A) r1 r2 h2.2.2 f4 hu) ih
def rEqK (K : PySem.W.Frag) (neg : Bool) : R2 := fun x y H Q => ∃ a b ks ls ps qs, x = .ref a ∧ y = .ref b ∧ Rd H a (.dK ks) ∧ Rd H b (.dK ls) ∧ DpK K H ks ps ∧ DpK K H ls qs ∧ Q (.bl (eqKP ps qs != neg)) H
theorem op_eqK (hu : X.A.units + 65 < cLine) : OpR X (compareOp .Eq) (rEqK X.K false) := by
  intro pins s σ H x y v u Q I rx ry h
  obtain ⟨a, b, ks, ls, ps, qs, rfl, rfl, ea, eb, da, db, q⟩ := h
  cases rx
  cases ry
  obtain ⟨_, ya, va, ra, oa⟩ := dk_rd I.hok ea
  obtain ⟨_, yb, vb, rb, ob⟩ := dk_rd I.hok eb
  have el : (va.length == vb.length && ps.all (hitP qs)) = eqKP ps qs := by
    have l1 := Paired.length ra
    have l2 := Paired.length rb
    have l3 := Paired.length da
    have l4 := Paired.length db
    unfold eqKP
    rw [← l1, ← l2, l3, l4]
    rfl
  refine PySem.W.keq_eq (knd := mixKind X.prog X.w) (r := ps.all (hitP qs)) ya yb oa ob (by omega) (fun _ => hits_py (show X.A.units + 1 + 64 < cLine by omega) I rb db ra da) ?_
  rw [el]
  exact ⟨.bl (eqKP ps qs), H, I, rfl, by simpa using q⟩
theorem op_neK (hu : X.A.units + 65 < cLine) : OpR X (compareOp .NotEq) (rEqK X.K true) := by
  intro pins s σ H x y v u Q I rx ry h
  obtain ⟨a, b, ks, ls, ps, qs, rfl, rfl, ea, eb, da, db, q⟩ := h
  cases rx
  cases ry
  obtain ⟨_, ya, va, ra, oa⟩ := dk_rd I.hok ea
  obtain ⟨_, yb, vb, rb, ob⟩ := dk_rd I.hok eb
  have el : (va.length == vb.length && ps.all (hitP qs)) = eqKP ps qs := by
    have l1 := Paired.length ra
    have l2 := Paired.length rb
    have l3 := Paired.length da
    have l4 := Paired.length db
    unfold eqKP
    rw [← l1, ← l2, l3, l4]
    rfl
  refine PySem.W.keq_ne (knd := mixKind X.prog X.w) (r := ps.all (hitP qs)) ya yb oa ob (by omega) (fun _ => hits_py (show X.A.units + 1 + 64 < cLine by omega) I rb db ra da) ?_
  rw [el]
  exact ⟨.bl (!eqKP ps qs), H, I, rfl, by simpa using q⟩
/-- a dict's pairs as data, over trees -/
def pyK : List (Key × D) → Option (List (Key × PyData))
  | [] => some []
  | (k, d) :: r => match d.py, pyK r with
    | some p, some ps => if SeqAt.shaped p = true then some ((k, p) :: ps) else none
    | _, _ => none
theorem repK_py {G : Gx} {g : Gh} {H : Hp} : ∀ {kv : List (Key × V)} {kd : List (Key × D)}, RepK G g H kv kd → ∀ {ps : List (Key × PyData)}, pyK kd = some ps → DpK G.K H kv ps
  | _, _, .nil, ps, h => by simp only [pyK] at h; cases h; exact Paired.nil
  | _, _, .cons (k := k) (d := d) (ds := ds) r t, ps, h => by
    simp only [pyK] at h
    cases h1 : d.py with
    | none => simp [h1] at h
    | some p => cases h2 : pyK ds with
      | none => simp [h1, h2] at h
      | some qs =>
        simp only [h1, h2] at h
        split at h
        · rename_i sh
          cases h
          exact Paired.cons ⟨rfl, rep_dp r h1, sh⟩ (repK_py t h2)
        · cases h
def rdEqK (neg : Bool) : RD2 := fun x y st Q => match look st x, look st y with
  | .dct kd, .dct ld => ∃ ps qs, pyK kd = some ps ∧ pyK ld = some qs ∧ Q (.bl (eqKP ps qs != neg)) st
  | _, _ => False
theorem im_eqK {neg : Bool} : Im2 (gx X cA) (rEqK X.K neg) (rdEqK neg) := by
  intro g st H x y dx dy Qd Q rl rx ry h p
  unfold rdEqK at h
  split at h
  · rename_i kd ld e1 e2
    obtain ⟨ps, qs, h1, h2, h3⟩ := h
    obtain ⟨a, kv, rfl, f1, f2⟩ := see_dct rl rx e1
    obtain ⟨b, lv, rfl, g1, g2⟩ := see_dct rl ry e2
    exact ⟨a, b, kv, lv, ps, qs, rfl, rfl, f1, g1, repK_py f2 h1, repK_py g2 h2, p.now rl (.bl _) h3⟩
  · exact h.elim
theorem de_eqK {a b : Expr} {pos : Pos} {ta tb : TDE} (hu : X.A.units + 65 < cLine) (ha : DE cA X a ta) (hb : DE cA X b tb) : DE cA X (.Compare a [.Eq] [b] pos) (dOp (rdEqK false) ta tb) := de_cmp (op_eqK hu) im_eqK ha hb (nomark _)
theorem dt_eqK {a b : Expr} {pos : Pos} {ta tb : TDE} (hu : X.A.units + 65 < cLine) (ha : DE cA X a ta) (hb : DE cA X b tb) : DT cA X (.Compare a [.Eq] [b] pos) (dTst (dOp (rdEqK false) ta tb)) := dt_cmp (op_eqK hu) im_eqK ha hb (nomark _)
theorem de_neK {a b : Expr} {pos : Pos} {ta tb : TDE} (hu : X.A.units + 65 < cLine) (ha : DE cA X a ta) (hb : DE cA X b tb) : DE cA X (.Compare a [.NotEq] [b] pos) (dOp (rdEqK true) ta tb) := de_cmp (op_neK hu) im_eqK ha hb (nomark _)
theorem dt_neK {a b : Expr} {pos : Pos} {ta tb : TDE} (hu : X.A.units + 65 < cLine) (ha : DE cA X a ta) (hb : DE cA X b tb) : DT cA X (.Compare a [.NotEq] [b] pos) (dTst (dOp (rdEqK true) ta tb)) := dt_cmp (op_neK hu) im_eqK ha hb (nomark _)
/-! ### k in d -/
def rInK (neg : Bool) : R2 := fun x y H Q => ∃ a o, y = .ref a ∧ DGet H a x o ∧ Q (.bl (o.isSome != neg)) H
theorem op_inK (hu : X.A.units + 1 < cLine) : OpR X (compareOp .In) (rInK false) := by
  intro pins s σ H x y v u Q I rx ry h
  obtain ⟨a, o, rfl, g, q⟩ := h
  cases ry
  exact d_in hu I g rx fun s' I' => ⟨.bl o.isSome, H, I', rfl, by simpa using q⟩
theorem op_notInK (hu : X.A.units + 1 < cLine) : OpR X (compareOp .NotIn) (rInK true) := by
  intro pins s σ H x y v u Q I rx ry h
  obtain ⟨a, o, rfl, g, q⟩ := h
  cases ry
  exact d_notIn hu I g rx fun s' I' => ⟨.bl (!o.isSome), H, I', rfl, by simpa using q⟩
def rdInK (neg : Bool) : RD2 := fun x y st Q => match look st y with
  | .dct kd => ∃ key, keyOf x = some key ∧ Q (.bl ((getK kd key).isSome != neg)) st
  | _ => False
theorem im_inK {neg : Bool} : Im2 (gx X cA) (rInK neg) (rdInK neg) := by
  intro g st H x y dx dy Qd Q rl rx ry h p
  unfold rdInK at h
  split at h
  · rename_i kd e
    obtain ⟨key, h1, h2⟩ := h
    obtain ⟨a, kv, rfl, f1, f2⟩ := see_dct rl ry e
    cases key_rep rx h1
    refine ⟨a, valV kv key, rfl, .inl ⟨kv, key, f1, rfl, rfl⟩, ?_⟩
    obtain ⟨q1, q2⟩ := repK_get f2 key
    cases hk : getK kd key with
    | some dd =>
      obtain ⟨vv, hv, _⟩ := q1 dd hk
      rw [hv]
      rw [hk] at h2
      exact p.now rl (.bl _) h2
    | none =>
      rw [q2 hk]
      rw [hk] at h2
      exact p.now rl (.bl _) h2
  · exact h.elim
theorem de_inK {a b : Expr} {pos : Pos} {ta tb : TDE} (hu : X.A.units + 1 < cLine) (ha : DE cA X a ta) (hb : DE cA X b tb) (hm : behindInMarks .In b = false := by rfl) : DE cA X (.Compare a [.In] [b] pos) (dOp (rdInK false) ta tb) := de_cmp (op_inK hu) im_inK ha hb hm
theorem dt_inK {a b : Expr} {pos : Pos} {ta tb : TDE} (hu : X.A.units + 1 < cLine) (ha : DE cA X a ta) (hb : DE cA X b tb) (hm : behindInMarks .In b = false := by rfl) : DT cA X (.Compare a [.In] [b] pos) (dTst (dOp (rdInK false) ta tb)) := dt_cmp (op_inK hu) im_inK ha hb hm
theorem de_notInK {a b : Expr} {pos : Pos} {ta tb : TDE} (hu : X.A.units + 1 < cLine) (ha : DE cA X a ta) (hb : DE cA X b tb) (hm : behindInMarks .NotIn b = false := by rfl) : DE cA X (.Compare a [.NotIn] [b] pos) (dOp (rdInK true) ta tb) := de_cmp (op_notInK hu) im_inK ha hb hm
theorem dt_notInK {a b : Expr} {pos : Pos} {ta tb : TDE} (hu : X.A.units + 1 < cLine) (ha : DE cA X a ta) (hb : DE cA X b tb) (hm : behindInMarks .NotIn b = false := by rfl) : DT cA X (.Compare a [.NotIn] [b] pos) (dTst (dOp (rdInK true) ta tb)) := dt_cmp (op_notInK hu) im_inK ha hb hm
/-! ### sorted(d), dict(pairs), d.clear() -/
theorem repK_keys {G : Gx} {g : Gh} {H : Hp} : ∀ {kv : List (Key × V)} {kd : List (Key × D)}, RepK G g H kv kd → kv.map (·.1) = kd.map (·.1)
  | _, _, .nil => rfl
  | _, _, .cons _ t => by simp [repK_keys t]
def rdSortD (ds : List D) (st : Sto) (Q : QD) : Prop := match ds with
  | [d] => match look st d with
    | .dct kd => ∃ ks : List Str, kd.map (·.1) = ks.map Sum.inr ∧ ks.length < 64 ∧ ∀ ys : List Str, ys.Perm ks → Q (.lst (ys.map D.str)) st
    | _ => False
  | _ => False
theorem de_sortD {p pos : Pos} {e : Expr} {te : TDE} (hc : X.calm = true) (hg : Gl X "sorted") (hm : X.mg "sorted" = none) (ha : DE cA X e te) (hs : starEach [e] X.env = (false, eval e X.env) :: starEach [] X.env := by rfl) : DE cA X (.Call (.Name "sorted" p) [e] [] pos) (dCB rdSortD (dCons te dNil)) :=
  de_callB (call_sortedD hc) (fun g st H xs ds Qd Q rl rs h p => by
    unfold rdSortD at h
    split at h
    · obtain ⟨v, rfl, r⟩ := reps1 rs
      split at h
      · rename_i kd ex
        obtain ⟨a, kv, rfl, e1, rk⟩ := see_dct rl r ex
        obtain ⟨ks, h1, h2, h3⟩ := h
        exact ⟨a, kv, ks, rfl, e1, (repK_keys rk).trans h1, h2, fun ys q hp _ hn => lay_lst rl (reps_strs ys) p (h3 ys hp) q hn⟩
      · exact h.elim
    · exact h.elim) hg hm (by decide +kernel) (da_cons ha da_nil hs) (he := hs) (hpl := rfl)
def kD : Key → D
  | .inl i => .int i
  | .inr x => .str x
/-- the pairs of a list of pairs -/
def pairsD : List D → Option (List (Key × D))
  | [] => some []
  | .tup [k, d] :: r => match keyOf k, pairsD r with
    | some key, some ps => some ((key, d) :: ps)
    | _, _ => none
  | _ => none
theorem reps_pairs {G : Gx} {g : Gh} {H : Hp} : ∀ {ds : List D} {vs : List V}, Reps G g H vs ds → ∀ {kd : List (Key × D)}, pairsD ds = some kd → ∃ (ps : List Addr) (kv : List (Key × V)), vs = ps.map V.ref ∧ RepK G g H kv kd ∧ Paired (fun p kv => SqT G.K H p [kV kv.1, kv.2]) ps kv
  | [], vs, r, kd, h => by
    cases r
    cases h
    exact ⟨[], [], rfl, .nil, .nil⟩
  | d :: ds, vs, r, kd, h => by
    cases r with
    | cons r t =>
      unfold pairsD at h
      split at h
      · cases ‹_ :: _ = []›
      · rename_i k d' r' e
        cases e
        cases hk : keyOf k with
        | none => simp [hk] at h
        | some key => cases h2 : pairsD ds with
          | none => simp [hk, h2] at h
          | some qs =>
            simp only [hk, h2] at h
            cases h
            obtain ⟨ps, kv, rfl, r1, r2⟩ := reps_pairs t h2
            cases r with
            | tup f rs =>
              obtain ⟨v1, v2, rfl, q1, q2⟩ := reps2 rs
              cases key_rep q1 hk
              exact ⟨_ :: ps, (key, v2) :: kv, rfl, .cons q2 r1, .cons f.sq r2⟩
      · cases h
theorem lay_dct {G : Gx} {g : Gh} {st : Sto} {H : Hp} {kv : List (Key × V)} {kd : List (Key × D)} (rl : Rel G g st H) (r : RepK G g H kv kd) {Qd : QD} {Q : VK} (p : Post G g st H Qd Q) (q : ∀ n, st n = none → Qd (.ref n) (sup st n (.dct kd))) : ∀ a, H a = none → Q (.ref a) (upd H a (.dK kv)) := fun a ha => by
  obtain ⟨n, hn, hs⟩ := rl.fresh
  obtain ⟨s0, rl0⟩ := rl.cellNew (o := .dK kv) ha hn (m := .dct kd) fun g' st' s' => ⟨kv, upd_same, r.mono s'⟩
  exact p _ _ _ _ _ s0 rl0 (.ref (by simp [Gh.new])) (q n hs)
/-- dict(ps): a cell -/
def rdDictP (ds : List D) (st : Sto) (Q : QD) : Prop := match ds with
  | [d] => match look st d with
    | .lst xs => ∃ kd, pairsD xs = some kd ∧ ∀ n, st n = none → Q (.ref n) (sup st n (.dct (foldK [] kd)))
    | _ => False
  | _ => False
theorem de_dictP {p pos : Pos} {e : Expr} {te : TDE} (hc : X.calm = true) (hg : Gl X "dict") (hm : X.mg "dict" = none) (ha : DE cA X e te) (hs : starEach [e] X.env = (false, eval e X.env) :: starEach [] X.env := by rfl) : DE cA X (.Call (.Name "dict" p) [e] [] pos) (dCB rdDictP (dCons te dNil)) :=
  de_callTy (call_dictP hc) (fun g st H xs ds Qd Q rl rs h p => by
    unfold rdDictP at h
    split at h
    · obtain ⟨v, rfl, r⟩ := reps1 rs
      split at h
      · rename_i kd ex
        obtain ⟨a, vs, rfl, e1, rk⟩ := see_lst rl r ex
        obtain ⟨kd, h1, h2⟩ := h
        obtain ⟨ps, kv, rfl, r1, r2⟩ := reps_pairs rk h1
        exact ⟨a, ps, kv, rfl, .of e1, r2, lay_dct rl (repK_merge r1 .nil) p h2⟩
      · exact h.elim
    · exact h.elim) hg hm (by decide +kernel) (da_cons ha da_nil hs) (he := hs) (hpl := rfl)
def dClearD (to : TDE) : TDE := fun env st Q => to env st fun x st1 => match x with
  | .ref n => (match st1 n with
    | some (.dct _) => Q .non (sup st1 n (.dct []))
    | _ => False)
  | _ => False
theorem de_clearD {o : Expr} {to : TDE} {apos cpos : Pos} (ho : DE cA X o to) (hbase : attributeBase o "clear" X.env (eval o X.env) = eval o X.env := by rfl) (hline : (apos.endLine == cpos.line) = true := by rfl) : DE cA X (.Call (.Attribute o "clear" apos) [] [] cpos) (dClearD to) :=
  pe_weak (pe_dclear ho hbase hline) fun σ H Q ⟨g, st, env, Qd, rl, en, h, p⟩ => ⟨g, st, env, _, rl, en, h, fun d st1 g1 H1 v s1 rl1 r1 h1 => by
    cases r1 with
    | @ref a n e1 =>
      simp only at h1
      split at h1
      · rename_i kd e
        obtain ⟨a', f1, f2, kv, f3, f4⟩ := rl1.cell _ _ e
        rw [e1] at f1; cases f1
        obtain ⟨s, rl'⟩ := rl1.write (m' := .dct []) (o := .dK []) e e1 fun st' H' s' eH => ⟨_, by rw [eH]; exact upd_same, .nil⟩
        exact ⟨.inr (.inr (.inl ⟨rfl, .inl ⟨kv, f3⟩⟩)), a, kv, rfl, rfl, f3, p _ _ _ _ _ (s1.trans s) rl' .non h1⟩
      · exact h1.elim
    | _ => exact h1.elim⟩
end
end TL
namespace TL
open PySem PySem.Spec PyProof.Rows L2
/-! ### all that stood stands -/
theorem Rel.grow {G : Gx} {g : Gh} {st : Sto} {H H' : Hp} (r : Rel G g st H) (h : ∀ a o, H a = some o → H' a = some o) : Rel G g st H' := by
  have s : Step g st H g st H' := Step.grow h
  refine ⟨fun n m e => ?_, fun a n e => ?_, r.fin⟩
  · obtain ⟨a, e1, e2, e3⟩ := r.cell n m e
    refine ⟨a, e1, e2, ?_⟩
    cases m with
    | lst ds => obtain ⟨vs, f1, f2⟩ := e3; exact ⟨vs, h _ _ f1, f2.mono s⟩
    | dct ds => obtain ⟨vs, f1, f2⟩ := e3; exact ⟨vs, h _ _ f1, f2.mono s⟩
    | obj c ds => obtain ⟨dx, vs, f1, f2⟩ := e3; exact ⟨dx, vs, h _ _ f1, f2.mono s⟩
    | box => obtain ⟨b, gs, now, seed, turn, f1, f2, f3⟩ := e3; exact ⟨b, gs, now, seed, turn, h _ _ f1, h _ _ f2, f3⟩
  · obtain ⟨⟨o, e1⟩, e2⟩ := r.own a n e
    exact ⟨⟨o, h _ _ e1⟩, e2⟩
theorem kD_rep {G : Gx} {g : Gh} {H : Hp} (k : Key) : Rep G g H (kV k) (kD k) := by
  cases k with
  | inl i => exact .int i
  | inr x => exact .str x
section
variable {X : Cx} {cA : Nat → Addr}
/-! ### list(d.items()), d in a cell -/
def cellD (st : Sto) (x : D) (k : List (Key × D) → Prop) : Prop := match x with
  | .ref n => (match st n with
    | some (.dct kd) => k kd
    | _ => False)
  | _ => False
theorem cellD_of {G : Gx} {g : Gh} {st : Sto} {H : Hp} {v : V} {d : D} {k : List (Key × D) → Prop} (rl : Rel G g st H) (r : Rep G g H v d) (h : cellD st d k) : ∃ a kv kd, v = .ref a ∧ H a = some (.dK kv) ∧ RepK G g H kv kd ∧ k kd := by
  unfold cellD at h
  split at h
  · rename_i n
    split at h
    · rename_i kd e
      cases r with
      | @ref a _ e1 =>
        obtain ⟨a', f1, f2, kv, f3, f4⟩ := rl.cell _ _ e
        rw [e1] at f1; cases f1
        exact ⟨a, kv, kd, rfl, f3, f4, h⟩
    · exact h.elim
  · exact h.elim
def pairD (p : Key × D) : D := .tup [kD p.1, p.2]
def dListIt (te : TDE) : TDE := fun env st Q => te env st fun x st1 => cellD st1 x fun kd => Q (.lst (kd.map pairD)) st1
theorem reps_items {G : Gx} {g : Gh} {H : Hp} : ∀ {ts : List Addr} {kv : List (Key × V)} {kd : List (Key × D)}, Paired (fun (t : Addr) (q : Key × V) => H t = some (.tup [kV q.1, q.2])) ts kv → (∀ t ∈ ts, g.own t = none) → RepK G g H kv kd → Reps G g H (ts.map V.ref) (kd.map pairD)
  | _, _, _, .nil, _, .nil => .nil
  | _, _, _, .cons h t, w, .cons r q => .cons (.tup (.inl ⟨w _ (List.mem_cons_self ..), .inl h⟩) (.cons (kD_rep _) (.cons r .nil))) (reps_items t (fun z hz => w z (List.mem_cons_of_mem _ hz)) q)
theorem de_listIt {e : Expr} {te : TDE} {p apos cpos pos : Pos} (hc : X.calm = true) (hg : Gl X "list") (hm : X.mg "list" = none) (he : DE cA X e te) (hbase : attributeBase e "items" X.env (eval e X.env) = eval e X.env := by rfl) (hline : (apos.endLine == cpos.line) = true := by rfl)
    (hs : starEach [.Call (.Attribute e "items" apos) [] [] cpos] X.env = (false, eval (.Call (.Attribute e "items" apos) [] [] cpos) X.env) :: starEach [] X.env := by rfl) :
    DE cA X (.Call (.Name "list" p) [.Call (.Attribute e "items" apos) [] [] cpos] [] pos) (dListIt te) :=
  pe_weak (LiI.pe_listItems hc he hg hm (by decide +kernel) hbase hline hs) fun σ H Q ⟨g, st, env, Qd, rl, en, h, p⟩ => ⟨g, st, env, _, rl, en, h, fun d st1 g1 H1 v s1 rl1 r1 h1 => by
    obtain ⟨a, kv, kd, rfl, e1, rk, q⟩ := cellD_of rl1 r1 h1
    refine ⟨a, kv, rfl, e1, fun H' l ts k1 k2 k3 k4 k5 k6 => ?_⟩
    have s2 : Step g1 st1 H1 g1 st1 H' := Step.grow k1
    exact p _ _ _ _ _ (s1.trans s2) (rl1.grow k1) (.lst (rl1.free k2) k5 (reps_items k6 (fun t ht => rl1.free (k3 t ht)) (rk.mono s2))) q⟩
/-! ### sorted(d.items()), d in a cell, keys texts -/
theorem count_lt {α : Type} {p q : α → Bool} {x : α} : ∀ {l : List α}, (∀ z, p z = true → q z = true) → x ∈ l → p x = false → q x = true → l.countP p < l.countP q
  | [], _, h, _, _ => by simp at h
  | y :: l, i, h, h1, h2 => by
    have le : l.countP p ≤ l.countP q := List.countP_mono_left fun z _ hz => i z hz
    rcases List.mem_cons.mp h with rfl | h
    · rw [List.countP_cons_of_neg (by simp [h1]), List.countP_cons_of_pos h2]
      omega
    · have ih := count_lt i h h1 h2
      by_cases e : p y = true
      · rw [List.countP_cons_of_pos e, List.countP_cons_of_pos (i y e)]; omega
      · rw [List.countP_cons_of_neg e]
        rw [List.countP_cons]; omega
def ltS (x y : Str) : Bool := decide (x.cps.toList < y.cps.toList)
def rankS (ks : List Str) (y : Str) : Int := (ks.countP fun z => ltS z y : Nat)
theorem ltS_irr (x : Str) : ltS x x = false := decide_eq_false (List.lt_irrefl _)
theorem ltS_trans {x y z : Str} (h1 : ltS x y = true) (h2 : ltS y z = true) : ltS x z = true := decide_eq_true (List.lt_trans (of_decide_eq_true h1) (of_decide_eq_true h2))
theorem ltS_le {x y z : Str} (h1 : ltS x y = true) (h2 : ltS z y = false) : ltS x z = true := by
  have h3 : ¬ z.cps.toList < y.cps.toList := of_decide_eq_false h2
  refine decide_eq_true ?_
  apply Classical.byContradiction
  intro h4
  exact h3 (List.lt_of_le_of_lt (List.not_lt.mp h4) (of_decide_eq_true h1))
theorem rank_lt {ks : List Str} {y z : Str} (hy : y ∈ ks) : ltS y z = decide (rankS ks y < rankS ks z) := by
  cases e : ltS y z with
  | true =>
    have := count_lt (p := fun w => ltS w y) (q := fun w => ltS w z) (x := y) (l := ks) (fun w hw => ltS_trans hw e) hy (ltS_irr y) e
    exact (decide_eq_true (by unfold rankS; omega)).symm
  | false =>
    have : ks.countP (fun w => ltS w z) ≤ ks.countP (fun w => ltS w y) := List.countP_mono_left fun w _ hw => ltS_le hw e
    exact (decide_eq_false (by unfold rankS; omega)).symm
/-- the view d.items() of a dict -/
def rItK : V → List V → Hp → VK → Prop := fun x xs H Q => ∃ (a : Addr) (kvs : List (Key × V)), x = .ref a ∧ xs = [] ∧ H a = some (.dK kvs) ∧ ∀ p, H p = none → Q (.ref p) (upd H p (L2.DX.itemsO p a))
theorem mt_itK : MtR X "dict.items" rItK := by
  intro pins s σ H x xs v us Q I rx rxs h
  obtain ⟨a, kvs, rfl, rfl, ha, q⟩ := h
  cases rx
  cases rxs
  obtain ⟨_, hd, vs, rel, o, es, ep, ho, hx, hdat, _⟩ := dk_of I.hok ha
  refine DT.callItems (es := es) (ep := ep) hd ⟨o, ho, hx, hdat⟩ ?_
  exact ⟨.ref s.heap.objs.size, _, I.laid (t' := s.toks) (fun b u e => Heap.get?_push_of_some _ e) (Nat.le_refl _) (L2.DX.itemsO_ok (Heap.get?_push_size _ rfl)), rfl, q _ (I.hok.fresh (Nat.le_refl _))⟩
/-- a pair of a text and a thing -/
def PairS (h : Heap) (v : Value) (y : Str) (u : Value) : Prop := ∃ (a : Addr) (t : Tok), v = .ref a ∧ IsTup h a #[.str y t, u]
def txS (h : Heap) (v : Value) : Str := DT.txOf (DT.seqAt0 h (DT.refOf (some v)))
theorem PairS.tx {h : Heap} {v : Value} {y : Str} {u : Value} (x : PairS h v y u) : txS h v = y := by
  obtain ⟨a, t, rfl, h1⟩ := x
  show DT.txOf (DT.seqAt0 h a) = y
  rw [DT.seqAt0_of h1]
  rfl

theorem firsts_S {h : Heap} : ∀ vs : List Value, (∀ v ∈ vs, ∃ y u, PairS h v y u) → ∃ fs : List Value, PySem.W.KatTups h vs fs ∧ fs.length = vs.length ∧ ∀ f ∈ fs, ∃ (y : Str) (t : Tok), f = Value.str y t
  | [], _ => ⟨[], PySem.W.KatTups.nil, rfl, fun f hf => by simp at hf⟩
  | v :: vs, x => by
    obtain ⟨fs, k, hl, hi⟩ := firsts_S vs fun u hu => x u (List.mem_cons_of_mem _ hu)
    obtain ⟨y, u, a, t, rfl, o, ho, hc, n, hd⟩ := x v (List.mem_cons_self ..)
    refine ⟨.str y t :: fs, PySem.W.KatTups.cons ho hc hd rfl k, by simp [hl], fun f hf => ?_⟩
    rcases List.mem_cons.mp hf with rfl | hf
    · exact ⟨y, t, rfl⟩
    · exact hi f hf
theorem kind_S {prog : Program} {w : World} {A : Around} {E : Value → Shared → Prop} {s : Shared} {vs : List Value} {ρ : Str → Int} (h2 : 2 ≤ vs.length) (x : ∀ v ∈ vs, ∃ y u, PairS s.heap v y u)
    (same : ∀ v ∈ vs, ∀ u ∈ vs, txS s.heap v = txS s.heap u → v = u)
    (hρ : ∀ v ∈ vs, ∀ u ∈ vs, ltS (txS s.heap v) (txS s.heap u) = decide (ρ (txS s.heap v) < ρ (txS s.heap u))) (Q : SortKind → Shared → Prop)
    (h : ∀ κ, TS.Cmp prog w A s κ (pairsOf vs) (fun v => ρ (txS s.heap v)) → Q κ s) : wpAny (model prog w) A (keyKind' vs.toArray) Q E s := by
  obtain ⟨fs, k, hl, hi⟩ := firsts_S vs x
  refine PySem.W.kat_kind (T := Value.type "str") k (by omega) (fun f hf => ?_) rfl (h _ ?_)
  · obtain ⟨y, t, rfl⟩ := hi f hf
    exact PySem.W.Looks.of_pure rfl
  · have hb : (Value.type "str" != Value.type "tuple") = true := by decide
    rw [hb]
    intro p q hp hq Q' E' hQ
    rw [pairsOf_toList] at hp hq
    have mp := (mem_zip_self hp).2
    have mq := (mem_zip_self hq).2
    have hr := hρ _ mp _ mq
    have hQ' : Q' (ltS (txS s.heap p.1) (txS s.heap q.1)) s := by rw [hr]; exact hQ
    obtain ⟨y, u, py⟩ := x _ mp
    obtain ⟨z, v, pz⟩ := x _ mq
    have sm := same _ mp _ mq
    rw [py.tx, pz.tx] at hQ' sm
    by_cases e : y = z
    · have pq := sm e
      rw [← pq] at pz ⊢
      obtain ⟨a, t, e1, o, ho, hc, n, hd⟩ := py
      rw [e1]
      refine PySem.W.kat_lt ho hd ho hd ?_
      show PySem.W.KatLex prog w A true false Q' [(Value.str y t, Value.str y t), (u, u)] 0 s
      rw [← e, ltS_irr] at hQ'
      refine PySem.W.kat_cons (SeqAt.EqAt.same _ _ _ _ _ ?_)
      refine PySem.W.kat_yes (PySem.W.kat_cons (SeqAt.EqAt.same _ _ _ _ _ ?_))
      exact PySem.W.kat_yes (PySem.W.kat_nil hQ')
    · obtain ⟨a, t, e1, o, ho, hc, n, hd⟩ := py
      obtain ⟨a', t', e2, o', ho', hc', n', hd'⟩ := pz
      rw [e1, e2]
      refine PySem.W.kat_lt ho hd ho' hd' ?_
      show PySem.W.KatLex prog w A true false Q' [(Value.str y t, Value.str z t'), (u, v)] 0 s
      refine PySem.W.kat_cons (wpAny_eqBool_str ?_)
      rw [decide_eq_false e]
      refine PySem.W.kat_no ?_
      show wpAny _ _ (oneLt' true _ _) _ _ _
      exact oneLt_str hQ'
/-- keys are texts -/
abbrev entS (e : Str × V) : Key × V := (Sum.inr e.1, e.2)
def rSortS : List V → Hp → VK → Prop := fun vs H Q => ∃ (p a : Addr) (ks : List (Str × V)), vs = [.ref p] ∧ H p = some (L2.DX.itemsO p a) ∧ H a = some (.dK (ks.map entS)) ∧ ks.length < 64 ∧
  ∀ (H' : Hp) (l : Addr) (ps : List (Addr × Str × V)), (∀ b o, H b = some o → H' b = some o) → (ks.map (·.1)).Nodup → (ps.map (·.2)).Perm ks → (ps.map (·.2)).Pairwise (fun e f => ltS f.1 e.1 = false) → H l = none → (∀ z ∈ ps, H z.1 = none) → H' l = some (.lst (ps.map fun z => V.ref z.1)) →
    (∀ z ∈ ps, H' z.1 = some (.tup [.str z.2.1, z.2.2])) → Q (.ref l) H'
/-- entry by entry -/
theorem ent_at {P : Program} {w : World} : ∀ (ks : List (Str × V)) {es : List DictEntry} {vs : List (Key × Value)}, Pairs (mixKind P w) es vs → KV (ks.map entS) vs → ∀ (j : Nat) (e : DictEntry), es[j]? = some e → ∃ y t, ks[j]? = some y ∧ e.key = .str y.1 t ∧ RelV y.2 e.val := by
  intro ks
  induction ks with
  | nil =>
    intro es vs h1 h2 j e h
    unfold KV at h2
    cases h2
    cases h1
    simp at h
  | cons y ks ih =>
    intro es vs h1 h2 j e h
    unfold KV at h2
    rw [List.map_cons] at h2
    cases h2 with
    | @cons _ b _ l2 r t2 =>
      cases h1 with
      | @cons e0 _ es0 _ q1 q2 t1 =>
        cases j with
        | zero =>
          have e1 : e0 = e := by simpa using h
          subst e1
          have hk : keyIs (Sum.inr y.1) e0.key = true := by
            have r1 : (Sum.inr y.1 : Key) = b.1 := r.1
            rw [r1]
            exact q1
          obtain ⟨t, ht⟩ := Value.isStrOf_shape (x := y.1) (v := e0.key) hk
          exact ⟨y, t, rfl, ht, by rw [q2]; exact r.2⟩
        | succ j =>
          obtain ⟨y', t, f1, f2, f3⟩ := ih t1 t2 j e (by simpa using h)
          exact ⟨y', t, by simpa using f1, f2, f3⟩
end
end TL
namespace TL
open PySem PySem.Spec PyProof.Rows L2
section
variable {X : Cx} {cA : Nat → Addr}
theorem keys_S : ∀ {ks : List (Str × V)} {vs : List (Key × Value)}, KV (ks.map entS) vs → (vs.map (·.1)) = ks.map fun z => (Sum.inr z.1 : Key) := by
  intro ks
  induction ks with
  | nil => intro vs h; unfold KV at h; cases h; rfl
  | cons y ks ih =>
    intro vs h
    unfold KV at h
    rw [List.map_cons] at h
    cases h with
    | @cons _ b _ l2 r t =>
      rw [List.map_cons, List.map_cons, ih t]
      have : b.1 = Sum.inr y.1 := r.1.symm
      rw [this]
theorem nodup_inr {ks : List (Str × V)} (h : (ks.map fun z => (Sum.inr z.1 : Key)).Nodup) : (ks.map (·.1)).Nodup := by
  have e : (ks.map fun z => (Sum.inr z.1 : Key)) = (ks.map (·.1)).map Sum.inr := by rw [List.map_map]; rfl
  rw [e] at h
  exact (List.pairwise_map.mp h).imp fun ne e => ne (by rw [e])
theorem zip_pair {α β γ : Type} (f : α → γ) : ∀ (as : List α) (bs : List β), as.length = bs.length → (as.zip bs).map (fun z => (f z.1, f z.1)) = (as.map f).zip (as.map f)
  | [], _, _ => by simp
  | a :: as, [], h => by simp at h
  | a :: as, b :: bs, h => by
    have := zip_pair f as bs (by simpa using h)
    simp only [List.zip_cons_cons, List.map_cons, this]
theorem cr_sortS (hc : X.calm = true) : CallR X (.builtin "sorted") rSortS := by
  intro pins s σ H xs us Q I r h
  obtain ⟨p, a, ks, rfl, hp, ha, h64, q⟩ := h
  obtain rfl := Vals.ref1 r
  have view : s.heap.IsItemsView p a := (show ObjOk X.prog X.w H s.heap p (L2.DX.itemsO p a) from I.hok p _ hp).1
  obtain ⟨_, _, vs, rel, o, es, ep, ho, hx, hdat, _, pr0, hn⟩ := dk_of I.hok ha
  have lv := Paired.length rel
  rw [List.length_map] at lv
  have le : es.size = ks.length := by rw [lv, ← Array.length_toList]; exact pr0.length
  have nd : (ks.map (·.1)).Nodup := nodup_inr (by rw [← keys_S rel]; exact hn)
  refine DT.sortedI (es := es) (ep := ep) (I.ok.hd hc) view ⟨o, ho, hx, hdat⟩ (by rw [le, sizeLine_eq]; omega) fun h' tk as hk hlt hl hG => ?_
  have lak : as.length = ks.length := hl.trans le
  have ndA : as.Nodup := hG.rise.imp fun h => Nat.ne_of_lt h
  have pr : ∀ (j : Nat) (b : Addr), as[j]? = some b → ∃ y t u, ks[j]? = some y ∧ RelV y.2 u ∧ h'.get? b = some { cls := .type "tuple", data := .seq #[Value.str y.1 t, u] } := by
    intro j b hj
    obtain ⟨en, he, hg⟩ := hG.pairs j b hj
    obtain ⟨y, t, f1, f2, f3⟩ := ent_at ks pr0 rel j en (by rw [Array.getElem?_toList]; exact he)
    exact ⟨y, t, en.val, f1, f3, by rw [hg, f2]⟩
  have new : (h'.push { cls := .type "list", data := .seq (as.map Value.ref).toArray }).get? h'.objs.size = some (seqObj "list" (as.map Value.ref).toArray 0) := Heap.get?_push_size _ rfl
  have apart : ∀ b ob, h'.get? b = some ob → b ≠ h'.objs.size := fun b ob e => Nat.ne_of_lt (Heap.lt_size e)
  have up : ∀ b ob, h'.get? b = some ob → (h'.push { cls := .type "list", data := .seq (as.map Value.ref).toArray }).get? b = some ob := fun b ob e => Heap.get?_push_of_some _ e
  generalize h'.push { cls := .type "list", data := .seq (as.map Value.ref).toArray } = h2 at new up ⊢
  have pin : ∀ (j : Nat) (b : Addr), as[j]? = some b → ∃ y u, ks[j]? = some y ∧ PairS (TS.midHeap h2 h'.objs.size (as.map Value.ref)) (.ref b) y.1 u := by
    intro j b hj
    obtain ⟨y, t, u, f1, f2, f3⟩ := pr j b hj
    exact ⟨y, u, f1, b, t, rfl, _, TS.midHeap_old (apart _ _ f3) (up _ _ f3), rfl, 0, rfl⟩
  have spot : ∀ v ∈ as.map Value.ref, ∃ (j : Nat) (b : Addr) (y : Str × V), v = .ref b ∧ as[j]? = some b ∧ ks[j]? = some y ∧ txS (TS.midHeap h2 h'.objs.size (as.map Value.ref)) v = y.1 := by
    intro v hv
    obtain ⟨b, hb, rfl⟩ := List.mem_map.mp hv
    obtain ⟨j, hj⟩ := List.mem_iff_getElem?.mp hb
    obtain ⟨y, u, f1, f2⟩ := pin j b hj
    exact ⟨j, b, y, rfl, hj, f1, f2.tx⟩
  refine wpAny_call_entry PyProof.Rows.slot_list_sort ⟨_, new, rfl⟩ PyProof.Rows.entry_list_sort
    (SK.plain_sort (s := { s with heap := h2, toks := tk }) (r := fun v => rankS (ks.map (·.1)) (txS (TS.midHeap h2 h'.objs.size (as.map Value.ref)) v)) new (by rw [List.length_map, lak]; exact h64) (fun two Qk hQk => ?_) fun zz out o1 o2 o3 => ⟨.none, rfl, ?_⟩) (PyProof.Rows.args_list_sort _)
  · refine kind_S (s := { s with heap := TS.midHeap h2 h'.objs.size (as.map Value.ref), toks := tk }) (ρ := rankS (ks.map (·.1))) two (fun v hv => ?_) (fun v hv u hu e => ?_) (fun v hv u hu => ?_) Qk hQk
    · obtain ⟨j, b, y, rfl, f1, f2, f3⟩ := spot v hv
      obtain ⟨y', u, g1, g2⟩ := pin j b f1
      exact ⟨y'.1, u, g2⟩
    · obtain ⟨j, b, y, rfl, f1, f2, f3⟩ := spot v hv
      obtain ⟨j', b', y', rfl, f1', f2', f3'⟩ := spot u hu
      have e' : y.1 = y'.1 := f3.symm.trans (e.trans f3')
      have m1 : (ks.map (·.1))[j]? = some y.1 := by rw [List.getElem?_map, f2]; rfl
      have m2 : (ks.map (·.1))[j']? = some y'.1 := by rw [List.getElem?_map, f2']; rfl
      have ej : j = j' := (List.getElem?_inj (List.getElem?_eq_some_iff.mp m1).1 nd).mp (by rw [m1, m2, e'])
      subst ej
      rw [f1] at f1'
      cases f1'
      rfl
    · obtain ⟨j, b, y, rfl, f1, f2, f3⟩ := spot v hv
      show ltS (txS (TS.midHeap h2 h'.objs.size (as.map Value.ref)) (.ref b)) _ = _
      rw [f3]
      exact rank_lt (List.mem_map.mpr ⟨y, List.mem_of_getElem? f2, rfl⟩)
  · show EP X pins σ Q (.ref h'.objs.size) { s with heap := sortedHeap h2 h'.objs.size (as.map Value.ref) out, toks := tk }
    obtain ⟨zs, pz, ez⟩ := perm_lift (fun z : Addr × Str × V => (Value.ref z.1, Value.ref z.1)) o2 (as.zip ks) (zip_pair Value.ref as ks lak)
    have idx : ∀ z ∈ zs, ∃ j : Nat, as[j]? = some z.1 ∧ ks[j]? = some z.2 := by
      intro z hz
      obtain ⟨j, hj⟩ := List.mem_iff_getElem?.mp (pz.mem_iff.mp hz)
      exact ⟨j, List.getElem?_zip_eq_some.mp hj⟩
    have hout : out.toList = zs.map fun z => Value.ref z.1 := by
      rw [o1, ← ez, List.map_map]
      rfl
    have hperm : (zs.map (·.2)).Perm ks := by
      have e := pz.map (·.2)
      rw [List.map_snd_zip (by rw [lak]; exact Nat.le_refl _)] at e
      exact e
    have hsort : (zs.map (·.2)).Pairwise (fun e f => ltS f.1 e.1 = false) := by
      rw [← ez, List.pairwise_map] at o3
      rw [List.pairwise_map]
      refine List.Pairwise.imp_of_mem (fun {x y} hx hy h => ?_) o3
      obtain ⟨j, j1, j2⟩ := idx x hx
      obtain ⟨i, i1, i2⟩ := idx y hy
      obtain ⟨yy, u, g1, g2⟩ := pin j x.1 j1
      obtain ⟨yy', u', g1', g2'⟩ := pin i y.1 i1
      rw [j2] at g1; cases g1
      rw [i2] at g1'; cases g1'
      have h3 : rankS (ks.map (·.1)) (txS (TS.midHeap h2 h'.objs.size (as.map Value.ref)) (.ref x.1)) ≤ rankS (ks.map (·.1)) (txS (TS.midHeap h2 h'.objs.size (as.map Value.ref)) (.ref y.1)) := h
      rw [g2.tx, g2'.tx] at h3
      rw [rank_lt (ks := ks.map (·.1)) (List.mem_map.mpr ⟨y.2, List.mem_of_getElem? i2, rfl⟩)]
      exact decide_eq_false (by omega)
    have stay : ∀ b ob, b ≠ h'.objs.size → h2.get? b = some ob → (sortedHeap h2 h'.objs.size (as.map Value.ref) out).get? b = some ob := fun b ob hb e => (PyProof.Rows.sortedHeap_old hb (Heap.lt_size e)).trans e
    obtain ⟨eF, heF⟩ := PyProof.Rows.sortedHeap_at (vs := as.map Value.ref) (out := out) new
    have I1 : Inv X pins σ H { s with heap := sortedHeap h2 h'.objs.size (as.map Value.ref) out, toks := tk } := I.kept (t' := tk) fun b ob e => stay b ob (apart _ _ (hk b ob e)) (up b ob (hk b ob e))
    have free0 : H h'.objs.size = none := I.hok.fresh (Nat.le_of_lt hlt)
    have few : (zs.map fun z => V.ref z.1).length ≤ sizeLine := by
      have e := hperm.length_eq
      rw [List.length_map] at e
      rw [List.length_map, sizeLine_eq, e]
      omega
    have rv : Vals (zs.map fun z => V.ref z.1) out.toList := by
      rw [hout]
      exact vals_maps (fun z : Addr × Str × V => V.ref z.1) (fun z => Value.ref z.1) zs fun _ _ => rfl
    have I2 : Inv X pins σ (upd H h'.objs.size (.lst (zs.map fun z => V.ref z.1))) { s with heap := sortedHeap h2 h'.objs.size (as.map Value.ref) out, toks := tk } :=
      I1.take (h' := sortedHeap h2 h'.objs.size (as.map Value.ref) out) (t' := tk) (fun b ob _ e => e) (I.fpOk (Nat.le_of_lt hlt) free0) ⟨few, out.toList, eF, rv, heF⟩
    obtain ⟨H2, I3, g, qt⟩ := L2.DX.takeT (P := fun b vs => ∃ (j : Nat) (y : Str × V), as[j]? = some b ∧ ks[j]? = some y ∧ vs = [.str y.1, y.2]) I as _ I2 ndA fun b hb => by
      obtain ⟨j, hj⟩ := List.mem_iff_getElem?.mp hb
      obtain ⟨y, t, u, f1, f2, f3⟩ := pr j b hj
      have hbl : s.heap.objs.size ≤ b := Nat.le_of_lt (hG.above b hb)
      refine ⟨hbl, ?_, [.str y.1, y.2], ⟨j, y, hj, f1, rfl⟩, fun H3 => ⟨(by rw [sizeLine_eq]; show 2 ≤ 16777216; omega), [Value.str y.1 t, u], .cons ⟨t, rfl⟩ (.cons f2 .nil), ⟨_, stay _ _ (apart _ _ f3) (up _ _ f3), rfl, 0, rfl⟩⟩⟩
      rw [upd_ne (apart _ _ f3)]
      exact I.hok.fresh hbl
    refine ⟨.ref h'.objs.size, H2, I3, rfl, q H2 h'.objs.size zs (fun b ob e => g b ob (by rw [upd_ne (ne_of_none e free0)]; exact e)) nd hperm hsort free0 (fun z hz => ?_) (g _ _ upd_same) fun z hz => ?_⟩
    · obtain ⟨j, j1, j2⟩ := idx z hz
      exact I.hok.fresh (Nat.le_of_lt (hG.above _ (List.mem_of_getElem? j1)))
    · obtain ⟨i, i1, i2⟩ := idx z hz
      obtain ⟨vs', ⟨j, y, j1, j2, ev⟩, hH⟩ := qt z.1 (List.mem_of_getElem? i1)
      have eij : i = j := (List.getElem?_inj (List.getElem?_eq_some_iff.mp i1).1 ndA).mp (i1.trans j1.symm)
      subst eij
      rw [i2] at j2
      cases j2
      rw [ev] at hH
      exact hH
/-- sorted(d.items()), over trees -/
def ent (p : Str × D) : Key × D := (Sum.inr p.1, p.2)
def tupS (p : Str × D) : D := .tup [.str p.1, p.2]
def dSortIt (te : TDE) : TDE := fun env st Q => te env st fun x st1 => cellD st1 x fun kd => ∃ ks : List (Str × D), kd = ks.map ent ∧ ks.length < 64 ∧
  ∀ ps : List (Str × D), (ks.map (·.1)).Nodup → ps.Perm ks → ps.Pairwise (fun e f => ltS f.1 e.1 = false) → Q (.lst (ps.map tupS)) st1
theorem repK_zip {G : Gx} {g : Gh} {H : Hp} : ∀ {ks : List (Str × D)} {kv : List (Key × V)}, RepK G g H kv (ks.map ent) → ∃ kz : List (Str × V × D), kv = (kz.map fun z => (z.1, z.2.1)).map entS ∧ ks = kz.map (fun z => (z.1, z.2.2)) ∧ ∀ z ∈ kz, Rep G g H z.2.1 z.2.2
  | [], _, .nil => ⟨[], rfl, rfl, fun _ h => by simp at h⟩
  | k :: ks, _, .cons (v := v) r t => by
    obtain ⟨kz, e1, e2, e3⟩ := repK_zip t
    refine ⟨(k.1, v, k.2) :: kz, by rw [List.map_cons, List.map_cons, ← e1], by rw [List.map_cons, ← e2], fun z hz => ?_⟩
    rcases List.mem_cons.mp hz with rfl | hz
    · exact r
    · exact e3 z hz
theorem reps_tupS {G : Gx} {g : Gh} {H : Hp} : ∀ (ps : List (Addr × Str × V)) (kz : List (Str × V × D)), ps.map (·.2) = kz.map (fun z => (z.1, z.2.1)) → (∀ z ∈ ps, H z.1 = some (.tup [.str z.2.1, z.2.2])) → (∀ z ∈ ps, g.own z.1 = none) → (∀ z ∈ kz, Rep G g H z.2.1 z.2.2) → Reps G g H (ps.map fun z => V.ref z.1) ((kz.map fun z => (z.1, z.2.2)).map tupS)
  | [], [], _, _, _, _ => .nil
  | [], _ :: _, e, _, _, _ => by simp at e
  | _ :: _, [], e, _, _, _ => by simp at e
  | p :: ps, k :: kz, e, h1, h2, h3 => by
    simp only [List.map_cons, List.cons.injEq] at e
    have hp := h1 p (List.mem_cons_self ..)
    have e1 : p.2.1 = k.1 := by rw [e.1]
    have e2 : p.2.2 = k.2.1 := by rw [e.1]
    rw [e1, e2] at hp
    exact .cons (.tup (.inl ⟨h2 p (List.mem_cons_self ..), .inl hp⟩) (.cons (.str _) (.cons (h3 k (List.mem_cons_self ..)) .nil))) (reps_tupS ps kz e.2 (fun z hz => h1 z (List.mem_cons_of_mem _ hz)) (fun z hz => h2 z (List.mem_cons_of_mem _ hz)) fun z hz => h3 z (List.mem_cons_of_mem _ hz))
theorem de_sortIt {e : Expr} {te : TDE} {p apos cpos pos : Pos} (hc : X.calm = true) (hg : Gl X "sorted") (hm : X.mg "sorted" = none) (he : DE cA X e te) (hbase : attributeBase e "items" X.env (eval e X.env) = eval e X.env := by rfl) (hline : (apos.endLine == cpos.line) = true := by rfl)
    (hs : starEach [.Call (.Attribute e "items" apos) [] [] cpos] X.env = (false, eval (.Call (.Attribute e "items" apos) [] [] cpos) X.env) :: starEach [] X.env := by rfl) :
    DE cA X (.Call (.Name "sorted" p) [.Call (.Attribute e "items" apos) [] [] cpos] [] pos) (dSortIt te) :=
  pe_weak (pe_callB (cr_sortS hc) hg hm (by decide +kernel) (pa_cons (pe_bm0 PySem.F.plainAttrs_dict PySem.F.slot_dict_items PySem.F.type_dict_items mt_itK he hbase hline) pa_nil hs) (he := hs) (hpl := rfl)) fun σ H Q ⟨g, st, env, Qd, rl, en, h, p⟩ => ⟨g, st, env, _, rl, en, h, fun d st1 g1 H1 v s1 rl1 r1 h1 => by
    obtain ⟨a, kv, kd, rfl, e1, rk, ks, rfl, h64, q⟩ := cellD_of rl1 r1 h1
    refine ⟨.inr (.inr (.inl ⟨rfl, .inl ⟨kv, e1⟩⟩)), a, kv, rfl, rfl, e1, fun w hw => ?_⟩
    obtain ⟨kz, rfl, rfl, rz⟩ := repK_zip rk
    have aw : a ≠ w := by rintro rfl; rw [hw] at e1; cases e1
    refine ⟨w, a, kz.map (fun z => (z.1, z.2.1)), rfl, upd_same, by rw [upd_ne aw]; exact e1, by simpa using h64, fun H' l ps k1 nd k2 k3 k4 k5 k6 k7 => ?_⟩
    have k1' : ∀ b o, H1 b = some o → H' b = some o := fun b o eb => k1 b o (by rw [upd_ne (ne_of_none eb hw)]; exact eb)
    have s2 : Step g1 st1 H1 g1 st1 H' := Step.grow k1'
    have no : ∀ b, upd H1 w (L2.DX.itemsO w a) b = none → H1 b = none := fun b eb => by
      by_cases z : b = w
      · subst z; exact hw
      · rwa [upd_ne z] at eb
    obtain ⟨kz', pz, ez⟩ := perm_lift (fun z : Str × V × D => (z.1, z.2.1)) k2 kz rfl
    have srt : (kz'.map fun z => (z.1, z.2.2)).Pairwise (fun e f => ltS f.1 e.1 = false) := by
      rw [← ez, List.pairwise_map] at k3
      rw [List.pairwise_map]
      exact k3
    refine p _ _ _ _ _ (s1.trans s2) (rl1.grow k1') (.lst (rl1.free (no _ k4)) k6 (reps_tupS ps kz' ez.symm k7 (fun z hz => rl1.free (no _ (k5 z hz))) fun z hz => (rz z (pz.mem_iff.mp hz)).mono s2)) (q _ ?_ (pz.map _) srt)
    have : (kz.map fun z => (z.1, z.2.1)).map (·.1) = (kz.map fun z => (z.1, z.2.2)).map (·.1) := by simp [List.map_map, Function.comp_def]
    rw [← this]
    exact nd⟩
end
end TL
namespace TL
open PySem PySem.Spec PyProof.Rows L2
/-! ### repr of a list whose items are data, or dicts of flat things -/
def flatP : PyData → Bool
  | .none => true
  | .bool _ => true
  | .int _ => true
  | .str _ => true
  | _ => false
def kP : Key → PyData
  | .inl i => .int i
  | .inr x => .str x
def dictP (kp : List (Key × PyData)) : PyData := .dict (kp.map fun p => (kP p.1, p.2))
def ItD (K : PySem.W.Frag) (H : Hp) (v : V) (p : PyData) : Prop := (Dp K H v p ∧ SeqAt.shaped p = true) ∨ ∃ b kv kp, v = .ref b ∧ Rd H b (.dK kv) ∧ DpK K H kv kp ∧ (kp.all fun q => flatP q.2) = true ∧ p = dictP kp
section
variable {X : Cx} {cA : Nat → Addr}
theorem reads_flat {K : PySem.W.Frag} {H : Hp} {h : Heap} {v : V} {u : Value} {p : PyData} (d : Dp K H v p) (f : flatP p = true) (r : RelV v u) : Reads h u p [] := by
  cases d with
  | non => cases r; exact .none
  | bl b => cases r; exact .bool b
  | int i => obtain ⟨t, rfl⟩ := r; exact .int i t
  | str x => obtain ⟨t, rfl⟩ := r; exact .str x t
  | lst _ _ => cases f
  | tup _ _ => cases f
theorem reads_key {h : Heap} {k : Key} {u : Value} (e : keyIs k u = true) : Reads h u (kP k) [] := by
  rcases keyIs_shape e with ⟨i, t, rfl, rfl⟩ | ⟨x, t, rfl, rfl⟩
  · exact .int i t
  · exact .str x t
theorem reads_pairs {K : PySem.W.Frag} {H : Hp} {h : Heap} {P : Program} {w : World} : ∀ (kp : List (Key × PyData)) {kv : List (Key × V)} {vs : List (Key × Value)} {es : List DictEntry}, DpK K H kv kp → KV kv vs → Pairs (mixKind P w) es vs → (kp.all fun q => flatP q.2) = true →
    ReadsAll h (es.map (·.key)) ((kp.map fun p => (kP p.1, p.2)).map (·.1)) [] ∧ ReadsAll h (es.map (·.val)) ((kp.map fun p => (kP p.1, p.2)).map (·.2)) [] := by
  intro kp
  induction kp with
  | nil =>
    intro kv vs es h1 h2 h3 _
    unfold DpK at h1
    cases h1
    unfold KV at h2
    cases h2
    cases h3
    exact ⟨.nil, .nil⟩
  | cons q kp ih =>
    intro kv vs es h1 h2 h3 hf
    unfold DpK at h1
    unfold KV at h2
    cases h1 with
    | @cons pv _ _ _ r1 t1 =>
      cases h2 with
      | @cons _ b _ _ r2 t2 =>
        cases h3 with
        | @cons e0 _ _ _ r3 r4 t3 =>
          rw [List.all_cons, Bool.and_eq_true] at hf
          obtain ⟨i1, i2⟩ := ih t1 t2 t3 hf.2
          have ek : keyIs q.1 e0.key = true := by
            have e1 : q.1 = b.1 := r1.1.symm.trans r2.1
            rw [e1]; exact r3
          have rv : RelV pv.2 e0.val := by rw [r4]; exact r2.2
          exact ⟨.cons (as := []) (bs := []) (reads_key ek) i1, .cons (as := []) (bs := []) (reads_flat r1.2.1 hf.1 rv) i2⟩
theorem item_reads {pins : List (Addr × Obj)} {σ : L2.St} {H : Hp} {s : Shared} (I : Inv X pins σ H s) {v : V} {u : Value} {p : PyData} (h : ItD X.K H v p) (r : RelV v u) : ∃ as, Reads s.heap u p as ∧ (p.hasDict = true → sysModules ∉ as) := by
  rcases h with ⟨hd, sh⟩ | ⟨b, kv, kp, rfl, e, dk, fl, rfl⟩
  · obtain ⟨as, rd⟩ := Dp.reads I p v u hd r
    exact ⟨as, rd, PyData.noDict_hsm (PyData.hasDict_of_canLay p (SeqAt.canLay_of_shaped sh))⟩
  · cases r
    obtain ⟨_, hsys, vs, rel, o, es, ep, ho, hx, hdat, _, pr, _⟩ := dk_rd I.hok e
    obtain ⟨i1, i2⟩ := reads_pairs (h := s.heap) kp dk rel pr fl
    refine ⟨b :: [] ++ [], .dict ho hx.1 hdat i1 i2, fun _ hm => ?_⟩
    have : sysModules = b := by simpa using hm
    rw [this] at hsys
    simp at hsys
theorem items_repr {pins : List (Addr × Obj)} {σ : L2.St} {H : Hp} {s : Shared} (I : Inv X pins σ H s) : ∀ (ps : List PyData) {vs : List V} {us : List Value}, Paired (ItD X.K H) vs ps → Vals vs us → PyData.showableAll ps = true → (∀ t ∈ PyData.shownAll ps, t.length ≤ sizeLine) →
    (∃ as, ReadsAll s.heap us ps as) ∧ ∃ bs, ReadAtMost s.heap (PyData.depthAll ps) bs ∧ ReprAllK X.prog X.w bs s.heap (PyData.depthAll ps) us (PyData.shownAll ps) := by
  intro ps
  induction ps with
  | nil =>
    intro vs us h1 h2 _ _
    cases h1
    cases h2
    exact ⟨⟨_, .nil⟩, [], (fun _ h => nomatch h), by simp only [PyData.shownAll]; exact .nil⟩
  | cons d ds ih =>
    intro vs us h1 h2 hs hz
    cases h1 with
    | @cons v _ _ _ r1 t1 =>
      cases h2 with
      | cons r2 t2 =>
        simp only [PyData.showableAll, Bool.and_eq_true] at hs
        simp only [PyData.shownAll] at hz
        obtain ⟨⟨as2, q2⟩, bs2, hb2, k2⟩ := ih t1 t2 hs.2 fun t ht => hz t (List.mem_cons_of_mem _ ht)
        obtain ⟨as1, q1, hsm⟩ := item_reads I r1 r2
        obtain ⟨bs1, hb1, k1⟩ := ReprK.of_reads (prog := X.prog) (w := X.w) q1 hs.1 hsm (hz _ (List.mem_cons_self ..))
        refine ⟨⟨_, .cons q1 q2⟩, bs1 ++ bs2, ?_, ?_⟩
        · simp only [PyData.depthAll]
          exact (hb1.mono (Nat.le_max_left _ _)).append (hb2.mono (Nat.le_max_right _ _))
        · simp only [PyData.depthAll, PyData.shownAll]
          refine .cons ((k1.more fun z hz => List.mem_append_left _ hz).level_le (Nat.le_max_left _ _)) ?_
          exact k2.more_le (fun z hz => List.mem_append_right _ hz) (Nat.le_max_right _ _)
theorem call_reprI (hgd : X.A.guards = some []) (hu : X.A.units + 70 < cLine) : CallR X (.builtin "repr") (fun xs H Q => ∃ a vs ps, xs = [.ref a] ∧ H a = some (.lst vs) ∧ vs ≠ [] ∧ Paired (ItD X.K H) vs ps ∧ (PyData.list ps).showable = true ∧ (PyData.list ps).depth ≤ 64 ∧ (PyData.list ps).shown.length ≤ sizeLine ∧ Q (.str (PyData.list ps).shown) H) := by
  intro pins s σ H xs us Q I r h
  obtain ⟨a, vs, ps, rfl, ha, hne, hi, hs, hd, hz, q⟩ := h
  obtain ⟨u, rfl, ru⟩ := vals1 r
  cases ru
  obtain ⟨its, rv, pl, _⟩ := I.list (SqL.of ha)
  obtain ⟨o, n, ho, hc, _, hdat⟩ := pl
  have hz' : (listText (PyData.shownAll ps)).length ≤ sizeLine := by simpa only [PyData.shown] using hz
  obtain ⟨⟨as, ra⟩, bs, hb, hk⟩ := items_repr I ps hi rv (by simpa [PyData.showable] using hs) fun t ht => Nat.le_trans (listText_mem_le ht) hz'
  have whole : Reads s.heap (.ref a) (.list ps) _ := .list ho hc hdat ra
  have hna : a ∉ bs := not_mem_of_deeper whole (by simp only [PyData.depth]; omega) hb
  simp only [PyData.depth] at hd
  simp only [PyData.shown] at q
  refine call_repr_slot (by omega) ⟨o, ho, hc⟩ F.slot_list_repr.toG ?_
  cases its with
  | nil => cases rv; exact absurd rfl hne
  | cons x l =>
    refine call_list_reprK (h₀ := s.heap) ho hc hdat hna (by simpa using hk.length_eq) (fun i y e => hk.item i y (by simpa using e)) hgd (fun b _ => Clear.nil b) (show X.A.units + 1 + (_ + 1) < cLine by omega) (fun _ _ e => e) (fun h' t tk kp => ⟨_, t, rfl, ?_⟩) hz'
    exact ⟨.str _, H, I.kept kp, ⟨_, rfl⟩, q⟩
/-- an item, one look deep -/
def pyI (st : Sto) (d : D) : Option PyData := match look st d with
  | .dct kd => (match pyK kd with
    | some kp => if (kp.all fun q => flatP q.2) = true then some (dictP kp) else none
    | none => none)
  | _ => (match pyv st d with
    | some p => if SeqAt.shaped p = true then some p else none
    | none => none)
def pyIs (st : Sto) : List D → Option (List PyData)
  | [] => some []
  | d :: ds => match pyI st d, pyIs st ds with
    | some p, some ps => some (p :: ps)
    | _, _ => none
theorem pyI_it {G : Gx} {g : Gh} {st : Sto} {H : Hp} {v : V} {d : D} {p : PyData} (rl : Rel G g st H) (r : Rep G g H v d) (h : pyI st d = some p) : ItD G.K H v p := by
  unfold pyI at h
  split at h
  · rename_i kd ex
    obtain ⟨a, kv, rfl, e1, rk⟩ := see_dct rl r ex
    split at h
    · rename_i kp ek
      split at h
      · rename_i fl
        cases h
        exact .inr ⟨a, kv, kp, rfl, e1, repK_py rk ek, fl, rfl⟩
      · cases h
    · cases h
  · split at h
    · rename_i q eq
      split at h
      · rename_i sh
        cases h
        exact .inl ⟨see_py rl r eq, sh⟩
      · cases h
    · cases h
theorem pyIs_it {G : Gx} {g : Gh} {st : Sto} {H : Hp} (rl : Rel G g st H) : ∀ {vs : List V} {ds : List D}, Reps G g H vs ds → ∀ {ps : List PyData}, pyIs st ds = some ps → Paired (ItD G.K H) vs ps
  | _, _, .nil, ps, h => by simp only [pyIs] at h; cases h; exact .nil
  | _, _, .cons (d := d) (ds := ds) r t, ps, h => by
    simp only [pyIs] at h
    cases h1 : pyI st d with
    | none => simp [h1] at h
    | some q => cases h2 : pyIs st ds with
      | none => simp [h1, h2] at h
      | some qs =>
        simp only [h1, h2] at h
        cases h
        exact .cons (pyI_it rl r h1) (pyIs_it rl t h2)
def rdReprI (ds : List D) (st : Sto) (Q : QD) : Prop := match ds with
  | [.lst xs] => xs ≠ [] ∧ ∃ ps, pyIs st xs = some ps ∧ (PyData.list ps).showable = true ∧ (PyData.list ps).depth ≤ 64 ∧ (PyData.list ps).shown.length ≤ sizeLine ∧ Q (.str (PyData.list ps).shown) st
  | _ => False
theorem de_reprI {p pos : Pos} {e : Expr} {te : TDE} (hgd : X.A.guards = some []) (hu : X.A.units + 70 < cLine) (hg : Gl X "repr") (hm : X.mg "repr" = none) (ha : DE cA X e te) (hs : starEach [e] X.env = (false, eval e X.env) :: starEach [] X.env := by rfl) : DE cA X (.Call (.Name "repr" p) [e] [] pos) (dCB rdReprI (dCons te dNil)) :=
  de_callB (call_reprI hgd hu) (fun g st H xs ds Qd Q rl rs h p => by
    unfold rdReprI at h
    split at h
    · obtain ⟨v, rfl, r⟩ := reps1 rs
      obtain ⟨hne, ps, h1, h2, h3, h4, h5⟩ := h
      cases r with
      | @lst a vs _ w e1 rv =>
        refine ⟨a, vs, ps, rfl, e1, ?_, pyIs_it rl rv h1, h2, h3, h4, p.now rl (.str _) h5⟩
        rintro rfl
        cases rv
        exact hne rfl
    · exact h.elim) hg hm (by decide +kernel) (da_cons ha da_nil hs) (he := hs) (hpl := rfl)
end
end TL
namespace TL
open PySem PySem.Spec PyProof.Rows L2
section
variable {X : Cx} {cA : Nat → Addr}
/-! ### repr of a flat thing -/
def rReprF : List V → Hp → VK → Prop := fun xs H Q => (∃ i, xs = [.int i] ∧ i.natAbs.log2 < 1920 ∧ Q (.str (PyData.int i).shown) H) ∨ (∃ x, xs = [.str x] ∧ (PyData.str x).shown.length ≤ sizeLine ∧ Q (.str (PyData.str x).shown) H) ∨ (xs = [.non] ∧ Q (.str PyData.none.shown) H)
theorem call_reprF : CallR X (.builtin "repr") rReprF := by
  intro pins s σ H xs us Q I r h
  rcases h with ⟨i, rfl, hz, q⟩ | ⟨x, rfl, hz, q⟩ | ⟨rfl, q⟩
  · obtain ⟨u, rfl, t, rfl⟩ := vals1 r
    simp only [PyData.shown] at q
    exact PySem.P.repr_of_int hz ⟨.str _, H, I.tok _, ⟨_, rfl⟩, q⟩
  · obtain ⟨u, rfl, t, rfl⟩ := vals1 r
    simp only [PyData.shown] at q hz
    exact PySem.P.repr_of_str ⟨.str _, H, I.tok _, ⟨_, rfl⟩, q⟩ hz
  · obtain ⟨u, rfl, ru⟩ := vals1 r
    cases ru
    simp only [PyData.shown] at q
    exact PySem.P.repr_of_none ⟨.str _, H, I.tok _, ⟨_, rfl⟩, q⟩
def rdReprF (ds : List D) (st : Sto) (Q : QD) : Prop := match ds with
  | [.int i] => i.natAbs.log2 < 1920 ∧ Q (.str (PyData.int i).shown) st
  | [.str x] => (PyData.str x).shown.length ≤ sizeLine ∧ Q (.str (PyData.str x).shown) st
  | [.non] => Q (.str PyData.none.shown) st
  | _ => False
theorem de_reprF {p pos : Pos} {e : Expr} {te : TDE} (hg : Gl X "repr") (hm : X.mg "repr" = none) (ha : DE cA X e te) (hs : starEach [e] X.env = (false, eval e X.env) :: starEach [] X.env := by rfl) : DE cA X (.Call (.Name "repr" p) [e] [] pos) (dCB rdReprF (dCons te dNil)) :=
  de_callB call_reprF (fun g st H xs ds Qd Q rl rs h p => by
    unfold rdReprF at h
    split at h
    · obtain ⟨v, rfl, r⟩ := reps1 rs; cases r; exact .inl ⟨_, rfl, h.1, p.now rl (.str _) h.2⟩
    · obtain ⟨v, rfl, r⟩ := reps1 rs; cases r; exact .inr (.inl ⟨_, rfl, h.1, p.now rl (.str _) h.2⟩)
    · obtain ⟨v, rfl, r⟩ := reps1 rs; cases r; exact .inr (.inr ⟨rfl, p.now rl (.str _) h⟩)
    · exact h.elim) hg hm (by decide +kernel) (da_cons ha da_nil hs) (he := hs) (hpl := rfl)
/-! ### a, b = a list -/
def gLs (n : Nat) (t : TDGs) : TDG := fun d env st Q => match d with
  | .lst ds => ds.length = n ∧ t ds env st Q
  | _ => False
theorem dg_lst {js : List Nat} {es : List Expr} {k : Nat} {pos : Pos} {t : TDGs} {n : Nat} (hc : X.calm = true) (h : DGs cA X js es t)
    (hn : (assignEach es X.env).length = n := by rfl) (hst : (assignEach es X.env).findIdx? (·.1) = none := by rfl) : DG cA X js (.Tuple es k pos) (gLs n t) :=
  pg_weak (pg_lst hc h hn hst) fun v σ H Q ⟨g, st, env, d, Qd, rl, en, r, h, p⟩ => by
    cases r with
    | lst w e rs => exact ⟨_, _, rfl, .of e, by rw [rs.length]; exact h.1, g, st, env, _, Qd, rl, en, rs, h.2, p⟩
    | _ => exact h.elim
end
end TL
namespace TL
open PySem PySem.Spec PyProof.Rows L2
/-! ### exceptions: what is wished of them, over trees -/
/-- an exception that leaves a statement: its class, its attributes (the last one stored ahead), the slots -/
abbrev XDe := Nat → List (Str × D) → DSt → Sto → Prop
def PostX (G : Gx) (cE : Nat → Addr) (Xd : XDe) (W : WX) (g : Gh) (st : Sto) (H : Hp) : Prop :=
  ∀ c fs env' st' g' H' σ' d fv, Step g st H g' st' H' → Rel G g' st' H' → EnvR G g' H' σ' env' → g'.own d = none → H' d = some (.xd fv) → RepF G g' H' fv fs → Xd c fs env' st' → W (.ref (cE c)) (some d) σ' H'
def PostE (G : Gx) (cE : Nat → Addr) (Xd : XD) (E : XK) (g : Gh) (st : Sto) (H : Hp) : Prop :=
  ∀ c fs st' g' H' d fv, Step g st H g' st' H' → Rel G g' st' H' → g'.own d = none → H' d = some (.xd fv) → RepF G g' H' fv fs → Xd c fs st' → E (.ref (cE c)) (some d) H'
/-- kept by steps -/
def Kept (Z : Gh → Sto → Hp → Prop) : Prop := ∀ {g g' : Gh} {st st' : Sto} {H H' : Hp}, Step g st H g' st' H' → Z g st H → Z g' st' H'
theorem PostX.kept {G : Gx} {cE : Nat → Addr} {Xd : XDe} {W : WX} : Kept (PostX G cE Xd W) := fun s p c fs env' st' g' H' σ' d fv s1 => p c fs env' st' g' H' σ' d fv (s.trans s1)
theorem PostE.kept {G : Gx} {cE : Nat → Addr} {Xd : XD} {E : XK} : Kept (PostE G cE Xd E) := fun s p c fs st' g' H' d fv s1 => p c fs st' g' H' d fv (s.trans s1)
/-- a promise that may end in an exception -/
def liftSpX (G : Gx) (cE : Nat → Addr) (sp : DSp) : Sp := fun vs H Q E => ∃ g st ds Qd Xd, Rel G g st H ∧ Reps G g H vs ds ∧ sp ds st Qd Xd ∧ Post G g st H Qd Q ∧ PostE G cE Xd E g st H
def liftZ (G : Gx) (Z : Gh → Sto → Hp → Prop) (t : TDS) : TS := fun D σ H => ∃ g st env Dd, Rel G g st H ∧ EnvR G g H σ env ∧ t Dd env st ∧ PostS G g st H Dd D ∧ Z g st H
def liftEZ (G : Gx) (Z : Gh → Sto → Hp → Prop) (t : TDE) : TE := fun σ H Q => ∃ g st env Qd, Rel G g st H ∧ EnvR G g H σ env ∧ t env st Qd ∧ Post G g st H Qd Q ∧ Z g st H
def DZ (cA : Nat → Addr) (X : Cx) (Z : Gh → Sto → Hp → Prop) (s : Stmt) (t : TDS) : Prop := PS X s (liftZ (gx X cA) Z t)
def DZs (cA : Nat → Addr) (X : Cx) (Z : Gh → Sto → Hp → Prop) (s : List Stmt) (t : TDS) : Prop := PSs X s (liftZ (gx X cA) Z t)
def DEZ (cA : Nat → Addr) (X : Cx) (Z : Gh → Sto → Hp → Prop) (e : Expr) (t : TDE) : Prop := PE X e (liftEZ (gx X cA) Z t)
section
variable {X : Cx} {cA : Nat → Addr} {Z : Gh → Sto → Hp → Prop}
theorem dz_of {s : Stmt} {t : TDS} (h : DS cA X s t) : DZ cA X Z s t := ps_weak h fun σ H Q ⟨g, st, env, Dd, rl, en, h, p, _⟩ => ⟨g, st, env, Dd, rl, en, h, p⟩
theorem dzs_of {s : List Stmt} {t : TDS} (h : DSs cA X s t) : DZs cA X Z s t := pss_weak h fun σ H Q ⟨g, st, env, Dd, rl, en, h, p, _⟩ => ⟨g, st, env, Dd, rl, en, h, p⟩
theorem dez_of {e : Expr} {t : TDE} (h : DE cA X e t) : DEZ cA X Z e t := pe_weak h fun σ H Q ⟨g, st, env, Dd, rl, en, h, p, _⟩ => ⟨g, st, env, Dd, rl, en, h, p⟩
theorem dzs_one {s : Stmt} {t : TDS} (h1 : DZ cA X Z s t) : DZs cA X Z [s] t := pss_one h1
theorem dzs_cons {s : Stmt} {rest : List Stmt} {t u : TDS} (kz : Kept Z) (h1 : DZ cA X Z s t) (h2 : DZs cA X Z rest u) : DZs cA X Z (s :: rest) (dSeq t u) :=
  pss_weak (pss_cons h1 h2) fun σ H Q ⟨g, st, env, Dd, rl, en, h, p, z⟩ => ⟨g, st, env, { Dd with nx := u Dd }, rl, en, h,
    ⟨fun env1 st1 g1 H1 σ1 s1 rl1 en1 h1 => ⟨g1, st1, env1, Dd, rl1, en1, h1, p.step s1, kz s1 z⟩, p.rt, p.bk, p.ct⟩, z⟩
theorem dz_if {c : Expr} {a b : List Stmt} {pos : Pos} {tc : TDT} {t u : TDS} (kz : Kept Z) (hc : DT cA X c tc) (ha : DZs cA X Z a t) (hb : DZs cA X Z b u) : DZ cA X Z (.If c a b pos) (dIfS tc t u) :=
  ps_weak (ps_if hc ha hb) fun σ H Q ⟨g, st, env, Dd, rl, en, h, p, z⟩ => ⟨g, st, env, _, rl, en, h, fun c st1 g1 H1 s1 rl1 h1 => by
    cases c with
    | true => exact ⟨g1, st1, env, Dd, rl1, en.mono s1, h1, p.step s1, kz s1 z⟩
    | false => exact ⟨g1, st1, env, Dd, rl1, en.mono s1, h1, p.step s1, kz s1 z⟩⟩
theorem dz_for {js : List Nat} {tg iter : Expr} {body : List Stmt} {ti : TDI} {t : TDG} {tb : TDS} {pos : Pos} (kz : Kept Z) (hp : PassesOwn (model X.prog X.w) X.A X.env X.xe) (hc : X.calm = true) (hi : DI cA X tg iter ti) (hg : DG cA X js tg t) (hb : DZs cA X Z body tb)
    (hs : ∀ x, foldedSetIterable iter X.env x = pure x := by intro _; rfl) : DZ cA X Z (.For tg iter body [] pos) (dFor ti t tb) :=
  ps_weak (ps_for hp hc hi hg hb hs) fun σ H Q ⟨g, st, env, Dd, rl, en, h, p, z⟩ => by
    refine ⟨g, st, env, _, rl, en, h, fun ds st1 g1 H1 J s1 rl1 wk h1 => ?_⟩
    refine ⟨fun i m σ' H' => i ≤ ds.length ∧ m = ds.length - i ∧ ∃ g' st' env', Step g1 st1 H1 g' st' H' ∧ Rel (gx X cA) g' st' H' ∧ EnvR (gx X cA) g' H' σ' env' ∧ dLoop t tb Dd (ds.drop i) env' st',
      ⟨_, Nat.zero_le _, rfl, g1, st1, env, Step.refl _ _ _, rl1, en.mono s1, h1⟩, ?_⟩
    rintro i m σ2 H2 ⟨hi, rfl, g2, st2, env2, s2, rl2, en2, h2⟩
    by_cases hlt : i < ds.length
    · rw [List.drop_eq_getElem_cons hlt] at h2
      obtain ⟨go, yld⟩ := wk.go i ds[i] st2 g2 H2 (by simp [hlt]) s2 rl2
      refine .inr ⟨go, fun σ' H' => ∃ g' st' env', Step g1 st1 H1 g' st' H' ∧ Rel (gx X cA) g' st' H' ∧ EnvR (gx X cA) g' H' σ' env' ∧ dLoop t tb Dd (ds.drop (i + 1)) env' st', fun σ' H' q => ⟨_, by omega, hlt, rfl, q⟩, fun x H' y => ?_⟩
      obtain ⟨s3, rl3, r3⟩ := yld x H' y
      refine ⟨g2, st2, env2, _, _, rl3, en2.mono s3, r3, h2, fun env4 st4 g4 H4 σ4 s4 rl4 en4 _ h4 => ?_⟩
      have s14 := (s2.trans s3).trans s4
      have again : PostN (gx X cA) g4 st4 H4 (dLoop t tb Dd (ds.drop (i + 1))) (fun σ' H' => ∃ g' st' env', Step g1 st1 H1 g' st' H' ∧ Rel (gx X cA) g' st' H' ∧ EnvR (gx X cA) g' H' σ' env' ∧ dLoop t tb Dd (ds.drop (i + 1)) env' st') :=
        fun env5 st5 g5 H5 σ5 s5 rl5 en5 h5 => ⟨g5, st5, env5, s14.trans s5, rl5, en5, h5⟩
      exact ⟨g4, st4, env4, _, rl4, en4, h4, ⟨again, p.rt.step (s1.trans s14), p.nx.step (s1.trans s14), again⟩, kz (s1.trans s14) z⟩
    · have e : i = ds.length := by omega
      subst e
      rw [List.drop_length] at h2
      exact .inl ⟨wk.stop st2 g2 H2 s2 rl2, p.nx _ _ _ _ _ (s1.trans s2) rl2 en2 h2⟩
theorem dz_expr {e : Expr} {pos : Pos} {te : TDE} (he : DEZ cA X Z e te) (hs : swapsWith e none pos.line X.env = pure false := by rfl) : DZ cA X Z (.Expr e pos) (dDrop te) :=
  ps_weak (ps_expr he hs) fun σ H Q ⟨g, st, env, Dd, rl, en, h, p, z⟩ => ⟨g, st, env, _, rl, en, h, fun d st1 g1 H1 v s1 rl1 r1 h1 => p.nx _ _ _ _ _ s1 rl1 (en.mono s1) h1, z⟩
theorem dz_ret {e : Expr} {pos : Pos} {te : TDE} (he : DEZ cA X Z e te) : DZ cA X Z (.Return (some e) pos) (dRet te) :=
  ps_weak (ps_ret he) fun σ H Q ⟨g, st, env, Dd, rl, en, h, p, z⟩ => ⟨g, st, env, _, rl, en, h, p.rt, z⟩
theorem dz_set {i : Nat} {x : Str} {e : Expr} {te : TDE} {pos pos' : Pos} (hN : X.N.Nodup) (hi : X.N[i]? = some x) (hx : Loc X.env.scope x) (he : DEZ cA X Z e te) (hs : swapsWith e (some (.Name x pos')) pos.line X.env = pure false := by rfl) (hf : X.fn x = true ∨ X.env.scope.names.lookup x = some .local := by first | exact .inl rfl | exact .inr rfl | assumption) :
    DZ cA X Z (.Assign [.Name x pos'] e pos) (dAsg i te) := ps_weak (ps_set hN hi hx he hs hf) fun σ H Q ⟨g, st, env, Dd, rl, en, h, p, z⟩ =>
  ⟨g, st, env, _, rl, en, h, fun d st1 g1 H1 v s1 rl1 r1 h1 => p.nx _ _ _ _ _ s1 rl1 ((en.mono s1).set r1 i) h1, z⟩
end
/-! ### defs that may raise -/
structure FnX (cA cE : Nat → Addr) (P : Program) (w : World) (K : PySem.W.Frag) (mg : Str → Option Value) (base : Heap) (k : Nat) (f : Addr) (fd : FuncData) (ps : List Str) (sp : DSp) : Prop where
  len : ∀ ds st Q E, sp ds st Q E → ds.length = ps.length
  run : ∀ (A : Around) (outer : List Env) (s : Shared) (H : Hp) (args : Args) (us : List Value) (vs : List V) (Q : VK) (E : XK), Room k A → A.guards = some [] → Env0 P w K mg base A outer s H → BindsTo s fd args (ps.zip us) → Vals vs us → liftSpX ⟨K, cA⟩ cE sp vs H Q E →
    codeAny (model P w) A (.call (.ref f) args) (CR (L2.CX P w) outer P w H s Q E) s
theorem FnX.mono {cA cE : Nat → Addr} {P : Program} {w : World} {K : PySem.W.Frag} {mg : Str → Option Value} {base : Heap} {j k : Nat} {f : Addr} {fd : FuncData} {ps : List Str} {sp : DSp} (F : FnX cA cE P w K mg base j f fd ps sp) (h : j ≤ k) : FnX cA cE P w K mg base k f fd ps sp :=
  ⟨F.len, fun A outer s H args us vs Q E hr => F.run A outer s H args us vs Q E (hr.mono h)⟩
/-- the exception's wish behind a def: cells that the caller does not know are forgotten -/
def endX (Xd : XD) : XDe := fun c fs _ st => ∃ st', Sub st' st ∧ Xd c fs st'
/-- the derivation of a body that may raise -/
def BodyX (cA cE : Nat → Addr) (P : Program) (w : World) (K : PySem.W.Frag) (mg : Str → Option Value) (base : Heap) (k : Nat) (qual : Str) (st : Stmt) (N : List Str) (tb : XDe → TDS) : Prop :=
  ∀ (f : Addr) (cdv : Value) (A : Around) (outer : List Env) (s : Shared) (H : Hp) (E : XK) (Xd : XDe), Room k (A.deeper (envOfC qual (defScope st) s.heap.objs.size f cdv)) → (A.deeper (envOfC qual (defScope st) s.heap.objs.size f cdv)).guards = some [] →
    Takes (cxOf (L2.CX P w) P w K mg base N qual (defScope st) f cdv A outer s H E) (fun cls d _ H => E cls d H) → PassesOwn (model P w) (A.deeper (envOfC qual (defScope st) s.heap.objs.size f cdv)) (envOfC qual (defScope st) s.heap.objs.size f cdv) (cxOf (L2.CX P w) P w K mg base N qual (defScope st) f cdv A outer s H E).xe →
      DZs cA (cxOf (L2.CX P w) P w K mg base N qual (defScope st) f cdv A outer s H E) (PostX ⟨K, cA⟩ cE Xd fun cls d _ H => E cls d H) (defBody st) (tb Xd)
section
variable {cA cE : Nat → Addr} {P : Program} {w : World} {K : PySem.W.Frag} {mg : Str → Option Value} {base h : Heap}
theorem fnX {x qual : Str} {st : Stmt} {f : Addr} {fd : FuncData} {N ps : List Str} {k : Nat} {sp : DSp} {tb : XDe → TDS} (F : FnB K x qual st f fd) (S : FnScope N ps (defScope st))
    (len : ∀ ds st Q E, sp ds st Q E → ds.length = ps.length) (hd : BodyX cA cE P w K mg base k qual st N tb)
    (hb : ∀ ds s0 Q Xd, sp ds s0 Q Xd → tb (endX Xd) (ends Q) (startD N ds) s0) : FnX cA cE P w K mg base (k + 1) f fd ps sp := by
  obtain ⟨oc, od, dV, kV, doc, pm, an, cdv, ct, osl, rfl, lk, hcd⟩ := F.ex
  refine ⟨len, fun A outer s H args us vs Q E hr hg e0 hbd r hsp => ?_⟩
  obtain ⟨g, s0, ds, Qd, Xd, rl, rs, h, p, px⟩ := hsp
  have hl : vs.length = ps.length := rs.length.trans (len _ _ _ _ h)
  have KX : K.In s.heap := e0.mod.kin.keeps fun b o e => (e0.bs b o e).1
  have lim : s.heap.NoLimit := e0.mod.nolimit.keeps fun b o e => (e0.bs b o e).1
  refine codeAny_call_function hr.depth (KX _ _ lk) rfl S.co S.gen rfl (PySem.W.codeRec_of KX hcd) (hbd _ _ _ _ ?_)
  refine wpAny_newFunctionEnv_cells S.kind (fun y hy => ?_) fun env he s1 x => ?_
  · cases S.par y.1 (List.of_mem_zip (a := y.1) (b := y.2) hy).1 with
    | inl q => exact .inl q
    | inr q => exact .inr ⟨q, PySem.W.cellsFrom_some _ _ _ (.inl q)⟩
  subst he
  refine ⟨lim.keeps x.toInCall.keep, codeAny_func ?_⟩
  have I := inv_start (CX := L2.CX P w) (E := E) S hr.hd e0 hl r x
  have tk : Takes (cxOf (L2.CX P w) P w K mg base N qual (defScope st) f cdv A outer s H E) (fun cls d _ H => E cls d H) := takes_of rfl rfl rfl rfl
  have D := hd f cdv A outer s H E (endX Xd) (hr.deeper _) hg tk (passes_of rfl)
  refine wpAny_mono (D.run [] s1 (L2.start N vs) H { nx := fun _ H' => Q .non H', rt := Q } I
    ⟨g, s0, startD N ds, ends Qd, rl, env_start rs, hb ds s0 Qd Xd h, ⟨fun env1 st1 g1 H1 σ1 q1 rl1 en1 ⟨st', sb, q⟩ => p .non st' g1 H1 .non (q1.sub sb) (rl1.sub sb) .non q, fun d st1 g1 H1 v q1 rl1 r1 ⟨st', sb, q⟩ => p d st' g1 H1 v (q1.sub sb) (rl1.sub sb) r1 q, fun _ _ _ _ _ _ _ _ q => q.elim, fun _ _ _ _ _ _ _ _ q => q.elim⟩, ?_⟩) (fun fl s' hs => ?_) fun e s' hs => hs
  · rintro c fs env' st' g' H' σ' d fv q1 rl1 en1 ow hx rf ⟨st2, sb, q⟩
    exact px c fs st2 g' H' d fv (q1.sub sb) (rl1.sub sb) ow hx rf q
  cases fl with
  | ret u => obtain ⟨v, σ', H', J, rv, q⟩ := hs; exact ⟨v, H', J.os, J.bare, J.base, J.hok, rv, q⟩
  | next => obtain ⟨σ', H', J, q⟩ := hs; exact ⟨.non, H', J.os, J.bare, J.base, J.hok, rfl, q⟩
  | brk => obtain ⟨_, _, _, q⟩ := hs; exact q.elim
  | cont => obtain ⟨_, _, _, q⟩ := hs; exact q.elim
end
end TL
namespace TL
open PySem PySem.Spec PyProof.Rows L2
/-! ### calls that may raise -/
def spKX (sp : DSp) (sh : Shape) : List D → List D → Sto → QD → XD → Prop := fun ds es st Q Xd => ds.length = sh.n ∧ es.length = sh.ks.length ∧ sp (pick sh.ix (ds ++ es ++ sh.dfl)) st Q Xd
structure CalX (cA cE : Nat → Addr) (P : Program) (w : World) (K : PySem.W.Frag) (mg : Str → Option Value) (base : Heap) (k : Nat) (x : Str) (ps : List Str) (sp : DSp) (shs : List Shape) : Prop where
  ex : ∃ (f : Addr) (fd : FuncData), FnX cA cE P w K mg base k f fd ps sp ∧ mg x = some (.ref f) ∧ PySem.W.keepIn K (.ref f) = true ∧ ∀ sh ∈ shs, Bnd K cA fd ps sh
structure CalMX (cA cE : Nat → Addr) (P : Program) (w : World) (K : PySem.W.Frag) (mg : Str → Option Value) (base : Heap) (k : Nat) (c : Nat) (m : Str) (ps : List Str) (sp : DSp) : Prop where
  ex : ∃ (f : Addr) (fd : FuncData), FnX cA cE P w K mg base k f fd ps sp ∧ Cls K (cA c) ∧ Meth K (cA c) m f ∧ Binds K fd ps []
def newOkX (spI : DSp) (c : Nat) (z : Bool) (sp : DSp) : Prop := ∀ ds st Q Xd, sp ds st Q Xd → ∀ n, st n = none → spI (.ref n :: ds) (sup st n (.obj c [])) (fun v st2 => v = .non ∧ fin z n st2 Q) Xd
structure CalNX (cA cE : Nat → Addr) (P : Program) (w : World) (K : PySem.W.Frag) (mg : Str → Option Value) (base : Heap) (k : Nat) (x : Str) (ps : List Str) (sp : DSp) (shs : List Shape) : Prop where
  ex : ∃ (c : Nat) (z : Bool) (f : Addr) (fd : FuncData) (spI : DSp), FnX cA cE P w K mg base k f fd ps spI ∧ Mk K (cA c) f ∧ mg x = some (.ref (cA c)) ∧ (∀ sh ∈ shs, Bnd K cA fd ps (slf sh)) ∧ newOkX spI c z sp
section
variable {X : Cx} {cA cE : Nat → Addr} {k : Nat} {f : Addr} {fd : FuncData} {ps : List Str} {sp : DSp} {sh : Shape} {W : WX} {Xd : XDe} {x m : Str} {p pos apos : Pos} {e o : Expr} {es : List Expr} {kws : List Keyword} {t tk : TDA} {to : TDE}
theorem code_x {A : Around} {outer : List Env} {H : Hp} {s : Shared} {us ws : List Value} {vs zs : List V} {ds es : List D} {g : Gh} {st : Sto} {Qd : QD} {Q : VK} {E : XK} {Xe : XD} (F : FnX cA cE X.prog X.w X.K X.mg X.base k f fd ps sp) (hr : Room k A) (hgd : A.guards = some []) (hb : Bnd X.K cA fd ps sh)
    (KX : X.K.In s.heap) (e0 : Env0 X.prog X.w X.K X.mg X.base A outer s H) (r : Vals vs us) (rz : Vals zs ws) (rl : Rel (gx X cA) g st H) (rs : Reps (gx X cA) g H vs ds) (re : Reps (gx X cA) g H zs es) (h : spKX sp sh ds es st Qd Xe) (p : Post (gx X cA) g st H Qd Q) (px : PostE (gx X cA) cE Xe E g st H) :
    codeAny (model X.prog X.w) A (.call (.ref f) ⟨us, sh.ks.zip ws⟩) (CR (L2.CX X.prog X.w) outer X.prog X.w H s Q E) s := by
  obtain ⟨its, dvs, r3, rd, hbd⟩ := hb.ex
  obtain ⟨l1, l2, h⟩ := h
  refine F.run A outer s H ⟨us, sh.ks.zip ws⟩ (pick sh.ix (us ++ ws ++ its)) (pick sh.ix (vs ++ zs ++ dvs)) Q E hr hgd e0 (hbd s us ws KX (by rw [← r.length, rs.length]; exact l1) (by rw [← rz.length, re.length]; exact l2)) (pick_vals ((r.append rz).append r3)) ?_
  exact ⟨g, st, _, Qd, Xe, rl, pick_reps ((rs.append re).append (rd g H)), h, p, px⟩
/-- back from the run -/
theorem back_x {pins : List (Addr × Obj)} {σ : L2.St} {H : Hp} {s : Shared} {Q : VK} {args : Args} (tkx : Takes X W) (I : Inv X pins σ H s) (h : codeAny (model X.prog X.w) X.A (.call (.ref f) args) (CR (L2.CX X.prog X.w) X.stack X.prog X.w H s Q fun cls d H' => W cls d σ H') s) :
    wpAny (model X.prog X.w) X.A (call (.ref f) args.pos args.kw) (EP X pins σ Q) X.xe s := by
  refine wpAny_call (codeAny_mono h fun r s' hq => ?_)
  cases r with
  | error e => exact tkx e s' (XE.of_call I (fun _ _ _ h => h) hq)
  | ok fl => cases fl with
    | ret u => exact I.after hq
    | _ => exact hq.elim
/-- what leaves a call, at the caller's slots -/
theorem px_of {g : Gh} {st : Sto} {H : Hp} {σ : L2.St} {env : DSt} (px : PostX (gx X cA) cE Xd W g st H) (en : EnvR (gx X cA) g H σ env) : PostE (gx X cA) cE (fun c fs st2 => Xd c fs env st2) (fun cls d H' => W cls d σ H') g st H :=
  fun c fs st' g' H' d fv s1 rl1 ow hx rf q => px c fs env st' g' H' σ d fv s1 rl1 (en.mono s1) ow hx rf q
def dCallX (sp : DSp) (sh : Shape) (Xd : XDe) (t tk : TDA) : TDE := fun env st Q => t env st fun ds st1 => tk env st1 fun es st2 => spKX sp sh ds es st2 Q fun c fs st3 => Xd c fs env st3
theorem dx_call {shs : List Shape} (tkx : Takes X W) (C : CalX cA cE X.prog X.w X.K X.mg X.base k x ps sp shs) (hsh : sh ∈ shs) (hr : Room k X.A) (hgd : X.A.guards = some []) (hg : Gl X x) (ha : DA cA X (e :: es) t) (hkw : DK cA X kws tk)
    (hall : (backToKw pos (keywordEach kws X.env)).all (·.1.isSome) = true := by rfl) (hks : (backToKw pos (keywordEach kws X.env)).filterMap (·.1) = sh.ks := by rfl) (hdb : (x == ("__debug__" : Str)) = false := by decide)
    (he : starEach (e :: es) X.env = (false, eval e X.env) :: starEach es X.env := by rfl) (hpl : ((backTo pos (starEach (e :: es) X.env)).any (·.1) || (backToKw pos (keywordEach kws X.env)).any (·.1.isNone)) = false := by rfl) :
    DEZ cA X (PostX (gx X cA) cE Xd W) (.Call (.Name x p) (e :: es) kws pos) (dCallX sp sh Xd t tk) := by
  obtain ⟨f, fd, F, hm, hk, hb⟩ := C.ex
  refine ⟨fun pins s σ H Q I h => ?_⟩
  obtain ⟨g, st, env, Qd, rl, en, h, pq, px⟩ := h
  refine wpAny_Call_Name_kw (ld_glob I hg hm ?_ hdb)
  refine PySem.W.callWith_KW (h₀ := X.base) I.ok.mod.kin hk hall (thn (ha.run pos pins s σ H (fun vs H' => ∃ g1 st1 ds, Step g st H g1 st1 H' ∧ Rel (gx X cA) g1 st1 H' ∧ Reps (gx X cA) g1 H' vs ds ∧ tk env st1 fun es st2 => spKX sp sh ds es st2 Qd fun c fs st3 => Xd c fs env st3) I ⟨g, st, env, _, rl, en, h, fun ds st1 g1 H1 vs s1 rl1 r1 h1 => ⟨g1, st1, ds, s1, rl1, r1, h1⟩⟩) fun us s1 ⟨vs, H1, I1, r, g1, st1, ds, q1, rl1, rs1, h1⟩ => ?_) hpl he
  refine thn (hkw.run pos pins s1 σ H1 (fun zs H' => ∃ g2 st2 es, Step g1 st1 H1 g2 st2 H' ∧ Rel (gx X cA) g2 st2 H' ∧ Reps (gx X cA) g2 H' zs es ∧ spKX sp sh ds es st2 Qd fun c fs st3 => Xd c fs env st3) I1 ⟨g1, st1, env, _, rl1, en.mono q1, h1, fun es st2 g2 H2 zs s2 rl2 r2 h2 => ⟨g2, st2, es, s2, rl2, r2, h2⟩⟩) fun ws s2 ⟨zs, H2, I2, rz, g2, st2, es, q2, rl2, re, h2⟩ => ⟨I2.kIn, ?_⟩
  rw [hks]
  have q12 := q1.trans q2
  exact back_x (args := ⟨us, sh.ks.zip ws⟩) tkx I2 (code_x F hr hgd (hb sh hsh) I2.kIn I2.env0 r rz rl2 (rs1.mono q2) re h2 (pq.step q12) (px_of (PostX.kept q12 px) (en.mono q12)))
/-! methods -/
def dMethX (cs : List Nat) (m : Str) (sps : Nat → DSp) (Xd : XDe) (to : TDE) (t : TDA) : TDE := fun env st Q => to env st fun o st1 => match look st1 o with
  | .obj c fd => c ∈ cs ∧ fd.lookup m = none ∧ t env st1 fun ds st2 => sps c (o :: ds) st2 Q fun c fs st3 => Xd c fs env st3
  | _ => False
theorem meth_coreX {c : Nat} {us : List Value} {vs : List V} {d : D} {v : V} {u : Value} {ds : List D} {pins : List (Addr × Obj)} {σ : L2.St} {env : DSt} {H : Hp} {s : Shared} {g : Gh} {st : Sto} {Qd : QD} {Q : VK} (tkx : Takes X W) (F : FnX cA cE X.prog X.w X.K X.mg X.base k f fd ps sp) (hr : Room k X.A)
    (hgd : X.A.guards = some []) (hb : Binds X.K fd ps []) (I : Inv X pins σ H s) (ru : RelV v u) (r : Vals vs us) (rl : Rel (gx X cA) g st H) (rd : Rep (gx X cA) g H v d) (rs : Reps (gx X cA) g H vs ds) (en : EnvR (gx X cA) g H σ env) (h : sp (d :: ds) st Qd fun c fs st3 => Xd c fs env st3) (p : Post (gx X cA) g st H Qd Q) (px : PostX (gx X cA) cE Xd W g st H) :
    wpAny (model X.prog X.w) X.A (call (.ref f) (u :: us)) (EP X pins σ Q) X.xe s := by
  have hlen : (d :: ds).length = ps.length := F.len _ _ _ _ h
  refine back_x (args := ⟨u :: us, (full (ds.length + 1)).ks.zip []⟩) tkx I (code_x (vs := v :: vs) (us := u :: us) (ds := d :: ds) (es := []) (zs := []) (ws := []) (sh := full (ds.length + 1)) F hr hgd (bnd_full hb (by rw [← hlen]; rfl)) I.kIn I.env0 (.cons ru r) .nil rl (.cons rd rs) .nil ⟨rfl, rfl, ?_⟩ p (px_of px en))
  show sp (pick (List.range (ds.length + 1)) (d :: ds ++ [] ++ [])) _ _ _
  rw [List.append_nil, List.append_nil, show ds.length + 1 = (d :: ds).length from rfl, full_pick]
  exact h
theorem dmx_call {cs : List Nat} {sps : Nat → DSp} {pss : Nat → List Str} {pl : Sem Bool} (tkx : Takes X W) (C : ∀ c ∈ cs, CalMX cA cE X.prog X.w X.K X.mg X.base k c m (pss c) (sps c)) (hr : Room k X.A) (hgd : X.A.guards = some []) (ho : DE cA X o to) (ha : DA cA X (e :: es) t)
    (hst : starEach (e :: es) X.env = (false, eval e X.env) :: starEach es X.env := by rfl) (hpl : (backTo pos (starEach es X.env)).any (·.1) = false := by rfl)
    (ht : eval (.Call (.Attribute o m apos) (e :: es) [] pos) X.env = (do
      let ov ← eval o X.env
      standAt apos.atName
      let (f, first) ← holding [ov] (getMethod ov m pl)
      callWith pos f first (backTo pos (starEach (e :: es) X.env)) (backToKw pos (keywordEach [] X.env))) := by rfl) :
    DEZ cA X (PostX (gx X cA) cE Xd W) (.Call (.Attribute o m apos) (e :: es) [] pos) (dMethX cs m sps Xd to t) := by
  refine ⟨fun pins s σ H Q I h => ?_⟩
  obtain ⟨g, st, env, Qd, rl, en, h, pq, px⟩ := h
  refine PySem.W.methodCall_KW (pl := pl) (thn (ho.run pins s σ H (fun v H' => ∃ g1 st1 d c fd, Step g st H g1 st1 H' ∧ Rel (gx X cA) g1 st1 H' ∧ Rep (gx X cA) g1 H' v d ∧ look st1 d = .obj c fd ∧ c ∈ cs ∧ fd.lookup m = none ∧ t env st1 fun ds st2 => sps c (d :: ds) st2 Qd fun c fs st3 => Xd c fs env st3) I ⟨g, st, env, _, rl, en, h, fun d st1 g1 H1 v s1 rl1 r1 h1 => ?_⟩) fun u s1 ⟨v, H1, I1, rv, g1, st1, d, c, fd, q1, rl1, r1, ed, hc, hl, h1⟩ => ?_) ht
  · split at h1
    · rename_i c fd ed
      exact ⟨g1, st1, d, c, fd, s1, rl1, r1, ed, h1.1, h1.2.1, h1.2.2⟩
    · exact h1.elim
  obtain ⟨f, fdd, F, cl, hm, hb⟩ := (C c hc).ex
  obtain ⟨a, dx, fv, rfl, ea, rf⟩ := see_obj rl1 r1 ed
  obtain rfl : u = Value.ref a := rv
  refine getmeth_ok I1 ea cl hm (rf.lookupN hl) ?_
  refine PySem.W.callWith_K (first := [.ref a]) (h₀ := X.base) I.ok.mod.kin hm.kp (thn (ha.run pos pins s1 σ H1 (fun vs H' => ∃ g2 st2 ds, Step g1 st1 H1 g2 st2 H' ∧ Rel (gx X cA) g2 st2 H' ∧ Reps (gx X cA) g2 H' vs ds ∧ sps c (d :: ds) st2 Qd fun c fs st3 => Xd c fs env st3) I1 ⟨g1, st1, env, _, rl1, en.mono q1, h1, fun ds st2 g2 H2 vs s2 rl2 r2 h2 => ⟨g2, st2, ds, s2, rl2, r2, h2⟩⟩) fun us s2 ⟨vs, H2, I2, r, g2, st2, ds, q2, rl2, rs2, h2⟩ => ⟨I2.kIn, ?_⟩) hst hpl
  have q12 := q1.trans q2
  exact meth_coreX (c := c) tkx F hr hgd hb I2 (v := .ref a) rfl r rl2 (r1.mono q2) rs2 (en.mono q12) h2 (pq.step q12) (PostX.kept q12 px)
theorem dmx_call0 {cs : List Nat} {sps : Nat → DSp} {pss : Nat → List Str} {pl : Sem Bool} (tkx : Takes X W) (C : ∀ c ∈ cs, CalMX cA cE X.prog X.w X.K X.mg X.base k c m (pss c) (sps c)) (hr : Room k X.A) (hgd : X.A.guards = some []) (ho : DE cA X o to)
    (ht : eval (.Call (.Attribute o m apos) [] [] pos) X.env = (do
      let ov ← eval o X.env
      standAt apos.atName
      let (f, first) ← holding [ov] (getMethod ov m pl)
      callWith pos f first (backTo pos (starEach [] X.env)) (backToKw pos (keywordEach [] X.env))) := by rfl) :
    DEZ cA X (PostX (gx X cA) cE Xd W) (.Call (.Attribute o m apos) [] [] pos) (dMethX cs m sps Xd to dNil) := by
  refine ⟨fun pins s σ H Q I h => ?_⟩
  obtain ⟨g, st, env, Qd, rl, en, h, pq, px⟩ := h
  refine PySem.W.methodCall_KW (pl := pl) (thn (ho.run pins s σ H (fun v H' => ∃ g1 st1 d c fd, Step g st H g1 st1 H' ∧ Rel (gx X cA) g1 st1 H' ∧ Rep (gx X cA) g1 H' v d ∧ look st1 d = .obj c fd ∧ c ∈ cs ∧ fd.lookup m = none ∧ sps c (d :: []) st1 Qd fun c fs st3 => Xd c fs env st3) I ⟨g, st, env, _, rl, en, h, fun d st1 g1 H1 v s1 rl1 r1 h1 => ?_⟩) fun u s1 ⟨v, H1, I1, rv, g1, st1, d, c, fd, q1, rl1, r1, ed, hc, hl, h1⟩ => ?_) ht
  · split at h1
    · rename_i c fd ed
      exact ⟨g1, st1, d, c, fd, s1, rl1, r1, ed, h1.1, h1.2.1, h1.2.2⟩
    · exact h1.elim
  obtain ⟨f, fdd, F, cl, hm, hb⟩ := (C c hc).ex
  obtain ⟨a, dx, fv, rfl, ea, rf⟩ := see_obj rl1 r1 ed
  obtain rfl : u = Value.ref a := rv
  refine getmeth_ok I1 ea cl hm (rf.lookupN hl) ?_
  refine PySem.W.callWith_K0 (first := [.ref a]) I1.kIn hm.kp ?_
  exact meth_coreX (c := c) (us := []) (vs := []) (ds := []) tkx F hr hgd hb I1 (v := .ref a) rfl .nil rl1 r1 .nil (en.mono q1) h1 (pq.step q1) (PostX.kept q1 px)
/-! new instances -/
theorem run_newX {c : Nat} {args : Args} {pins : List (Addr × Obj)} {σ : L2.St} {H : Hp} {s : Shared} {g : Gh} {st : Sto} {Q : VK} (tkx : Takes X W) (M : Mk X.K (cA c) f) (hgd : X.A.guards = some []) (I : Inv X pins σ H s) (rl : Rel (gx X cA) g st H)
    (run : ∀ (s' : Shared) (A : Around) (x dx : Addr) (n : Nat) (g' : Gh) (H' : Hp), A = X.A.under (.builtin "type.__call__" ⟨.ref (cA c) :: args.pos, args.kw⟩) → Inv X pins σ H' s' → Rel (gx X cA) g' (sup st n (.obj c [])) H' → Step g st H g' (sup st n (.obj c [])) H' → st n = none → g'.rho n = some x → A.guards = some [] →
      codeAny (model X.prog X.w) A (.call (.ref f) ⟨.ref x :: args.pos, args.kw⟩) (CR (L2.CX X.prog X.w) X.stack X.prog X.w H' s' (fun v H2 => v = .non ∧ Q (.ref x) H2) fun cls d H' => W cls d σ H') s') :
    wpAny (model X.prog X.w) X.A (call (.ref (cA c)) args.pos args.kw) (EP X pins σ Q) X.xe s := by
  have I2 := Inv.made (C := cA c) I
  obtain ⟨n, hn, hr, s2, rl2⟩ := rl.made (I.hok.fresh (Nat.le_succ _)) (I.hok.fresh (Nat.le_refl _)) (Nat.ne_of_lt (Nat.lt_succ_self _)) c
  refine wpAny_call (make_map (f := f) I.kIn M.makes M.init (beq_iff_eq.mp M.fn) (codeAny_mono (run _ _ (s.heap.objs.size + 1) s.heap.objs.size n _ _ rfl I2 rl2 s2 hn (by simp [Gh.new]) (make_guards hgd)) fun r s' hq' => ?_))
  cases r with
  | error e => exact tkx e s' (XE.of_call I2 (fun _ _ _ h => h) hq')
  | ok fl => cases fl with
    | ret u =>
      obtain ⟨v, H', I3, rv, ev, q3⟩ := I2.after hq'
      subst ev
      exact ⟨rv, ⟨V.ref (s.heap.objs.size + 1), H', I3, rfl, q3⟩⟩
    | _ => exact hq'.elim
theorem new_coreX {c : Nat} {z : Bool} {spI : DSp} {us ws : List Value} {vs zs : List V} {ds es : List D} {pins : List (Addr × Obj)} {σ : L2.St} {env : DSt} {H : Hp} {s : Shared} {g : Gh} {st : Sto} {Qd : QD} {Q : VK} (tkx : Takes X W) (F : FnX cA cE X.prog X.w X.K X.mg X.base k f fd ps spI) (M : Mk X.K (cA c) f) (hr : Room (k + 1) X.A)
    (hgd : X.A.guards = some []) (hb : Bnd X.K cA fd ps (slf sh)) (nk : newOkX spI c z sp) (I : Inv X pins σ H s) (r : Vals vs us) (rz : Vals zs ws) (rl : Rel (gx X cA) g st H) (rs : Reps (gx X cA) g H vs ds) (re : Reps (gx X cA) g H zs es) (en : EnvR (gx X cA) g H σ env) (h : spKX sp sh ds es st Qd fun c fs st3 => Xd c fs env st3) (p : Post (gx X cA) g st H Qd Q) (px : PostX (gx X cA) cE Xd W g st H) :
    wpAny (model X.prog X.w) X.A (call (.ref (cA c)) us (sh.ks.zip ws)) (EP X pins σ Q) X.xe s := by
  refine run_newX (args := ⟨us, sh.ks.zip ws⟩) tkx M hgd I rl fun s' A x dx n g' H' eA I2 rl2 s2 hn hx hg2 => ?_
  obtain ⟨l1, l2, h⟩ := h
  have h2 := nk _ _ _ _ h n hn
  subst eA
  refine code_x (vs := .ref x :: vs) (us := .ref x :: us) (ds := .ref n :: ds) (es := es) (zs := zs) (sh := slf sh) F (hr.make (cA c) us (sh.ks.zip ws)) hg2 hb I2.kIn (I2.env0.make (cA c) us (sh.ks.zip ws)) (.cons rfl r) rz rl2 (.cons (.ref hx) (rs.mono s2)) (re.mono s2) ⟨by simp [slf, l1], l2, ?_⟩
    (Qd := fun v st2 => v = .non ∧ fin z n st2 Qd) ?_ (px_of (PostX.kept s2 px) (en.mono s2))
  · show spI (pick (0 :: sh.ix.map (· + 1)) (.ref n :: (ds ++ es ++ sh.dfl))) _ _ _
    rw [pick_slf]
    exact h2
  · rintro d st3 g3 H3 v s3 rl3 r3 ⟨rfl, q⟩
    cases r3
    exact ⟨rfl, fin_post rl3 (s3.rho n x hx) q (p.step (s2.trans s3))⟩
theorem dx_new {shs : List Shape} (tkx : Takes X W) (C : CalNX cA cE X.prog X.w X.K X.mg X.base k x ps sp shs) (hsh : sh ∈ shs) (hr : Room (k + 1) X.A) (hgd : X.A.guards = some []) (hg : Gl X x) (ha : DA cA X (e :: es) t) (hkw : DK cA X kws tk)
    (hall : (backToKw pos (keywordEach kws X.env)).all (·.1.isSome) = true := by rfl) (hks : (backToKw pos (keywordEach kws X.env)).filterMap (·.1) = sh.ks := by rfl) (hdb : (x == ("__debug__" : Str)) = false := by decide)
    (he : starEach (e :: es) X.env = (false, eval e X.env) :: starEach es X.env := by rfl) (hpl : ((backTo pos (starEach (e :: es) X.env)).any (·.1) || (backToKw pos (keywordEach kws X.env)).any (·.1.isNone)) = false := by rfl) :
    DEZ cA X (PostX (gx X cA) cE Xd W) (.Call (.Name x p) (e :: es) kws pos) (dCallX sp sh Xd t tk) := by
  obtain ⟨c, z, f, fd, spI, F, M, hm, hb, nk⟩ := C.ex
  refine ⟨fun pins s σ H Q I h => ?_⟩
  obtain ⟨g, st, env, Qd, rl, en, h, pq, px⟩ := h
  refine wpAny_Call_Name_kw (ld_glob I hg hm ?_ hdb)
  refine PySem.W.callWith_KW (h₀ := X.base) I.ok.mod.kin M.kp hall (thn (ha.run pos pins s σ H (fun vs H' => ∃ g1 st1 ds, Step g st H g1 st1 H' ∧ Rel (gx X cA) g1 st1 H' ∧ Reps (gx X cA) g1 H' vs ds ∧ tk env st1 fun es st2 => spKX sp sh ds es st2 Qd fun c fs st3 => Xd c fs env st3) I ⟨g, st, env, _, rl, en, h, fun ds st1 g1 H1 vs s1 rl1 r1 h1 => ⟨g1, st1, ds, s1, rl1, r1, h1⟩⟩) fun us s1 ⟨vs, H1, I1, r, g1, st1, ds, q1, rl1, rs1, h1⟩ => ?_) hpl he
  refine thn (hkw.run pos pins s1 σ H1 (fun zs H' => ∃ g2 st2 es, Step g1 st1 H1 g2 st2 H' ∧ Rel (gx X cA) g2 st2 H' ∧ Reps (gx X cA) g2 H' zs es ∧ spKX sp sh ds es st2 Qd fun c fs st3 => Xd c fs env st3) I1 ⟨g1, st1, env, _, rl1, en.mono q1, h1, fun es st2 g2 H2 zs s2 rl2 r2 h2 => ⟨g2, st2, es, s2, rl2, r2, h2⟩⟩) fun ws s2 ⟨zs, H2, I2, rz, g2, st2, es, q2, rl2, re, h2⟩ => ⟨I2.kIn, ?_⟩
  rw [hks]
  have q12 := q1.trans q2
  exact new_coreX tkx F M hr hgd (hb sh hsh) nk I2 r rz rl2 (rs1.mono q2) re (en.mono q12) h2 (pq.step q12) (PostX.kept q12 px)
end
/-! promises -/
section
variable {cA cE : Nat → Addr} {P : Program} {w : World} {K : PySem.W.Frag} {mg : Str → Option Value} {base h : Heap}
theorem MeW.calX {c : Nat} {m qual : Str} {st : Stmt} {N ps : List Str} {k : Nat} {sp : DSp} {tb : XDe → TDS} (W : MeW K (cA c) m qual st ps) (cl : Cls K (cA c)) (S : FnScope N ps (defScope st)) (len : ∀ ds st Q E, sp ds st Q E → ds.length = ps.length) (hd : BodyX cA cE P w K mg base k qual st N tb)
    (hb : ∀ ds s0 Q Xd, sp ds s0 Q Xd → tb (endX Xd) (ends Q) (startD N ds) s0) : CalMX cA cE P w K mg base (k + 1) c m ps sp := by
  obtain ⟨f, fd, F, hm, hbd, _⟩ := W.ex
  exact ⟨f, fd, fnX F S len hd hb, cl, hm, hbd⟩
def spNewX (c : Nat) (z : Bool) (sp : DSp) (m : Nat) : DSp := fun ds st Q Xd => ∃ n es st0 Q0, ds = .ref n :: es ∧ es.length + 1 = m ∧ st = sup st0 n (.obj c []) ∧ st0 n = none ∧ sp es st0 Q0 Xd ∧ Q = fun v st2 => v = .non ∧ fin z n st2 Q0
theorem InW.calX {x : Str} {c : Nat} {z : Bool} {qual : Str} {st : Stmt} {N ps : List Str} {shs : List Shape} {k : Nat} {sp : DSp} {tb : XDe → TDS} (W : InW K mg cA x c qual st ps shs) (S : FnScope N ps (defScope st)) (len : ∀ ds st Q E, sp ds st Q E → ds.length + 1 = ps.length) (hd : BodyX cA cE P w K mg base k qual st N tb)
    (hb : ∀ ds s0 Q Xd, sp ds s0 Q Xd → ∀ n, s0 n = none → tb (endX Xd) (ends fun v st2 => v = .non ∧ fin z n st2 Q) (startD N (.ref n :: ds)) (sup s0 n (.obj c []))) : CalNX cA cE P w K mg base (k + 1) x ps sp shs := by
  obtain ⟨f, fd, F, M, hm, hbd⟩ := W.ex
  refine ⟨c, z, f, fd, spNewX c z sp ps.length, fnX F S ?_ hd ?_, M, hm, hbd, fun ds s0 Q Xd h n hn => ⟨n, ds, s0, Q, rfl, len _ _ _ _ h, rfl, hn, h, rfl⟩⟩
  · rintro ds st Q E ⟨n, es, s0, Q0, rfl, h, _⟩
    simpa using h
  · rintro ds st Q Xd ⟨n, es, s0, Q0, rfl, h, rfl, hn, hs, rfl⟩
    exact hb es s0 Q0 Xd hs n hn
/-- a promise that raises nothing, as one that may -/
theorem FnX.quiet {k : Nat} {f : Addr} {fd : FuncData} {ps : List Str} {sp : DSp} (F : FnX cA cE P w K mg base k f fd ps sp) : FnT cA P w K mg base k f fd ps sp := by
  refine ⟨F.len, fun A outer s H args us vs Q hr hg e0 hb hv ⟨g, st, ds, Qd, rl, rs, hs, p⟩ => codeAny_mono (F.run A outer s H args us vs Q (fun _ _ _ => False) hr hg e0 hb hv ⟨g, st, ds, Qd, _, rl, rs, hs, p, fun c fs st' g' H' d fv _ _ _ _ _ q => q⟩) fun r s' hq => ?_⟩
  cases r with
  | error e =>
    obtain ⟨a, B, H', cls, d, _, _, _, _, _, _, _, q⟩ := hq
    exact q
  | ok fl => cases fl <;> exact hq
end
end TL
namespace TL
open PySem PySem.Spec PyProof.Rows L2
/-! ### raise C(..): C's own __init__ stores its parameters -/
def spEx (C : Addr) (fs : List Str) : Sp := fun vs H Q _ => ∃ a ws, vs = .ref a :: ws ∧ ws.length = fs.length ∧ H a = some (exo a C none) ∧
  ∀ dx H', H dx = none → dx ≠ a → H' a = some (exo a C (some dx)) → H' dx = some (exd dx (fs.zip ws).reverse) → (∀ b, b ≠ a → b ≠ dx → H' b = H b) → Q .non H'
structure ExK (P : Program) (w : World) (K : PySem.W.Frag) (mg : Str → Option Value) (base : Heap) (cE : Nat → Addr) (c : Nat) (x : Str) (fs : List Str) : Prop where
  ex : ∃ (fI : Addr) (fd : FuncData) (ps : List Str), OexC K (cE c) ∧ PySem.W.findIn K (.ref (cE c)) "__init__" = some (some (.ref fI)) ∧ PySem.W.typeIn K (.ref fI) = some (.type "function") ∧ FnOk P w K mg base CX0 1 fI fd ps (spEx (cE c) fs) ∧ Binds K fd ps [] ∧ mg x = some (.ref (cE c)) ∧ fs.length ≤ 9
section
variable {P : Program} {w : World} {K : PySem.W.Frag} {mg : Str → Option Value} {base : Heap} {C fI : Addr} {qual f1 f2 a1 a2 : Str} {st : Stmt} {fd : FuncData} {p1 p2 p3 p4 q1 q2 q3 q4 : Pos}
theorem ex_one (F : Fun K "__init__" qual st fI fd) (S : FnScope ["self", a1] ["self", a1] (defScope st)) (hbody : defBody st = [.Assign [.Attribute (.Name "self" p1) f1 p2] (.Name a1 p3) p4])
    (T : OexC K C) (n1 : PySem.W.findIn K (.ref C) f1 = some none) (v0 : Vis (defScope st) "self") (v1 : Vis (defScope st) a1) (d1 : (a1 == ("__debug__" : Str)) = false) (c1 : (a1 == ("__classdict__" : Str)) = false) : FnOk P w K mg base CX0 1 fI fd ["self", a1] (spEx C [f1]) := by
  refine F.ok S (fun vs H Q E ⟨a, ws, e, hl, _⟩ => by rw [e]; simp [hl]) fun cdv A outer s H vs Q E hr ⟨a, ws, ev, hl, ea, q⟩ => ?_
  obtain ⟨y, rfl⟩ : ∃ y, ws = [y] := by
    match ws, hl with
    | [y], _ => exact ⟨y, rfl⟩
  subst ev
  rw [hbody]
  refine ⟨_, pss_one (ps_ost (pv 0 rfl v0) (pv 1 rfl v1 d1 c1)), ?_⟩
  refine ⟨y, rfl, .ref a, rfl, a, C, rfl, T, n1, .inl ⟨ea, fun dx n ne => ?_⟩⟩
  exact q dx _ n ne upd_same (by rw [upd_ne ne, upd_same]; rfl) fun b h1 h2 => by rw [upd_ne h1, upd_ne h2]
theorem ex_two (F : Fun K "__init__" qual st fI fd) (S : FnScope ["self", a1, a2] ["self", a1, a2] (defScope st)) (hbody : defBody st = [.Assign [.Attribute (.Name "self" p1) f1 p2] (.Name a1 p3) p4, .Assign [.Attribute (.Name "self" q1) f2 q2] (.Name a2 q3) q4])
    (T : OexC K C) (n1 : PySem.W.findIn K (.ref C) f1 = some none) (n2 : PySem.W.findIn K (.ref C) f2 = some none) (v0 : Vis (defScope st) "self") (v1 : Vis (defScope st) a1) (v2 : Vis (defScope st) a2) (d1 : (a1 == ("__debug__" : Str)) = false) (c1 : (a1 == ("__classdict__" : Str)) = false) (d2 : (a2 == ("__debug__" : Str)) = false) (c2 : (a2 == ("__classdict__" : Str)) = false) :
    FnOk P w K mg base CX0 1 fI fd ["self", a1, a2] (spEx C [f1, f2]) := by
  refine F.ok S (fun vs H Q E ⟨a, ws, e, hl, _⟩ => by rw [e]; simp [hl]) fun cdv A outer s H vs Q E hr ⟨a, ws, ev, hl, ea, q⟩ => ?_
  obtain ⟨y, z, rfl⟩ : ∃ y z, ws = [y, z] := by
    match ws, hl with
    | [y, z], _ => exact ⟨y, z, rfl⟩
  subst ev
  rw [hbody]
  refine ⟨_, pss_cons (ps_ost (pv 0 rfl v0) (pv 1 rfl v1 d1 c1)) (pss_one (ps_ost (pv 0 rfl v0) (pv 2 rfl v2 d2 c2))), ?_⟩
  refine ⟨y, rfl, .ref a, rfl, a, C, rfl, T, n1, .inl ⟨ea, fun dx n ne => ?_⟩⟩
  refine ⟨z, rfl, .ref a, rfl, a, C, rfl, T, n2, .inr ⟨dx, [(f1, y)], upd_same, by rw [upd_ne ne, upd_same], by simp, ?_⟩⟩
  exact q dx _ n ne (by rw [upd_ne (Ne.symm ne), upd_same]) (by rw [upd_same]; rfl) fun b h1 h2 => by rw [upd_ne h2, upd_ne h1, upd_ne h2]
theorem oexc_mk {nm q : Str} {N : Addr} {bs : List Value} {bm : List Value} {sn : List Str} {sub ab col dd k0 k1 k2 k3 k5} (l : K.lookup C = some (excClassObj nm q C N bs bm true sn sub ab col dd k0 k1 k2 k3 k5 "ValueError.__new__")) (hb : PySem.HandSPX.refsVE bm = true) (sa : PySem.W.findIn K (.ref C) "__setattr__" = some (some (.builtin "object.__setattr__")))
    (ex : PySem.W.subIn K (.ref C) (.type "BaseException") = some true) (ty : PySem.W.typeIn K (.ref C) = some (.type "type")) (kC : PySem.W.keepIn K (.ref C) = true) : OexC K C := ⟨⟨nm, q, N, bs, bm, sn, sub, ab, col, dd, k0, k1, k2, k3, k5, l, hb⟩, sa, ex, ty, kC⟩
end
def dRaise (c : Nat) (fs : List Str) (Xd : XDe) (t : TDA) : TDS := fun _ env st => t env st fun ds st1 => ds.length = fs.length ∧ Xd c (fs.zip ds).reverse env st1
section
variable {X : Cx} {cA cE : Nat → Addr} {W : WX} {Xd : XDe} {x : Str} {p pos rpos : Pos} {e : Expr} {es : List Expr} {t : TDA} {c : Nat} {fs : List Str}
theorem repf_zip {G : Gx} {g : Gh} {H : Hp} : ∀ {fs : List Str} {vs : List V} {ds : List D}, Reps G g H vs ds → RepF G g H (fs.zip vs) (fs.zip ds)
  | [], _, _, _ => by simpa using RepF.nil
  | _ :: _, _, _, .nil => by simpa using RepF.nil
  | _ :: _, _, _, .cons r t => .cons r (repf_zip t)
theorem RepF.app {G : Gx} {g : Gh} {H : Hp} : ∀ {a b : List (Str × V)} {c d : List (Str × D)}, RepF G g H a c → RepF G g H b d → RepF G g H (a ++ b) (c ++ d)
  | _, _, _, _, .nil, h => h
  | _, _, _, _, .cons r t, h => .cons r (RepF.app t h)
theorem RepF.rev {G : Gx} {g : Gh} {H : Hp} : ∀ {a : List (Str × V)} {c : List (Str × D)}, RepF G g H a c → RepF G g H a.reverse c.reverse
  | _, _, .nil => .nil
  | _, _, .cons r t => by
    rw [List.reverse_cons, List.reverse_cons]
    exact (RepF.rev t).app (.cons r .nil)
theorem dz_raise (tkx : Takes X W) (hc : X.calm = true) (K : ExK X.prog X.w X.K X.mg X.base cE c x fs) (hr : Room 2 X.A) (hg : Gl X x) (ha : DA cA X (e :: es) t)
    (hdb : (x == ("__debug__" : Str)) = false := by decide) (he : starEach (e :: es) X.env = (false, eval e X.env) :: starEach es X.env := by rfl) (hpl : (backTo pos (starEach es X.env)).any (·.1) = false := by rfl) :
    DZ cA X (PostX (gx X cA) cE Xd W) (.Raise (some (.Call (.Name x p) (e :: es) [] pos)) none rpos) (dRaise c fs Xd t) := by
  obtain ⟨fI, fd, ps, T, iC, tI, F, hb, hm, few⟩ := K.ex
  refine ps_weak (ps_raise hc tkx (pmk_oex T iC tI F hr hb .nil pass0 hg hm ha hdb he hpl)) fun σ H Q ⟨g, st, env, Dd, rl, en, h, pq, px⟩ => ?_
  refine ⟨g, st, env, _, rl, en, h, fun ds st1 g1 H1 vs s1 rl1 r1 ⟨hl, h1⟩ => ⟨by rw [r1.length, hl]; omega, fun a ha0 => ?_⟩⟩
  refine ⟨a, vs, by rw [List.append_nil], by rw [r1.length, hl], upd_same, fun dx H' n ne e1 e2 e3 => ⟨rfl, dx, _, e1, e2, ?_, ?_⟩⟩
  · rw [upd_ne ne] at n; exact n
  · have n' : H1 dx = none := by rw [upd_ne ne] at n; exact n
    have eH : upd (del H' a) dx (.xd (fs.zip vs).reverse) = upd H1 dx (.xd (fs.zip vs).reverse) := by
      funext b
      by_cases hbd : b = dx
      · subst hbd; rw [upd_same, upd_same]
      · rw [upd_ne hbd, upd_ne hbd]
        by_cases hba : b = a
        · subst hba; rw [del_same, ha0]
        · rw [del_ne hba, e3 b hba hbd, upd_ne hba]
    rw [eH]
    obtain ⟨s2, rl2⟩ := rl1.lay (o := .xd (fs.zip vs).reverse) n'
    exact px c _ env st1 g1 _ σ dx _ (s1.trans s2) rl2 ((en.mono s1).mono s2) (rl1.free n') upd_same ((repf_zip r1).rev.mono s2) h1
end
end TL
namespace TL
open PySem PySem.Spec PyProof.Rows L2
/-! ### an except suite: the exception stands in slot i, its attributes at d -/
def InSu (G : Gx) (a : Addr) (i : Nat) (d : Addr) (fs : List (Str × D)) (g : Gh) (σ : L2.St) (H : Hp) : Prop := σ[i]? = some (some (.ref a)) ∧ g.own d = none ∧ ∃ fv, H d = some (.xd fv) ∧ RepF G g H fv fs
theorem InSu.step {G : Gx} {a d : Addr} {i : Nat} {fs : List (Str × D)} {g g' : Gh} {st st' : Sto} {σ : L2.St} {H H' : Hp} (s : Step g st H g' st' H') (h : InSu G a i d fs g σ H) : InSu G a i d fs g' σ H' := by
  obtain ⟨h1, h2, fv, h3, h4⟩ := h
  exact ⟨h1, (s.own d _ (.of h2) h3).trans h2, fv, s.ex d _ (.of h2) h3 (.inl rfl), h4.mono s⟩
def liftU (G : Gx) (F : Gh → L2.St → Hp → Prop) (t : TDE) : TE := fun σ H Q => ∃ g st env Qd, Rel G g st H ∧ EnvR G g H σ env ∧ t env st Qd ∧ Post G g st H Qd Q ∧ F g σ H
def liftUA (G : Gx) (F : Gh → L2.St → Hp → Prop) (t : TDA) : TA := fun σ H Q => ∃ g st env Qd, Rel G g st H ∧ EnvR G g H σ env ∧ t env st Qd ∧ PostA G g st H Qd Q ∧ F g σ H
def liftUT (G : Gx) (F : Gh → L2.St → Hp → Prop) (t : TDT) : TT := fun σ H Q => ∃ g st env Qd, Rel G g st H ∧ EnvR G g H σ env ∧ t env st Qd ∧ PostT G g st H Qd Q ∧ F g σ H
def KeptU (F : Gh → L2.St → Hp → Prop) : Prop := ∀ {g g' : Gh} {st st' : Sto} {σ : L2.St} {H H' : Hp}, Step g st H g' st' H' → F g σ H → F g' σ H'
section
variable {X : Cx} {cA cE : Nat → Addr} {F : Gh → L2.St → Hp → Prop}
theorem du_of {e : Expr} {t : TDE} (h : DE cA X e t) : PE X e (liftU (gx X cA) F t) := pe_weak h fun σ H Q ⟨g, st, env, Qd, rl, en, h, p, _⟩ => ⟨g, st, env, Qd, rl, en, h, p⟩
theorem dua_nil : PA X [] (liftUA (gx X cA) F dNil) := pa_weak pa_nil fun σ H Q ⟨g, st, env, Qd, rl, en, h, p, _⟩ => p _ _ _ _ _ (Step.refl g st H) rl .nil h
theorem dua_cons {e : Expr} {es : List Expr} {te : TDE} {t : TDA} (kf : KeptU F) (ha : PE X e (liftU (gx X cA) F te)) (hr : PA X es (liftUA (gx X cA) F t)) (hs : starEach (e :: es) X.env = (false, eval e X.env) :: starEach es X.env := by rfl) : PA X (e :: es) (liftUA (gx X cA) F (dCons te t)) :=
  pa_weak (pa_cons ha hr hs) fun σ H Q ⟨g, st, env, Qd, rl, en, h, p, f⟩ => ⟨g, st, env, _, rl, en, h, fun d st1 g1 H1 v s1 rl1 r1 h1 =>
    ⟨g1, st1, env, _, rl1, en.mono s1, h1, fun ds st2 g2 H2 vs s2 rl2 r2 h2 => p _ _ _ _ _ (s1.trans s2) rl2 (.cons (r1.mono s2) r2) h2, kf s1 f⟩, f⟩
theorem du_tup {es : List Expr} {x1} {pos : Pos} {t : TDA} (h : PA X es (liftUA (gx X cA) F t)) : PE X (.Tuple es x1 pos) (liftU (gx X cA) F (dTup t)) :=
  pe_weak (pe_tup h) fun σ H Q ⟨g, st, env, Qd, rl, en, h, p, f⟩ => ⟨g, st, env, _, rl, en, h, fun ds st1 g1 H1 vs s1 rl1 r1 h1 => ⟨by rw [r1.length]; exact h1.1, lay_tup rl1 r1 (p.step s1) h1.2⟩, f⟩
theorem dut_val {e : Expr} {t : TDE} (h : PE X e (liftU (gx X cA) F t)) (he : ∀ whole, isTrue e X.env whole = (do let v ← whole; standAt e.pos; holding [v] (truthy v)) := by intro _; rfl) : PT X e (liftUT (gx X cA) F (dTst t)) :=
  pt_weak (pt_val h he) fun σ H Q ⟨g, st, env, Qd, rl, en, h, p, f⟩ => ⟨g, st, env, _, rl, en, h, fun d1 st1 g1 H1 v1 s1 rl1 r1 h1 => by
    cases r1 with
    | bl b => exact ⟨b, rfl, p b st1 g1 H1 s1 rl1 h1⟩
    | _ => exact h1.elim, f⟩
theorem du_if {c a b : Expr} {pos : Pos} {t : TDT} {ta tb : TDE} (kf : KeptU F) (hc : PT X c (liftUT (gx X cA) F t)) (ha : PE X a (liftU (gx X cA) F ta)) (hb : PE X b (liftU (gx X cA) F tb)) : PE X (.IfExp c a b pos) (liftU (gx X cA) F (dIf t ta tb)) :=
  pe_weak (pe_ifExp hc ha hb) fun σ H Q ⟨g, st, env, Qd, rl, en, h, p, f⟩ => ⟨g, st, env, _, rl, en, h, fun c st1 g1 H1 s1 rl1 h1 => by
    cases c with
    | true => exact ⟨g1, st1, env, Qd, rl1, en.mono s1, h1, p.step s1, kf s1 f⟩
    | false => exact ⟨g1, st1, env, Qd, rl1, en.mono s1, h1, p.step s1, kf s1 f⟩, f⟩
end
section
variable {X : Cx} {cA cE : Nat → Addr} {a d : Addr} {i c0 : Nat} {fs : List (Str × D)} {oe : Obj} {pn : List (Addr × Obj)}
theorem repf_look {G : Gx} {g : Gh} {H : Hp} {f : Str} : ∀ {fv : List (Str × V)} {fs : List (Str × D)} {v : D}, RepF G g H fv fs → fs.lookup f = some v → ∃ u, fv.lookup f = some u ∧ Rep G g H u v
  | _, _, v, .nil, h => by simp at h
  | _, _, v, .cons (k := k) r t, h => by
    by_cases e : (f == k) = true
    · simp only [List.lookup, e] at h ⊢
      cases h
      exact ⟨_, rfl, r⟩
    · have e' : (f == k) = false := by simpa using e
      simp only [List.lookup, e'] at h ⊢
      exact repf_look t h
/-- e.f -/
def dXf (fs : List (Str × D)) (f : Str) : TDE := fun _ st Q => ∃ v, fs.lookup f = some v ∧ Q v st
theorem du_fld {n f : Str} {pos p : Pos} (T : XfC X.K (cE c0)) (hno : PySem.W.findIn X.K (.ref (cE c0)) f = some none) (hz : Zc (.ref (cE c0)) (some d) oe) (hf : ∃ vs, oe.data = .fields vs) (hN : X.N[i]? = some n) (hv : Vis X.env.scope n) (hd : (n == ("__debug__" : Str)) = false) (hcd : (n == ("__classdict__" : Str)) = false) (hb : attributeBase (.Name n p) f X.env (eval (.Name n p) X.env) = eval (.Name n p) X.env := by rfl) :
    PE (X.suite a ((a, oe) :: pn)) (.Attribute (.Name n p) f pos) (liftU (gx X cA) (InSu (gx X cA) a i d fs) (dXf fs f)) :=
  pe_weak (pe_xf (pn := pn) T hno hz hf (pe_var (X := X.suite a ((a, oe) :: pn)) hN hv hd hcd) hb) fun σ H Q ⟨g, st, env, Qd, rl, en, ⟨v, hl, q⟩, p, h1, h2, fv, h3, h4⟩ => by
    obtain ⟨u, hu, ru⟩ := repf_look h4 hl
    exact ⟨.ref a, h1, rfl, rfl, d, fv, u, rfl, h3, hu, p.now rl ru q⟩
/-- isinstance(e, C) -/
def rIsEd (K : PySem.W.Frag) (D a dd : Addr) : List V → Hp → VK → Prop := fun xs H Q => ∃ (c : V) (cv : Value) (b : Bool) (fv : List (Str × V)), xs = [.ref a, c] ∧ (∀ u, RelV c u → u = cv) ∧ PySem.W.kitOne K (.ref D) cv = some b ∧ H dd = some (.xd fv) ∧ Q (.bl b) H
theorem call_isEd {D dd : Addr} (C : ExcC X.K D) (hz : Zc (.ref D) (some dd) oe) (hf : ∃ vs, oe.data = .fields vs) : CallR (X.suite a ((a, oe) :: pn)) (.builtin "isinstance") (rIsEd X.K D a dd) := by
  intro pins s σ H xs us Q I r h
  obtain ⟨c, cv, b, fv, rfl, hcv, e, hx, q⟩ := h
  obtain ⟨u1, u2, rfl, rx, rt⟩ := vals2 r
  cases rx
  have ec := hcv _ rt
  subst ec
  obtain ⟨hget, _⟩ := I.pin (a, oe) (List.mem_append.mpr (.inl List.mem_cons_self))
  obtain ⟨vs, hv⟩ := hf
  have hxd : ObjOk X.prog X.w H s.heap dd (.xd fv) := I.hok dd _ hx
  obtain ⟨mA, hns, hr⟩ := hxd
  obtain ⟨od, ho, hl⟩ := lookIn_ns hns
  have J : PySem.W.InstAt s.heap a oe D (some od) := ⟨hget, hz.1, by unfold PySem.W.notCls; rw [hv] <;> rfl, by rw [hz.2]; exact ho⟩
  have hcl : (PySem.W.clsIn X.K D).isSome = true := by
    obtain ⟨cd, hc, _⟩ := PySem.W.any_some C.hd
    rw [hc]
    rfl
  exact PySem.W.kia_one (PySem.W.kitx_exc (od := some od) hcl C.hg C.hk C.hs C.ha C.hn C.ht C.hm) I.kIn J e (fun z => nomatch z) fun tk => ⟨.bl b, H, I.kept (t' := tk) fun _ _ z => z, rfl, q⟩
theorem du_isE {n x : Str} {pos p p1 p2 : Pos} {CH : Addr} {b : Bool} (C : ExcC X.K (cE c0)) (hk : PySem.W.kitOne X.K (.ref (cE c0)) (.ref CH) = some b) (hz : Zc (.ref (cE c0)) (some d) oe) (hf : ∃ vs, oe.data = .fields vs) (hg : Gl X "isinstance") (hm : X.mg "isinstance" = none) (hg2 : Gl X x) (hm2 : X.mg x = some (.ref CH))
    (hN : X.N[i]? = some n) (hv : Vis X.env.scope n) (hd : (n == ("__debug__" : Str)) = false) (hcd : (n == ("__classdict__" : Str)) = false)
    (hdb : (x == ("__debug__" : Str)) = false := by decide) (hs2 : starEach [.Name n p1, .Name x p2] X.env = (false, eval (.Name n p1) X.env) :: starEach [.Name x p2] X.env := by rfl) (hs3 : starEach [.Name x p2] X.env = (false, eval (.Name x p2) X.env) :: starEach [] X.env := by rfl)
    (hpl : (backTo pos (starEach [.Name x p2] X.env)).any (·.1) = false := by rfl) :
    PE (X.suite a ((a, oe) :: pn)) (.Call (.Name "isinstance" p) [.Name n p1, .Name x p2] [] pos) (liftU (gx X cA) (InSu (gx X cA) a i d fs) (dC (.bl b))) :=
  pe_weak (pe_callB (X := X.suite a ((a, oe) :: pn)) (call_isEd (pn := pn) C hz hf) hg hm (by decide +kernel) (pa_cons (pe_var (X := X.suite a ((a, oe) :: pn)) hN hv hd hcd) (pa_cons (pe_glob (X := X.suite a ((a, oe) :: pn)) (v := .ref CH) hg2 hm2 rfl hdb) pa_nil hs3) hs2) (by decide) (by decide) hs2 hpl) fun σ H Q ⟨g, st, env, Qd, rl, en, q, p, h1, h2, fv, h3, h4⟩ =>
    ⟨.ref a, h1, .ref CH, .ref CH, b, fv, rfl, fun u r => r, hk, h3, p.now rl (.bl b) q⟩
/-! ### try: .. except C as e: x = .. -/
theorem EnvR.clear {G : Gx} {g : Gh} {H : Hp} {σ : L2.St} {env : DSt} (e : EnvR G g H σ env) (i : Nat) (x : Option V) : EnvR G g H (σ.set i x) (env.set i none) := by
  refine ⟨by simp [e.len], fun j d h => ?_⟩
  by_cases hj : j = i
  · subst hj
    by_cases hl : j < env.length
    · rw [List.getElem?_set_self hl] at h; cases h
    · rw [List.getElem?_eq_none (by simp; omega)] at h; cases h
  · rw [List.getElem?_set_ne (Ne.symm hj)] at h ⊢
    exact e.get j d h
def ends2 (i : Nat) (D : DEnds) : DEnds := { nx := fun env st => D.nx (env.set i none) st, rt := D.rt, bk := fun env st => D.bk (env.set i none) st, ct := fun env st => D.ct (env.set i none) st }
def dTry (i c0 : Nat) (tb : XDe → TDS) (th : List (Str × D) → TDS) : TDS := fun D env st => tb (fun c fs env1 st1 => c = c0 ∧ i < env1.length ∧ th fs (ends2 i D) (env1.set i none) st1) D env st
/-- the suite's reading -/
def tSuite (G : Gx) (cE : Nat → Addr) (c0 i : Nat) (th : List (Str × D) → TDS) (a : Addr) (cls : Value) (d : Option Addr) : TS := fun D σ H => ∃ dd fs g st env Dd, cls = .ref (cE c0) ∧ d = some dd ∧ Rel G g st H ∧ EnvR G g H σ env ∧ th fs Dd env st ∧ PostS G g st H Dd D ∧ InSu G a i dd fs g σ H
theorem ds_try {x n : Str} {np pos pos' : Pos} {body suite : List Stmt} {b₀ : Stmt} {tb : XDe → TDS} {th : List (Str × D) → TDS} (hs : X.stack = X.env :: X.outer) (hf : X.env.frame = some X.env.locals) (hN : X.N.Nodup) (hi : X.N[i]? = some n) (hln : X.env.kindOf n = some .local) (hc : Names X x (.ref (cE c0))) (hex : PySem.W.exmOne X.K (.ref (cE c0)) (.ref (cE c0)) = some true)
    (hb : ∀ (W : WX) (Xd : XDe) (pn : List (Addr × Obj)) (xe : Value → Shared → Prop), Takes (X.tr pn xe) W → PassesOwn (model X.prog X.w) X.A X.env xe → DZs cA (X.tr pn xe) (PostX (gx X cA) cE Xd W) body (tb Xd))
    (hsu : ∀ (a : Addr) (oe : Obj) (cls : Value) (d : Option Addr) (pn : List (Addr × Obj)), Zc cls d oe → (∃ vs, oe.data = .fields vs) → PSs (X.suite a ((a, oe) :: pn)) (b₀ :: suite) (tSuite (gx X cA) cE c0 i th a cls d)) :
    DS cA X (.Try body [.ExceptHandler (some (.Name x np)) (some n) (b₀ :: suite) pos'] [] [] pos) (dTry i c0 tb th) := by
  have tk : Takes X (fun _ _ _ _ => False) := fun u s' ⟨_, _, _, _, _, _, _, _, _, _, _, _, _, _, _, _, f⟩ => f.elim
  refine ps_weak (ps_try_as (tb := fun W D σ H => ∃ Xd, liftZ (gx X cA) (PostX (gx X cA) cE Xd W) (tb Xd) D σ H) hs hf hN hi hln hc tk (fun W pn xe t p => ⟨fun pins s σ H D I ⟨Xd, h⟩ => (hb W Xd pn xe t p).run pins s σ H D I h⟩) hsu) fun σ H Q ⟨g, st, env, Dd, rl, en, h, p⟩ => ?_
  refine ⟨_, g, st, env, Dd, rl, en, h, p, fun c fs env' st' g' H' σ' d fv s1 rl1 en1 ow hx rf ⟨e, hil, q⟩ => ?_⟩
  subst e
  refine ⟨true, hex, fun _ a ha => ⟨d, fs, g', st', env'.set i none, ends2 i Dd, rfl, rfl, rl1, en1.clear i _, q, ?_, ?_, ow, fv, hx, rf⟩, fun z => by cases z⟩
  · have ps := p.step s1
    exact ⟨fun env2 st2 g2 H2 σ2 s2 rl2 en2 h2 => ps.nx _ _ _ _ _ s2 rl2 (en2.clear i none) h2, ps.rt, fun env2 st2 g2 H2 σ2 s2 rl2 en2 h2 => ps.bk _ _ _ _ _ s2 rl2 (en2.clear i none) h2, fun env2 st2 g2 H2 σ2 s2 rl2 en2 h2 => ps.ct _ _ _ _ _ s2 rl2 (en2.clear i none) h2⟩
  · rw [List.getElem?_set_self (by rw [en1.len]; exact hil)]
/-- x = e as the suite -/
theorem su_set {j : Nat} {y : Str} {e : Expr} {te : List (Str × D) → TDE} {pos pos' : Pos} (hN : X.N.Nodup) (hj : X.N[j]? = some y) (hx : Loc X.env.scope y)
    (he : ∀ (a : Addr) (oe : Obj) (dd : Addr) (fs : List (Str × D)) (pn : List (Addr × Obj)), Zc (.ref (cE c0)) (some dd) oe → (∃ vs, oe.data = .fields vs) → PE (X.suite a ((a, oe) :: pn)) e (liftU (gx X cA) (InSu (gx X cA) a i dd fs) (te fs)))
    (hs : swapsWith e (some (.Name y pos')) pos.line X.env = pure false := by rfl) (hf : X.fn y = true ∨ X.env.scope.names.lookup y = some .local := by first | exact .inl rfl | exact .inr rfl | assumption) :
    ∀ (a : Addr) (oe : Obj) (cls : Value) (d : Option Addr) (pn : List (Addr × Obj)), Zc cls d oe → (∃ vs, oe.data = .fields vs) → PSs (X.suite a ((a, oe) :: pn)) [.Assign [.Name y pos'] e pos] (tSuite (gx X cA) cE c0 i (fun fs => dAsg j (te fs)) a cls d) := by
  intro a oe cls d pn hz hv
  refine ⟨fun pins s σ H D I h => ?_⟩
  obtain ⟨dd, fs, g, st, env, Dd, rfl, rfl, rl, en, h, p, f⟩ := h
  refine (pss_one (ps_set (X := X.suite a ((a, oe) :: pn)) hN hj hx (he a oe dd fs pn hz hv) hs hf)).run pins s σ H D I ?_
  exact ⟨g, st, env, _, rl, en, h, fun d st1 g1 H1 v s1 rl1 r1 h1 => p.nx _ _ _ _ _ s1 rl1 ((en.mono s1).set r1 j) h1, f⟩
end
end TL
namespace TL
open PySem PySem.Spec PyProof.Rows L2
/-! ### what the written part says of the exceptions' classes -/
theorem kf_su {G : Gx} {a d : Addr} {i : Nat} {fs : List (Str × D)} : KeptU (InSu G a i d fs) := fun s h => InSu.step s h
def ExA (K : PySem.W.Frag) (mg : Str → Option Value) (cE : Nat → Addr) (c : Nat) (x : Str) (fs : List Str) : Prop := ∀ (P : Program) (w : World) (base : Heap), ExK P w K mg base cE c x fs
structure ExT (K : PySem.W.Frag) (mg : Str → Option Value) (cE : Nat → Addr) (c : Nat) (x H : Str) (CH : Addr) (fs : List Str) : Prop where
  nm : mg x = some (.ref (cE c))
  ex : PySem.W.exmOne K (.ref (cE c)) (.ref (cE c)) = some true
  xf : XfC K (cE c)
  no : ∀ f ∈ fs, PySem.W.findIn K (.ref (cE c)) f = some none
  xc : ExcC K (cE c)
  nh : mg H = some (.ref CH)
  kh : PySem.W.kitOne K (.ref (cE c)) (.ref CH) = some true
section
variable {K : PySem.W.Frag} {mg : Str → Option Value} {cE : Nat → Addr} {c : Nat} {x : Str} {h : Heap} {C fI : Addr} {qual f1 f2 a1 a2 : Str} {st : Stmt} {p1 p2 p3 p4 q1 q2 q3 q4 : Pos}
  {nm q : Str} {N : Addr} {bs bm : List Value} {sn : List Str} {sub ab col dd k0 k1 k2 k3 k5} {oc : Value} {od an : Option Addr} {osl : Array (Option Value)} {kV doc pm cdv ct : Value}
theorem exa_one (X : K.In h) (G : h.Ns mainGlobals mg) (aC : PySem.W.nsIn K mainGlobals x = some (some (.ref C))) (hC : cE c = C) (l : K.lookup C = some (excClassObj nm q C N bs bm true sn sub ab col dd k0 k1 k2 k3 k5 "ValueError.__new__")) (hb : PySem.HandSPX.refsVE bm = true) (sa : PySem.W.findIn K (.ref C) "__setattr__" = some (some (.builtin "object.__setattr__")))
    (ex : PySem.W.subIn K (.ref C) (.type "BaseException") = some true) (ty : PySem.W.typeIn K (.ref C) = some (.type "type")) (kC : PySem.W.keepIn K (.ref C) = true) (iC : PySem.W.findIn K (.ref C) "__init__" = some (some (.ref fI))) (tI : PySem.W.typeIn K (.ref fI) = some (.type "function"))
    (lf : K.lookup fI = some ⟨oc, od, .func (PySem.W.fnOf "__init__" qual (defArgs st) (defBody st) (defScope st) .none kV doc pm an cdv ct), osl⟩) (cd : PySem.W.codeIn K cdv qual = true) (kf : PySem.W.keepIn K (.ref fI) = true) (n1 : PySem.W.findIn K (.ref C) f1 = some none)
    (S : FnScope ["self", a1] ["self", a1] (defScope st)) (hbody : defBody st = [.Assign [.Attribute (.Name "self" p1) f1 p2] (.Name a1 p3) p4]) (v0 : Vis (defScope st) "self") (v1 : Vis (defScope st) a1) (d1 : (a1 == ("__debug__" : Str)) = false) (c1 : (a1 == ("__classdict__" : Str)) = false)
    (bd : ∀ (kV doc pm : Value) (an : Option Addr) (cdv ct : Value) (us : List Value), us.length = (["self", a1] : List Str).length → bindArgs (PySem.W.fnOf "__init__" qual (defArgs st) (defBody st) (defScope st) .none kV doc pm an cdv ct) ⟨us, []⟩ = pure ((["self", a1] : List Str).zip us)) : ExA K mg cE c x [f1] := by
  subst hC
  intro P w base
  have F := fun_mk (x := "__init__") (qual := qual) (st := st) lf cd kf
  exact ⟨fI, _, _, oexc_mk l hb sa ex ty kC, iC, tI, ex_one F S hbody (oexc_mk l hb sa ex ty kC) n1 v0 v1 d1 c1, F.binds bd, PySem.W.mg_of X G aC, by simp⟩
theorem exa_two (X : K.In h) (G : h.Ns mainGlobals mg) (aC : PySem.W.nsIn K mainGlobals x = some (some (.ref C))) (hC : cE c = C) (l : K.lookup C = some (excClassObj nm q C N bs bm true sn sub ab col dd k0 k1 k2 k3 k5 "ValueError.__new__")) (hb : PySem.HandSPX.refsVE bm = true) (sa : PySem.W.findIn K (.ref C) "__setattr__" = some (some (.builtin "object.__setattr__")))
    (ex : PySem.W.subIn K (.ref C) (.type "BaseException") = some true) (ty : PySem.W.typeIn K (.ref C) = some (.type "type")) (kC : PySem.W.keepIn K (.ref C) = true) (iC : PySem.W.findIn K (.ref C) "__init__" = some (some (.ref fI))) (tI : PySem.W.typeIn K (.ref fI) = some (.type "function"))
    (lf : K.lookup fI = some ⟨oc, od, .func (PySem.W.fnOf "__init__" qual (defArgs st) (defBody st) (defScope st) .none kV doc pm an cdv ct), osl⟩) (cd : PySem.W.codeIn K cdv qual = true) (kf : PySem.W.keepIn K (.ref fI) = true) (n1 : PySem.W.findIn K (.ref C) f1 = some none) (n2 : PySem.W.findIn K (.ref C) f2 = some none)
    (S : FnScope ["self", a1, a2] ["self", a1, a2] (defScope st)) (hbody : defBody st = [.Assign [.Attribute (.Name "self" p1) f1 p2] (.Name a1 p3) p4, .Assign [.Attribute (.Name "self" q1) f2 q2] (.Name a2 q3) q4]) (v0 : Vis (defScope st) "self") (v1 : Vis (defScope st) a1) (v2 : Vis (defScope st) a2)
    (d1 : (a1 == ("__debug__" : Str)) = false) (c1 : (a1 == ("__classdict__" : Str)) = false) (d2 : (a2 == ("__debug__" : Str)) = false) (c2 : (a2 == ("__classdict__" : Str)) = false)
    (bd : ∀ (kV doc pm : Value) (an : Option Addr) (cdv ct : Value) (us : List Value), us.length = (["self", a1, a2] : List Str).length → bindArgs (PySem.W.fnOf "__init__" qual (defArgs st) (defBody st) (defScope st) .none kV doc pm an cdv ct) ⟨us, []⟩ = pure ((["self", a1, a2] : List Str).zip us)) : ExA K mg cE c x [f1, f2] := by
  subst hC
  intro P w base
  have F := fun_mk (x := "__init__") (qual := qual) (st := st) lf cd kf
  exact ⟨fI, _, _, oexc_mk l hb sa ex ty kC, iC, tI, ex_two F S hbody (oexc_mk l hb sa ex ty kC) n1 n2 v0 v1 v2 d1 c1 d2 c2, F.binds bd, PySem.W.mg_of X G aC, by simp⟩
def extB (K : PySem.W.Frag) (C CH : Addr) (fs : List Str) : Bool :=
  (PySem.W.exmOne K (.ref C) (.ref C) == some true) && (PySem.W.findIn K (.ref C) "__getattribute__" == some (some (.builtin "BaseException.__getattribute__"))) && (PySem.W.findIn K (.ref C) "__getattr__" == some none) && (PySem.W.subIn K (.ref C) (.type "BaseException") == some true) && PySem.W.hasDictIn K C &&
  (fs.all fun f => PySem.W.findIn K (.ref C) f == some none) && (PySem.W.findIn K (.ref C) "__class__" == some (some (.builtin "object.__class__"))) && (PySem.W.specialIn K (.builtin "object.__class__") "__get__" == some (some (.builtin "getset_descriptor.__get__"))) && (PySem.W.takesIn K (.builtin "object.__class__") == some true) &&
  (PySem.W.mroIn K C (.type "object") == some true) && (PySem.W.kitOne K (.ref C) (.ref CH) == some true)
theorem ext_of {H : Str} {CH : Addr} {fs : List Str} (X : K.In h) (G : h.Ns mainGlobals mg) (aC : PySem.W.nsIn K mainGlobals x = some (some (.ref C))) (hC : cE c = C) (aH : PySem.W.nsIn K mainGlobals H = some (some (.ref CH))) (b : extB K C CH fs = true) : ExT K mg cE c x H CH fs := by
  subst hC
  unfold extB at b
  simp only [Bool.and_eq_true, List.all_eq_true, beq_iff_eq] at b
  obtain ⟨⟨⟨⟨⟨⟨⟨⟨⟨⟨b1, b2⟩, b3⟩, b4⟩, b5⟩, b6⟩, b7⟩, b8⟩, b9⟩, b10⟩, b11⟩ := b
  exact ⟨PySem.W.mg_of X G aC, b1, ⟨b2, b3, b4, b5⟩, b6, ⟨b2, b3, b4, b5, b7, b8, b9, b10⟩, PySem.W.mg_of X G aH, b11⟩
end
end TL
namespace TL
open PySem PySem.Spec PyProof.Rows L2
section
variable {X : Cx} {cA : Nat → Addr}
/-! ### repr of None or data -/
def rdReprN (ds : List D) (st : Sto) (Q : QD) : Prop := match ds with
  | [.non] => Q (.str PyData.none.shown) st
  | ds => rdRepr ds st Q
theorem de_reprN {p pos : Pos} {e : Expr} {te : TDE} (hgd : X.A.guards = some []) (hu : X.A.units + 70 < cLine) (hg : Gl X "repr") (hm : X.mg "repr" = none) (ha : DE cA X e te) (hs : starEach [e] X.env = (false, eval e X.env) :: starEach [] X.env := by rfl) : DE cA X (.Call (.Name "repr" p) [e] [] pos) (dCB rdReprN (dCons te dNil)) :=
  de_callB ((call_reprF).or ((SkE.call_repr_int).or (call_reprD hgd hu))) (fun g st H xs ds Qd Q rl rs h p => by
    unfold rdReprN at h
    split at h
    · obtain ⟨v, rfl, r⟩ := reps1 rs; cases r; exact .inl (.inr (.inr ⟨rfl, p.now rl (.str _) h⟩))
    · refine .inr ?_
      unfold rdRepr at h
      split at h
      · obtain ⟨v, rfl, r⟩ := reps1 rs; cases r; exact .inl ⟨_, rfl, h.1, p.now rl (.str _) h.2⟩
      · obtain ⟨v, rfl, r⟩ := reps1 rs
        obtain ⟨q, h1, h2, h3, h4, h5⟩ := h
        have hd := rep_dp r h1
        cases r
        exact .inr ⟨_, q, rfl, hd, h2, h3, h4, p.now rl (.str _) h5⟩
      · obtain ⟨v, rfl, r⟩ := reps1 rs
        obtain ⟨q, h1, h2, h3, h4, h5⟩ := h
        have hd := rep_dp r h1
        cases r
        exact .inr ⟨_, q, rfl, hd, h2, h3, h4, p.now rl (.str _) h5⟩
      · exact h.elim) hg hm (by decide +kernel) (da_cons ha da_nil hs) (he := hs) (hpl := rfl)
/-! ### sorted(d): the one sorted row of its keys -/
def rdSortS (ds : List D) (st : Sto) (Q : QD) : Prop := match ds with
  | [d] => match look st d with
    | .dct kd => ∃ ks : List Str, kd.map (·.1) = ks.map Sum.inr ∧ ks.length < 64 ∧ ∀ ys : List Str, ys.Perm ks → sortedS ys = true → Q (.lst (ys.map D.str)) st
    | _ => False
  | _ => False
theorem de_sortS {p pos : Pos} {e : Expr} {te : TDE} (hc : X.calm = true) (hg : Gl X "sorted") (hm : X.mg "sorted" = none) (ha : DE cA X e te) (hs : starEach [e] X.env = (false, eval e X.env) :: starEach [] X.env := by rfl) : DE cA X (.Call (.Name "sorted" p) [e] [] pos) (dCB rdSortS (dCons te dNil)) :=
  de_callB (call_sortedD hc) (fun g st H xs ds Qd Q rl rs h p => by
    unfold rdSortS at h
    split at h
    · obtain ⟨v, rfl, r⟩ := reps1 rs
      split at h
      · rename_i kd ex
        obtain ⟨a, kv, rfl, e1, rk⟩ := see_dct rl r ex
        obtain ⟨ks, h1, h2, h3⟩ := h
        exact ⟨a, kv, ks, rfl, e1, (repK_keys rk).trans h1, h2, fun ys q hp so hn => lay_lst rl (reps_strs ys) p (h3 ys hp so) q hn⟩
      · exact h.elim
    · exact h.elim) hg hm (by decide +kernel) (da_cons ha da_nil hs) (he := hs) (hpl := rfl)
end
end TL
namespace TL
open PySem PySem.Spec PyProof.Rows L2
/-! ### data with dicts in it -/
mutual
inductive Dq (K : PySem.W.Frag) (H : Hp) : V → PyData → Prop
  | non : Dq K H .non .none
  | bl (b : Bool) : Dq K H (.bl b) (.bool b)
  | int (i : Int) : Dq K H (.int i) (.int i)
  | str (x : Str) : Dq K H (.str x) (.str x)
  | lst {a : Addr} {xs : List V} {ds : List PyData} : SqL K H a xs → DqL K H xs ds → Dq K H (.ref a) (.list ds)
  | tup {a : Addr} {xs : List V} {ds : List PyData} : SqT K H a xs → DqL K H xs ds → Dq K H (.ref a) (.tuple ds)
  | dct {a : Addr} {kv : List (Key × V)} {ps : List (PyData × PyData)} : Rd H a (.dK kv) → DqK K H kv ps → Dq K H (.ref a) (.dict ps)
inductive DqL (K : PySem.W.Frag) (H : Hp) : List V → List PyData → Prop
  | nil : DqL K H [] []
  | cons {v : V} {vs : List V} {d : PyData} {ds : List PyData} : Dq K H v d → DqL K H vs ds → DqL K H (v :: vs) (d :: ds)
inductive DqK (K : PySem.W.Frag) (H : Hp) : List (Key × V) → List (PyData × PyData) → Prop
  | nil : DqK K H [] []
  | cons {k : Key} {v : V} {r : List (Key × V)} {p : PyData} {ps : List (PyData × PyData)} : Dq K H v p → DqK K H r ps → DqK K H ((k, v) :: r) ((kP k, p) :: ps)
end
section
variable {X : Cx} {cA : Nat → Addr} {pins : List (Addr × Obj)} {σ : L2.St} {H : Hp} {s : Shared}
mutual
theorem Dq.reads (I : Inv X pins σ H s) : ∀ {v : V} {p : PyData} {u : Value}, Dq X.K H v p → RelV v u → ∃ as, Reads s.heap u p as
  | _, _, _, .non, r => by cases r; exact ⟨_, .none⟩
  | _, _, _, .bl b, r => by cases r; exact ⟨_, .bool b⟩
  | _, _, _, .int i, r => by obtain ⟨t, rfl⟩ := r; exact ⟨_, .int i t⟩
  | _, _, _, .str i, r => by obtain ⟨t, rfl⟩ := r; exact ⟨_, .str i t⟩
  | _, _, _, .lst h q, r => by
    cases r
    obtain ⟨its, rv, pl, _⟩ := I.list h
    obtain ⟨o, n, ho, hc, _, hdat⟩ := pl
    obtain ⟨as, ra⟩ := DqL.reads I q rv
    exact ⟨_, .list ho hc hdat (by simpa using ra)⟩
  | _, _, _, .tup h q, r => by
    cases r
    obtain ⟨its, rv, pl, _⟩ := I.tuple h
    obtain ⟨o, ho, hc, n, hdat⟩ := pl
    obtain ⟨as, ra⟩ := DqL.reads I q rv
    exact ⟨_, .tuple ho hc hdat (by simpa using ra)⟩
  | _, _, _, .dct h q, r => by
    cases r
    obtain ⟨_, _, vs, rel, o, es, ep, ho, hx, hdat, _, pr, _⟩ := dk_rd I.hok h
    obtain ⟨as, bs, r1, r2⟩ := DqK.reads I q rel pr
    exact ⟨_, .dict ho hx.1 hdat r1 r2⟩
theorem DqL.reads (I : Inv X pins σ H s) : ∀ {vs : List V} {ps : List PyData} {us : List Value}, DqL X.K H vs ps → Vals vs us → ∃ as, ReadsAll s.heap us ps as
  | _, _, _, .nil, r => by cases r; exact ⟨_, .nil⟩
  | _, _, _, .cons h t, r => by
    cases r with
    | cons r1 r2 =>
      obtain ⟨as, q1⟩ := Dq.reads I h r1
      obtain ⟨bs, q2⟩ := DqL.reads I t r2
      exact ⟨_, .cons q1 q2⟩
theorem DqK.reads (I : Inv X pins σ H s) : ∀ {kv : List (Key × V)} {ps : List (PyData × PyData)} {vs : List (Key × Value)} {es : List DictEntry}, DqK X.K H kv ps → KV kv vs → Pairs (mixKind X.prog X.w) es vs → ∃ as bs, ReadsAll s.heap (es.map (·.key)) (ps.map (·.1)) as ∧ ReadsAll s.heap (es.map (·.val)) (ps.map (·.2)) bs
  | _, _, _, _, .nil, r, q => by unfold KV at r; cases r; cases q; exact ⟨_, _, .nil, .nil⟩
  | _, _, _, _, .cons (k := k) (v := v) h t, r, q => by
    unfold KV at r
    cases r with
    | @cons _ b _ _ r1 r2 =>
      cases q with
      | @cons e0 _ _ _ q1 q2 q3 =>
        have rv : RelV v e0.val := by rw [q2]; exact r1.2
        obtain ⟨as, y1⟩ := Dq.reads I h rv
        obtain ⟨bs, cs, y2, y3⟩ := DqK.reads I t r2 q3
        have ek : keyIs k e0.key = true := by
          have e1 : k = b.1 := r1.1
          rw [e1]; exact q1
        exact ⟨_, _, .cons (reads_key ek) y2, .cons y1 y3⟩
end
theorem repr_key {P : Program} {w : World} {h : Heap} {k : Key} {u : Value} (e : keyIs k u = true) (hs : (kP k).showable = true) (hz : (kP k).shown.length ≤ sizeLine) : ∃ bs, ReadAtMost h (kP k).depth bs ∧ ReprK P w bs h (kP k).depth u (kP k).shown :=
  ReprK.of_reads (reads_key e) hs (fun z => by cases k <;> simp [kP, PyData.hasDict] at z) hz
mutual
theorem Dq.repr (I : Inv X pins σ H s) : ∀ {v : V} {p : PyData} {u : Value}, Dq X.K H v p → RelV v u → p.showable = true → p.shown.length ≤ sizeLine → ∃ bs, ReadAtMost s.heap p.depth bs ∧ ReprK X.prog X.w bs s.heap p.depth u p.shown
  | _, _, _, .non, r, hs, hz => by cases r; exact ReprK.of_reads .none hs (fun z => by simp [PyData.hasDict] at z) hz
  | _, _, _, .bl b, r, hs, hz => by cases r; exact ReprK.of_reads (.bool b) hs (fun z => by simp [PyData.hasDict] at z) hz
  | _, _, _, .int i, r, hs, hz => by obtain ⟨t, rfl⟩ := r; exact ReprK.of_reads (.int i t) hs (fun z => by simp [PyData.hasDict] at z) hz
  | _, _, _, .str i, r, hs, hz => by obtain ⟨t, rfl⟩ := r; exact ReprK.of_reads (.str i t) hs (fun z => by simp [PyData.hasDict] at z) hz
  | _, _, _, .lst (ds := ds) h q, r, hs, hz => by
    cases r
    obtain ⟨its, rv, pl, _⟩ := I.list h
    obtain ⟨o, n, ho, hc, _, hdat⟩ := pl
    have hz2 : (listText (PyData.shownAll ds)).length ≤ sizeLine := by simpa only [PyData.shown] using hz
    obtain ⟨as, ra⟩ := DqL.reads I q rv
    obtain ⟨bs, hb, hk⟩ := DqL.repr I q rv (by simpa [PyData.showable] using hs) fun t ht => Nat.le_trans (listText_mem_le ht) hz2
    have whole : Reads s.heap (.ref _) (.list ds) _ := .list ho hc hdat (by simpa using ra)
    have out := not_mem_of_deeper whole (by simp only [PyData.depth]; omega) hb
    refine ⟨_ :: bs, ReadAtMost.cons whole (by simp only [PyData.depth]; omega) hb, ?_⟩
    simp only [PyData.depth, PyData.shown]
    cases its with
    | nil =>
      cases rv
      cases q
      simp only [PyData.shownAll, listText_nil]
      exact ReprK.listEmpty ho hc hdat
    | cons x l => exact ReprK.list ho hc hdat out (by simpa using hk.length_eq) fun i y e => hk.item i y (by simpa using e)
  | _, _, _, .tup (ds := ds) h q, r, hs, hz => by
    cases r
    obtain ⟨its, rv, pl, _⟩ := I.tuple h
    obtain ⟨o, ho, hc, n, hdat⟩ := pl
    have hz2 : (tupleText (PyData.shownAll ds)).length ≤ sizeLine := by simpa only [PyData.shown] using hz
    obtain ⟨as, ra⟩ := DqL.reads I q rv
    obtain ⟨bs, hb, hk⟩ := DqL.repr I q rv (by simpa [PyData.showable] using hs) fun t ht => Nat.le_trans (tupleText_mem_le ht) hz2
    have whole : Reads s.heap (.ref _) (.tuple ds) _ := .tuple ho hc hdat (by simpa using ra)
    have out := not_mem_of_deeper whole (by simp only [PyData.depth]; omega) hb
    refine ⟨_ :: bs, ReadAtMost.cons whole (by simp only [PyData.depth]; omega) hb, ?_⟩
    simp only [PyData.depth, PyData.shown]
    exact ReprK.tuple ho hc hdat out (by simpa using hk)
  | _, _, _, .dct (ps := ps) h q, r, hs, hz => by
    cases r
    obtain ⟨_, hsys, vs, rel, o, es, ep, ho, hx, hdat, _, pr, _⟩ := dk_rd I.hok h
    have hz2 : (dictText (PyData.shownKv ps)).length ≤ sizeLine := by simpa only [PyData.shown] using hz
    obtain ⟨as, bs, r1, r2⟩ := DqK.reads I q rel pr
    obtain ⟨b1, b2, hb1, hb2, k1, k2⟩ := DqK.repr I q rel pr (by simpa [PyData.showable] using hs) (fun t ht => let ⟨p, hp, hl⟩ := PyData.shownKv_key_le ps t ht; Nat.le_trans hl (Nat.le_trans (dictText_mem_le hp) hz2)) (fun t ht => let ⟨p, hp, hl⟩ := PyData.shownKv_val_le ps t ht; Nat.le_trans hl (Nat.le_trans (dictText_mem_le hp) hz2))
    have whole : Reads s.heap (.ref _) (.dict ps) _ := .dict ho hx.1 hdat r1 r2
    have both : ReadAtMost s.heap (PyData.depthKv ps) (b1 ++ b2) := (hb1.mono (PyData.depthAll_keys_le ps)).append (hb2.mono (PyData.depthAll_vals_le ps))
    have out := not_mem_of_deeper whole (by simp only [PyData.depth]; omega) both
    refine ⟨_ :: (b1 ++ b2), ReadAtMost.cons whole (by simp only [PyData.depth]; omega) both, ?_⟩
    simp only [PyData.depth, PyData.shown, PyData.shownKv_eq]
    exact ReprK.dict ho hx.1 hdat hsys out (ReprEntriesK.of_two es.toList _ _ (k1.more_le (fun z hz => List.mem_append_left _ hz) (PyData.depthAll_keys_le ps)) (k2.more_le (fun z hz => List.mem_append_right _ hz) (PyData.depthAll_vals_le ps)))
theorem DqL.repr (I : Inv X pins σ H s) : ∀ {vs : List V} {ps : List PyData} {us : List Value}, DqL X.K H vs ps → Vals vs us → PyData.showableAll ps = true → (∀ t ∈ PyData.shownAll ps, t.length ≤ sizeLine) → ∃ bs, ReadAtMost s.heap (PyData.depthAll ps) bs ∧ ReprAllK X.prog X.w bs s.heap (PyData.depthAll ps) us (PyData.shownAll ps)
  | _, _, _, .nil, r, _, _ => by cases r; exact ⟨[], (fun _ h => nomatch h), by simp only [PyData.shownAll]; exact .nil⟩
  | _, _, _, .cons h t, r, hs, hz => by
    cases r with
    | cons r1 r2 =>
      simp only [PyData.showableAll, Bool.and_eq_true] at hs
      simp only [PyData.shownAll] at hz
      obtain ⟨b1, hb1, k1⟩ := Dq.repr I h r1 hs.1 (hz _ (List.mem_cons_self ..))
      obtain ⟨b2, hb2, k2⟩ := DqL.repr I t r2 hs.2 fun t ht => hz t (List.mem_cons_of_mem _ ht)
      refine ⟨b1 ++ b2, ?_, ?_⟩
      · simp only [PyData.depthAll]
        exact (hb1.mono (Nat.le_max_left _ _)).append (hb2.mono (Nat.le_max_right _ _))
      · simp only [PyData.depthAll, PyData.shownAll]
        refine .cons ((k1.more fun z hz => List.mem_append_left _ hz).level_le (Nat.le_max_left _ _)) ?_
        exact k2.more_le (fun z hz => List.mem_append_right _ hz) (Nat.le_max_right _ _)
theorem DqK.repr (I : Inv X pins σ H s) : ∀ {kv : List (Key × V)} {ps : List (PyData × PyData)} {vs : List (Key × Value)} {es : List DictEntry}, DqK X.K H kv ps → KV kv vs → Pairs (mixKind X.prog X.w) es vs → PyData.showableKv ps = true → (∀ t ∈ PyData.shownAll (ps.map (·.1)), t.length ≤ sizeLine) → (∀ t ∈ PyData.shownAll (ps.map (·.2)), t.length ≤ sizeLine) →
    ∃ b1 b2, ReadAtMost s.heap (PyData.depthAll (ps.map (·.1))) b1 ∧ ReadAtMost s.heap (PyData.depthAll (ps.map (·.2))) b2 ∧ ReprAllK X.prog X.w b1 s.heap (PyData.depthAll (ps.map (·.1))) (es.map (·.key)) (PyData.shownAll (ps.map (·.1))) ∧ ReprAllK X.prog X.w b2 s.heap (PyData.depthAll (ps.map (·.2))) (es.map (·.val)) (PyData.shownAll (ps.map (·.2)))
  | _, _, _, _, .nil, r, q, _, _, _ => by unfold KV at r; cases r; cases q; exact ⟨[], [], (fun _ h => nomatch h), (fun _ h => nomatch h), by simp only [List.map_nil, PyData.shownAll]; exact .nil, by simp only [List.map_nil, PyData.shownAll]; exact .nil⟩
  | _, _, _, _, .cons (k := k) (v := v) h t, r, q, hs, hz1, hz2 => by
    unfold KV at r
    cases r with
    | @cons _ b _ _ r1 r2 =>
      cases q with
      | @cons e0 _ _ _ q1 q2 q3 =>
        simp only [PyData.showableKv, Bool.and_eq_true] at hs
        simp only [List.map_cons, PyData.shownAll] at hz1 hz2
        have rv : RelV v e0.val := by rw [q2]; exact r1.2
        have ek : keyIs k e0.key = true := by
          have e1 : k = b.1 := r1.1
          rw [e1]; exact q1
        obtain ⟨c1, hc1, m1⟩ := repr_key (P := X.prog) (w := X.w) (h := s.heap) ek hs.1.1 (hz1 _ (List.mem_cons_self ..))
        obtain ⟨c2, hc2, m2⟩ := Dq.repr I h rv hs.1.2 (hz2 _ (List.mem_cons_self ..))
        obtain ⟨b1, b2, hb1, hb2, k1, k2⟩ := DqK.repr I t r2 q3 hs.2 (fun t ht => hz1 t (List.mem_cons_of_mem _ ht)) (fun t ht => hz2 t (List.mem_cons_of_mem _ ht))
        refine ⟨c1 ++ b1, c2 ++ b2, ?_, ?_, ?_, ?_⟩
        · simp only [List.map_cons, PyData.depthAll]
          exact (hc1.mono (Nat.le_max_left _ _)).append (hb1.mono (Nat.le_max_right _ _))
        · simp only [List.map_cons, PyData.depthAll]
          exact (hc2.mono (Nat.le_max_left _ _)).append (hb2.mono (Nat.le_max_right _ _))
        · simp only [List.map_cons, PyData.depthAll, PyData.shownAll]
          refine .cons ((m1.more fun z hz => List.mem_append_left _ hz).level_le (Nat.le_max_left _ _)) ?_
          exact k1.more_le (fun z hz => List.mem_append_right _ hz) (Nat.le_max_right _ _)
        · simp only [List.map_cons, PyData.depthAll, PyData.shownAll]
          refine .cons ((m2.more fun z hz => List.mem_append_left _ hz).level_le (Nat.le_max_left _ _)) ?_
          exact k2.more_le (fun z hz => List.mem_append_right _ hz) (Nat.le_max_right _ _)
end
end
section
variable {X : Cx} {cA : Nat → Addr}
theorem call_reprQ (hgd : X.A.guards = some []) (hu : X.A.units + 70 < cLine) : CallR X (.builtin "repr") (fun xs H Q => ∃ a vs ps, xs = [.ref a] ∧ H a = some (.lst vs) ∧ vs ≠ [] ∧ DqL X.K H vs ps ∧ (PyData.list ps).showable = true ∧ (PyData.list ps).depth ≤ 64 ∧ (PyData.list ps).shown.length ≤ sizeLine ∧ Q (.str (PyData.list ps).shown) H) := by
  intro pins s σ H xs us Q I r h
  obtain ⟨a, vs, ps, rfl, ha, hne, hi, hs, hd, hz, q⟩ := h
  obtain ⟨u, rfl, ru⟩ := vals1 r
  cases ru
  obtain ⟨its, rv, pl, _⟩ := I.list (SqL.of ha)
  obtain ⟨o, n, ho, hc, _, hdat⟩ := pl
  have hz2 : (listText (PyData.shownAll ps)).length ≤ sizeLine := by simpa only [PyData.shown] using hz
  obtain ⟨as, ra⟩ := DqL.reads I hi rv
  obtain ⟨bs, hb, hk⟩ := DqL.repr I hi rv (by simpa [PyData.showable] using hs) fun t ht => Nat.le_trans (listText_mem_le ht) hz2
  have whole : Reads s.heap (.ref a) (.list ps) _ := .list ho hc hdat (by simpa using ra)
  have out := not_mem_of_deeper whole (by simp only [PyData.depth]; omega) hb
  simp only [PyData.depth] at hd
  simp only [PyData.shown] at q
  refine call_repr_slot (by omega) ⟨o, ho, hc⟩ F.slot_list_repr.toG ?_
  cases its with
  | nil => cases rv; exact absurd rfl hne
  | cons x l =>
    refine call_list_reprK (h₀ := s.heap) ho hc hdat out (by simpa using hk.length_eq) (fun i y e => hk.item i y (by simpa using e)) hgd (fun b _ => Clear.nil b) (show X.A.units + 1 + (_ + 1) < cLine by omega) (fun _ _ e => e) (fun h' t tk kp => ⟨_, t, rfl, ?_⟩) hz2
    exact ⟨.str _, H, I.kept kp, ⟨_, rfl⟩, q⟩
end
mutual
def D.pyd : D → Option PyData
  | .non => some .none
  | .bl b => some (.bool b)
  | .int i => some (.int i)
  | .str x => some (.str x)
  | .tup ds => (D.pyds ds).map .tuple
  | .lst ds => (D.pyds ds).map .list
  | .dct kd => (D.pydk kd).map .dict
  | .obj _ _ => none
  | .ref _ => none
  | .scr _ => none
def D.pyds : List D → Option (List PyData)
  | [] => some []
  | d :: ds => match D.pyd d, D.pyds ds with
    | some p, some ps => some (p :: ps)
    | _, _ => none
def D.pydk : List (Key × D) → Option (List (PyData × PyData))
  | [] => some []
  | (k, d) :: r => match D.pyd d, D.pydk r with
    | some p, some ps => some ((kP k, p) :: ps)
    | _, _ => none
end
section
variable {G : Gx} {g : Gh} {H : Hp}
mutual
theorem rep_dq : ∀ {v : V} {d : D}, Rep G g H v d → ∀ {p : PyData}, d.pyd = some p → Dq G.K H v p
  | _, _, .non, p, h => by simp only [D.pyd] at h; cases h; exact .non
  | _, _, .bl b, p, h => by simp only [D.pyd] at h; cases h; exact .bl b
  | _, _, .int i, p, h => by simp only [D.pyd] at h; cases h; exact .int i
  | _, _, .str x, p, h => by simp only [D.pyd] at h; cases h; exact .str x
  | _, _, .tup e r, p, h => by
    simp only [D.pyd] at h
    obtain ⟨ps, h1, h2⟩ := Option.map_eq_some_iff.mp h
    cases h2
    exact .tup e.sq (reps_dq r h1)
  | _, _, .lst w e r, p, h => by
    simp only [D.pyd] at h
    obtain ⟨ps, h1, h2⟩ := Option.map_eq_some_iff.mp h
    cases h2
    exact .lst (.of e) (reps_dq r h1)
  | _, _, .dct e r, p, h => by
    simp only [D.pyd] at h
    obtain ⟨ps, h1, h2⟩ := Option.map_eq_some_iff.mp h
    cases h2
    exact .dct e.2 (repk_dq r h1)
  | _, _, .obj _ _ _, p, h => by simp [D.pyd] at h
  | _, _, .ref _, p, h => by simp [D.pyd] at h
  | _, _, .scr _, p, h => by simp [D.pyd] at h
theorem reps_dq : ∀ {vs : List V} {ds : List D}, Reps G g H vs ds → ∀ {ps : List PyData}, D.pyds ds = some ps → DqL G.K H vs ps
  | _, _, .nil, ps, h => by simp only [D.pyds] at h; cases h; exact .nil
  | _, _, .cons (d := d) (ds := ds) r t, ps, h => by
    simp only [D.pyds] at h
    cases h1 : d.pyd with
    | none => simp [h1] at h
    | some q => cases h2 : D.pyds ds with
      | none => simp [h1, h2] at h
      | some qs =>
        simp only [h1, h2] at h
        cases h
        exact .cons (rep_dq r h1) (reps_dq t h2)
theorem repk_dq : ∀ {kv : List (Key × V)} {kd : List (Key × D)}, RepK G g H kv kd → ∀ {ps : List (PyData × PyData)}, D.pydk kd = some ps → DqK G.K H kv ps
  | _, _, .nil, ps, h => by simp only [D.pydk] at h; cases h; exact .nil
  | _, _, .cons (d := d) (ds := ds) r t, ps, h => by
    simp only [D.pydk] at h
    cases h1 : d.pyd with
    | none => simp [h1] at h
    | some q => cases h2 : D.pydk ds with
      | none => simp [h1, h2] at h
      | some qs =>
        simp only [h1, h2] at h
        cases h
        exact .cons (rep_dq r h1) (repk_dq t h2)
end
/-- an item, one look deep -/
theorem see_dq {st : Sto} {v : V} {d : D} {p : PyData} (rl : Rel G g st H) (r : Rep G g H v d) (h : (look st d).pyd = some p) : Dq G.K H v p := by
  cases d with
  | ref n =>
    unfold look at h
    cases r with
    | @ref a _ e1 =>
      cases e : st n with
      | none => simp [e, D.pyd] at h
      | some m =>
        obtain ⟨a', f1, f2, f3⟩ := rl.cell _ _ e
        rw [e1] at f1; cases f1
        cases m with
        | lst ds =>
          obtain ⟨vs, f4, f5⟩ := f3
          simp only [e, D.pyd] at h
          obtain ⟨ps, h1, h2⟩ := Option.map_eq_some_iff.mp h
          cases h2
          exact .lst (.of f4) (reps_dq f5 h1)
        | dct kd =>
          obtain ⟨kv, f4, f5⟩ := f3
          simp only [e, D.pyd] at h
          obtain ⟨ps, h1, h2⟩ := Option.map_eq_some_iff.mp h
          cases h2
          exact .dct (.inl f4) (repk_dq f5 h1)
        | _ => simp [e, D.pyd] at h
  | _ => exact rep_dq r h
end
def pyqs (st : Sto) : List D → Option (List PyData)
  | [] => some []
  | d :: ds => match (look st d).pyd, pyqs st ds with
    | some p, some ps => some (p :: ps)
    | _, _ => none
theorem pyqs_dq {G : Gx} {g : Gh} {st : Sto} {H : Hp} (rl : Rel G g st H) : ∀ {vs : List V} {ds : List D}, Reps G g H vs ds → ∀ {ps : List PyData}, pyqs st ds = some ps → DqL G.K H vs ps
  | _, _, .nil, ps, h => by simp only [pyqs] at h; cases h; exact .nil
  | _, _, .cons (d := d) (ds := ds) r t, ps, h => by
    simp only [pyqs] at h
    cases h1 : (look st d).pyd with
    | none => simp [h1] at h
    | some q => cases h2 : pyqs st ds with
      | none => simp [h1, h2] at h
      | some qs =>
        simp only [h1, h2] at h
        cases h
        exact .cons (see_dq rl r h1) (pyqs_dq rl t h2)
section
variable {X : Cx} {cA : Nat → Addr}
def rdReprQ (ds : List D) (st : Sto) (Q : QD) : Prop := match ds with
  | [.lst xs] => xs ≠ [] ∧ ∃ ps, pyqs st xs = some ps ∧ (PyData.list ps).showable = true ∧ (PyData.list ps).depth ≤ 64 ∧ (PyData.list ps).shown.length ≤ sizeLine ∧ Q (.str (PyData.list ps).shown) st
  | _ => False
theorem de_reprQ {p pos : Pos} {e : Expr} {te : TDE} (hgd : X.A.guards = some []) (hu : X.A.units + 70 < cLine) (hg : Gl X "repr") (hm : X.mg "repr" = none) (ha : DE cA X e te) (hs : starEach [e] X.env = (false, eval e X.env) :: starEach [] X.env := by rfl) : DE cA X (.Call (.Name "repr" p) [e] [] pos) (dCB rdReprQ (dCons te dNil)) :=
  de_callB (call_reprQ hgd hu) (fun g st H xs ds Qd Q rl rs h p => by
    unfold rdReprQ at h
    split at h
    · obtain ⟨v, rfl, r⟩ := reps1 rs
      obtain ⟨hne, ps, h1, h2, h3, h4, h5⟩ := h
      cases r with
      | @lst a vs _ w e1 rv =>
        refine ⟨a, vs, ps, rfl, e1, ?_, pyqs_dq rl rv h1, h2, h3, h4, p.now rl (.str _) h5⟩
        rintro rfl
        cases rv
        exact hne rfl
    · exact h.elim) hg hm (by decide +kernel) (da_cons ha da_nil hs) (he := hs) (hpl := rfl)
end
end TL
namespace TL
open PySem PySem.Spec PyProof.Rows L2
/-! ### readings in normal form -/
def onS {α : Type} (o : Option α) (P : α → Prop) : Prop := match o with
  | some d => P d
  | none => False
theorem onS_some {α : Type} {d : α} {P : α → Prop} : onS (some d) P = P d := rfl
theorem onS_none {α : Type} {P : α → Prop} : onS none P = False := rfl
theorem onS_of {α : Type} {o : Option α} {d : α} {P : α → Prop} (e : o = some d) (h : P d) : onS o P := by rw [e]; exact h
theorem onS_ex {α : Type} {o : Option α} {P : α → Prop} : (∃ d, o = some d ∧ P d) = onS o P := by
  apply propext
  constructor
  · rintro ⟨d, e, h⟩; exact onS_of e h
  · intro h
    cases o with
    | none => exact h.elim
    | some d => exact ⟨d, rfl, h⟩
theorem rdIx_nf (x y : D) (st : Sto) (Q : QD) : rdIx x y st Q = (match look st x, y with
  | .lst ds, .int i => onS (atI ds i) fun d => Q d st
  | .tup ds, .int i => onS (atI ds i) fun d => Q d st
  | .str z, .int i => z.length ≤ sizeLine ∧ onS (atI z.cps.toList i) fun c => Q (.str ⟨#[c]⟩) st
  | .dct kd, k => onS (keyOf k) fun key => onS (getK kd key) fun d => Q d st
  | _, _ => False) := by
  have h : ∀ (kd : List (Key × D)) (k : D), (∃ key d, keyOf k = some key ∧ getK kd key = some d ∧ Q d st) = onS (keyOf k) fun key => onS (getK kd key) fun d => Q d st := fun kd k => by
    rw [← onS_ex]
    apply propext
    constructor
    · rintro ⟨a, b, h1, h2, h3⟩; exact ⟨a, h1, onS_of h2 h3⟩
    · rintro ⟨a, h1, h2⟩
      rw [← onS_ex] at h2
      obtain ⟨b, h2, h3⟩ := h2
      exact ⟨a, b, h1, h2, h3⟩
  unfold rdIx
  simp only [onS_ex, h]
  try rfl
theorem dPutS_nf (td ty tv : TDE) (D' : DEnds) (env : DSt) (st : Sto) : dPutS td ty tv D' env st = tv env st fun v st1 => td env st1 fun x st2 => ty env st2 fun y st3 => (match x with
  | .ref n => (match st3 n with
    | some (.dct kd) => onS (keyOf y) fun key => kd.length < sizeLine ∧ D'.nx env (sup st3 n (.dct (setK kd key v)))
    | _ => False)
  | _ => False) := by
  unfold dPutS
  simp only [onS_ex]
  try rfl
theorem isL_ref {st : Sto} {n : Nat} {xs : List D} (h : st n = some (.lst xs)) : isL st (.ref n) := by unfold isL look; simp only [h]
theorem isL_lst {st : Sto} {xs : List D} : isL st (.lst xs) := trivial
theorem cellL_ref {st : Sto} {n : Nat} {xs : List D} {k : Nat → List D → Prop} (h : st n = some (.lst xs)) : cellL st (.ref n) k = k n xs := by unfold cellL; simp only [h]
theorem look_lst {st : Sto} {n : Nat} {xs : List D} (h : st n = some (.lst xs)) : look st (.ref n) = .lst xs := by unfold look; simp only [h]
theorem look_dct {st : Sto} {n : Nat} {xs : List (Key × D)} (h : st n = some (.dct xs)) : look st (.ref n) = .dct xs := by unfold look; simp only [h]
theorem look_box {st : Sto} {n : Nat} (h : st n = some .box) : look st (.ref n) = .ref n := by unfold look; simp only [h]
theorem sb {st : Sto} {Q : QD} {d : D} (h : Q d st) : ∃ st', Sub st' st ∧ Q d st' := ⟨st, Sub.refl st, h⟩
theorem ends_rt {Q : QD} {d : D} {st : Sto} : (ends Q).rt d st = ∃ st', Sub st' st ∧ Q d st' := rfl
theorem sup_comm {st : Sto} {n m : Nat} {x y : MO} (h : n ≠ m) : sup (sup st n x) m y = sup (sup st m y) n x := by
  funext k
  by_cases k1 : k = n
  · subst k1; rw [sup_same, sup_ne h, sup_same]
  · by_cases k2 : k = m
    · subst k2; rw [sup_same, sup_ne k1, sup_same]
    · rw [sup_ne k1, sup_ne k2, sup_ne k2, sup_ne k1]
theorem sup_id {st : Sto} {n : Nat} {x : MO} (h : st n = some x) : sup st n x = st := by
  funext k
  by_cases k1 : k = n
  · subst k1; rw [sup_same, h]
  · rw [sup_ne k1]
theorem popAt_of {st : Sto} {l : Nat} {xs : List D} {r : Int} {y : D} {Q : QD} (e : st l = some (.lst xs)) (h0 : 0 ≤ r) (h1 : r < 2 ^ 63) (hx : xs[r.toNat]? = some y) (q : Q y (sup st l (.lst (xs.eraseIdx r.toNat)))) : rdPopAt (.ref l) [.int r] st Q := by
  unfold rdPopAt
  rw [cellL_ref e]
  exact ⟨y, h0, h1, hx, q⟩
theorem pop_of {st : Sto} {l : Nat} {xs : List D} {y : D} {Q : QD} (e : st l = some (.lst (xs ++ [y]))) (q : Q y (sup st l (.lst xs))) : rdPop (.ref l) [] st Q := by
  unfold rdPop
  rw [cellL_ref e]
  exact ⟨y, by simp, rfl, by simpa using q⟩
theorem append_of {st : Sto} {l : Nat} {xs : List D} {y : D} {Q : QD} (e : st l = some (.lst xs)) (hz : xs.length < sizeLine) (q : Q .non (sup st l (.lst (xs ++ [y])))) : rdAppend (.ref l) [y] st Q := by
  unfold rdAppend
  rw [cellL_ref e]
  exact ⟨hz, q⟩
theorem extend_of {st : Sto} {l : Nat} {xs ys : List D} {d : D} {Q : QD} (e : st l = some (.lst xs)) (ed : look st d = .lst ys) (hz : xs.length + ys.length ≤ sizeLine) (q : Q .non (sup st l (.lst (xs ++ ys)))) : rdExtend (.ref l) [d] st Q := by
  unfold rdExtend
  rw [cellL_ref e]
  simp only [ed]
  exact ⟨hz, q⟩
theorem rangeD_succ (i : Int) (k : Nat) : rangeD i (k + 1) = .int i :: rangeD (i + 1) k := by
  unfold rangeD
  rw [List.range_succ_eq_map, List.map_cons, List.map_map]
  congr 1
  · simp
  · apply List.map_congr_left
    intro a _
    simp only [Function.comp]
    congr 1
    rw [Int.add_assoc, Int.add_comm 1]
    rfl
theorem rangeD_zero (i : Int) : rangeD i 0 = [] := rfl
section
variable {st : Sto}
theorem look_int {i : Int} : look st (.int i) = .int i := rfl
theorem look_str {i : Str} : look st (.str i) = .str i := rfl
theorem look_bl {i : Bool} : look st (.bl i) = .bl i := rfl
theorem look_non : look st .non = .non := rfl
theorem look_tup {i : List D} : look st (.tup i) = .tup i := rfl
theorem look_l {i : List D} : look st (.lst i) = .lst i := rfl
theorem look_d {i : List (Key × D)} : look st (.dct i) = .dct i := rfl
theorem look_obj {c : Nat} {i : List (Str × D)} : look st (.obj c i) = .obj c i := rfl
end
theorem ix_lst {ds : List D} {i : Int} {st : Sto} {Q : QD} (h : onS (atI ds i) fun d => Q d st) : rdIx (.lst ds) (.int i) st Q := by rw [rdIx_nf]; exact h
theorem ix_tup {ds : List D} {i : Int} {st : Sto} {Q : QD} (h : onS (atI ds i) fun d => Q d st) : rdIx (.tup ds) (.int i) st Q := by rw [rdIx_nf]; exact h
theorem ix_dct {d k v : D} {kd : List (Key × D)} {key : Key} {st : Sto} {Q : QD} (h1 : look st d = .dct kd) (h2 : keyOf k = some key) (h3 : getK kd key = some v) (q : Q v st) : rdIx d k st Q := by
  rw [rdIx_nf, h1]
  show onS (keyOf k) _
  rw [h2, onS_some, h3]; exact q
theorem atL0 {α : Type} {a : α} {xs : List α} : atI (a :: xs) 0 = some a := by unfold atI ixN; simp
theorem atL1 {α : Type} {a b : α} {xs : List α} : atI (a :: b :: xs) 1 = some b := by unfold atI ixN; simp; rw [if_pos (by omega)]; rfl
theorem atL2 {α : Type} {a b c : α} {xs : List α} : atI (a :: b :: c :: xs) 2 = some c := by unfold atI ixN; simp; rw [if_pos (by omega)]; rfl
theorem atL3 {α : Type} {a b c d : α} {xs : List α} : atI (a :: b :: c :: d :: xs) 3 = some d := by unfold atI ixN; simp; rw [if_pos (by omega)]; rfl
theorem atL4 {α : Type} {a b c d e : α} {xs : List α} : atI (a :: b :: c :: d :: e :: xs) 4 = some e := by unfold atI ixN; simp; rw [if_pos (by omega)]; rfl
end TL
namespace TL
open PySem PySem.Spec PyProof.Rows L2
/-! ### good data: what may be shown and compared -/
def okS (x : Str) : Bool := x.cps.toList.all fun c => decide (c < 1114112)
mutual
def D.ok : D → Bool
  | .non => true
  | .bl _ => true
  | .int i => decide (i.natAbs < 1000000000)
  | .str x => okS x
  | .tup ds => D.oks ds
  | .lst ds => D.oks ds
  | .dct _ => false
  | .obj _ _ => false
  | .ref _ => false
  | .scr _ => false
def D.oks : List D → Bool
  | [] => true
  | d :: ds => D.ok d && D.oks ds
end
mutual
def D.wt : D → Nat
  | .non => 4
  | .bl _ => 5
  | .int _ => 10
  | .str x => 10 * x.length + 2
  | .tup ds => D.wts ds + 4
  | .lst ds => D.wts ds + 4
  | .dct _ => 0
  | .obj _ _ => 0
  | .ref _ => 0
  | .scr _ => 0
def D.wts : List D → Nat
  | [] => 0
  | d :: ds => D.wt d + 2 + D.wts ds
end
mutual
def D.dp : D → Nat
  | .tup ds => D.dps ds + 1
  | .lst ds => D.dps ds + 1
  | .non => 0
  | .bl _ => 0
  | .int _ => 0
  | .str _ => 0
  | .dct _ => 0
  | .obj _ _ => 0
  | .ref _ => 0
  | .scr _ => 0
def D.dps : List D → Nat
  | [] => 0
  | d :: ds => max (D.dp d) (D.dps ds)
end
theorem okS_strOk {x : Str} (h : okS x = true) : PyData.strOk x = true := by
  unfold okS at h
  unfold PyData.strOk
  rw [← Array.all_toList]
  exact h
theorem textFrom_le : ∀ (ts : List Str) (k : Nat) (acc : Str), (textFrom k acc ts).length ≤ acc.length + piled ts
  | [], k, acc => by show acc.length ≤ _; omega
  | t :: r, k, acc => by
    have := textFrom_le r (k + 1) (acc ++ (if k > 0 then ", " else "" : String) ++ t)
    show (textFrom (k + 1) (acc ++ (if k > 0 then ", " else "" : String) ++ t) r).length ≤ _
    rw [strLen_append, strLen_append] at this
    rw [piled_cons]
    have e : (((if k > 0 then ", " else "" : String) : Str)).length ≤ 2 := by split <;> decide
    omega
theorem listText_le (ts : List Str) : (listText ts).length ≤ piled ts + 2 := by
  unfold listText
  rw [strLen_append]
  have := textFrom_le ts 0 "["
  have e1 : ((("[" : String) : Str)).length = 1 := rfl
  have e2 : ((("]" : String) : Str)).length = 1 := rfl
  omega
theorem tupleText_le (ts : List Str) : (tupleText ts).length ≤ piled ts + 3 := by
  unfold tupleText
  rw [strLen_append, strLen_append]
  have e1 : ((("(" : String) : Str)).length = 1 := rfl
  have e3 : (((if ts.length == 1 then ",)" else ")" : String) : Str)).length ≤ 2 := by split <;> decide
  rw [e1]
  cases ts with
  | nil =>
    have : (Str.join ", " []).length = 0 := rfl
    omega
  | cons t r =>
    have := join_length_add (t :: r) (by simp)
    omega
theorem int_ok {i : Int} (h : i.natAbs < 1000000000) : i.natAbs.log2 < 1920 ∧ (Str.ofString (toString i)).length ≤ 10 := by
  refine ⟨?_, ?_⟩
  · by_cases h0 : i.natAbs = 0
    · rw [h0]; decide
    · exact (Nat.log2_lt h0).mpr (Nat.lt_of_lt_of_le h (by decide +kernel))
  · rw [PySem.ofString_length]
    exact int_text_length_le10 (k := 9) (by decide) h
mutual
theorem ok_py : ∀ d : D, d.ok = true → ∃ p, d.py = some p ∧ p.canLay0 = true ∧ p.showable = true ∧ p.depth ≤ d.dp ∧ p.shown.length ≤ d.wt
  | .non, _ => ⟨.none, by simp [D.py], by simp [PyData.canLay0], by simp [PyData.showable], by simp [PyData.depth], by simp only [PyData.shown, D.wt]; decide⟩
  | .bl b, _ => ⟨.bool b, by simp [D.py], by simp [PyData.canLay0], by simp [PyData.showable], by simp [PyData.depth], by cases b <;> simp only [PyData.shown, D.wt] <;> decide⟩
  | .int i, h => by
    simp only [D.ok, decide_eq_true_eq] at h
    obtain ⟨h1, h2⟩ := int_ok h
    exact ⟨.int i, by simp [D.py], by simp [PyData.canLay0], by simp [PyData.showable, h1], by simp [PyData.depth], by simp only [PyData.shown, D.wt]; exact h2⟩
  | .str x, h => by
    simp only [D.ok] at h
    refine ⟨.str x, by simp [D.py], by simp [PyData.canLay0, okS_strOk h], by simp [PyData.showable], by simp [PyData.depth], ?_⟩
    simp only [PyData.shown, D.wt]
    refine StrLaws.reprText_len x fun c hc => ?_
    have := List.all_eq_true.mp h c hc
    simp only [decide_eq_true_eq] at this
    omega
  | .tup ds, h => by
    simp only [D.ok] at h
    obtain ⟨ps, h1, h2, h3, h4, h5⟩ := oks_py ds h
    refine ⟨.tuple ps, by simp [D.py, h1], by simp [PyData.canLay0, h2], by simp [PyData.showable, h3], by simp [PyData.depth, D.dp, h4], ?_⟩
    simp only [PyData.shown, D.wt]
    have := tupleText_le (PyData.shownAll ps)
    omega
  | .lst ds, h => by
    simp only [D.ok] at h
    obtain ⟨ps, h1, h2, h3, h4, h5⟩ := oks_py ds h
    refine ⟨.list ps, by simp [D.py, h1], by simp [PyData.canLay0, h2], by simp [PyData.showable, h3], by simp [PyData.depth, D.dp, h4], ?_⟩
    simp only [PyData.shown, D.wt]
    have := listText_le (PyData.shownAll ps)
    omega
  | .dct _, h => by simp [D.ok] at h
  | .obj _ _, h => by simp [D.ok] at h
  | .ref _, h => by simp [D.ok] at h
  | .scr _, h => by simp [D.ok] at h
theorem oks_py : ∀ ds : List D, D.oks ds = true → ∃ ps, D.pys ds = some ps ∧ PyData.canLayAll0 ps = true ∧ PyData.showableAll ps = true ∧ PyData.depthAll ps ≤ D.dps ds ∧ piled (PyData.shownAll ps) ≤ D.wts ds
  | [], _ => ⟨[], by simp [D.pys], by simp [PyData.canLayAll0], by simp [PyData.showableAll], by simp [PyData.depthAll], by simp [PyData.shownAll, piled_nil]⟩
  | d :: ds, h => by
    simp only [D.oks, Bool.and_eq_true] at h
    obtain ⟨p, a1, a2, a3, a4, a5⟩ := ok_py d h.1
    obtain ⟨ps, b1, b2, b3, b4, b5⟩ := oks_py ds h.2
    refine ⟨p :: ps, by simp [D.pys, a1, b1], by simp [PyData.canLayAll0, a2, b2], by simp [PyData.showableAll, a3, b3], ?_, ?_⟩
    · simp only [PyData.depthAll, D.dps]; omega
    · simp only [PyData.shownAll, piled_cons, D.wts]; omega
end
/-- shown: some text, the same at every place -/
theorem repr_tup {xs : List D} {st : Sto} {Q : QD} (h : (D.tup xs).ok = true) (hd : (D.tup xs).dp ≤ 64) (hw : (D.tup xs).wt ≤ 16777216) (q : ∀ p, (D.tup xs).py = some p → Q (.str p.shown) st) : rdRepr [.tup xs] st Q := by
  obtain ⟨p, a1, a2, a3, a4, a5⟩ := ok_py _ h
  exact ⟨p, a1, by unfold SeqAt.shaped; rw [a2, Bool.true_and]; exact decide_eq_true (by omega), a3, by rw [sizeLine_eq]; omega, q p a1⟩
theorem repr_lst {xs : List D} {st : Sto} {Q : QD} (h : (D.lst xs).ok = true) (hd : (D.lst xs).dp ≤ 64) (hw : (D.lst xs).wt ≤ 16777216) (q : ∀ p, (D.lst xs).py = some p → Q (.str p.shown) st) : rdRepr [.lst xs] st Q := by
  obtain ⟨p, a1, a2, a3, a4, a5⟩ := ok_py _ h
  exact ⟨p, a1, by unfold SeqAt.shaped; rw [a2, Bool.true_and]; exact decide_eq_true (by omega), a3, by rw [sizeLine_eq]; omega, q p a1⟩
theorem repr_int {i : Int} {st : Sto} {Q : QD} (h : i.natAbs < 1000000000) (q : Q (.str (toString i)) st) : rdRepr [.int i] st Q := ⟨(int_ok h).1, q⟩
theorem shaped_of {d : D} (h : d.ok = true) (hd : d.dp ≤ 64) : ∃ p, d.py = some p ∧ SeqAt.shaped p = true ∧ p.canLay0 = true := by
  obtain ⟨p, a1, a2, a3, a4, a5⟩ := ok_py _ h
  exact ⟨p, a1, by unfold SeqAt.shaped; rw [a2, Bool.true_and]; exact decide_eq_true (by omega), a2⟩
/-- the same tree is equal to itself -/
theorem eq_same {neg : Bool} {d : D} {st : Sto} {Q : QD} (h : d.ok = true) (hd : d.dp ≤ 64) (q : Q (.bl (true != neg)) st) : rdEq neg d d st Q := by
  obtain ⟨p, a1, a2, a3⟩ := shaped_of h hd
  have hl : look st d = d := by cases d <;> first | rfl | (simp [D.ok] at h)
  have hp : pyv st d = some p := by unfold pyv; rw [hl]; exact a1
  have e := SeqAt.eqv_refl p a3
  unfold rdEq
  split
  · simpa using q
  · simpa using q
  · exact ⟨p, p, hp, hp, a2, a2, by rw [e]; exact q⟩
/-- a list against [] -/
theorem eq_nil {neg : Bool} {xs : List D} {st : Sto} {Q : QD} (h : D.oks xs = true) (hd : D.dps xs < 64) (q : Q (.bl (decide (xs = []) != neg)) st) : rdEq neg (.lst xs) (.lst []) st Q := by
  obtain ⟨ps, h1, h2, h3, h4, h5⟩ := oks_py xs h
  have hs : ∀ p : PyData, p.canLay0 = true → p.depth ≤ 64 → SeqAt.shaped p = true := fun p a b => by unfold SeqAt.shaped; rw [a, Bool.true_and]; exact decide_eq_true b
  refine ⟨.list ps, .list [], by unfold pyv; simp [look, D.py, h1], by unfold pyv; simp [look, D.py, D.pys], hs _ (by simp [PyData.canLay0, h2]) (by simp only [PyData.depth]; omega), hs _ (by simp [PyData.canLay0, PyData.canLayAll0]) (by simp [PyData.depth, PyData.depthAll]), ?_⟩
  have e : PyData.eqv (.list ps) (.list []) = decide (xs = []) := by
    cases xs with
    | nil => simp only [D.pys] at h1; cases h1; simp [PyData.eqv, PyData.eqvAll]
    | cons x r =>
      cases ps with
      | nil => simp only [D.pys] at h1; split at h1 <;> cases h1
      | cons _ _ => simp [PyData.eqv, PyData.eqvAll]
  rw [e]; exact q
end TL
namespace TL
open PySem PySem.Spec PyProof.Rows L2
/-! ### plain data (no bools): == is equality of trees -/
mutual
def D.pl : D → Bool
  | .non => true
  | .int _ => true
  | .str _ => true
  | .tup ds => D.pls ds
  | .lst ds => D.pls ds
  | .bl _ => false
  | .dct _ => false
  | .obj _ _ => false
  | .ref _ => false
  | .scr _ => false
def D.pls : List D → Bool
  | [] => true
  | d :: ds => D.pl d && D.pls ds
end
mutual
theorem eqv_inj : ∀ (d e : D) (p q : PyData), d.pl = true → e.pl = true → d.py = some p → e.py = some q → PyData.eqv p q = true → d = e
  | .non, e, p, q, hd, he, h1, h2, h => by
    simp only [D.py] at h1; cases h1
    cases e <;> (simp only [D.py, D.pl] at h2 he; first | (cases h2; first | rfl | (simp [PyData.eqv] at h)) | (cases he) | (obtain ⟨_, _, rfl⟩ := Option.map_eq_some_iff.mp h2; simp [PyData.eqv] at h))
  | .int i, e, p, q, hd, he, h1, h2, h => by
    simp only [D.py] at h1; cases h1
    cases e <;> (simp only [D.py, D.pl] at h2 he; first | (cases h2; simp [PyData.eqv] at h; first | done | (subst h; rfl)) | (cases he) | (obtain ⟨_, _, rfl⟩ := Option.map_eq_some_iff.mp h2; simp [PyData.eqv] at h))
  | .str i, e, p, q, hd, he, h1, h2, h => by
    simp only [D.py] at h1; cases h1
    cases e <;> (simp only [D.py, D.pl] at h2 he; first | (cases h2; simp [PyData.eqv] at h; first | done | (subst h; rfl)) | (cases he) | (obtain ⟨_, _, rfl⟩ := Option.map_eq_some_iff.mp h2; simp [PyData.eqv] at h))
  | .tup ds, e, p, q, hd, he, h1, h2, h => by
    simp only [D.py] at h1
    obtain ⟨ps, h3, rfl⟩ := Option.map_eq_some_iff.mp h1
    cases e with
    | tup es =>
      simp only [D.py] at h2
      obtain ⟨qs, h4, rfl⟩ := Option.map_eq_some_iff.mp h2
      simp only [PyData.eqv] at h
      simp only [D.pl] at hd he
      rw [eqvs_inj ds es ps qs hd he h3 h4 h]
    | lst es =>
      simp only [D.py] at h2
      obtain ⟨qs, h4, rfl⟩ := Option.map_eq_some_iff.mp h2
      simp [PyData.eqv] at h
    | non => simp only [D.py] at h2; cases h2; simp [PyData.eqv] at h
    | int _ => simp only [D.py] at h2; cases h2; simp [PyData.eqv] at h
    | str _ => simp only [D.py] at h2; cases h2; simp [PyData.eqv] at h
    | _ => simp [D.pl] at he
  | .lst ds, e, p, q, hd, he, h1, h2, h => by
    simp only [D.py] at h1
    obtain ⟨ps, h3, rfl⟩ := Option.map_eq_some_iff.mp h1
    cases e with
    | lst es =>
      simp only [D.py] at h2
      obtain ⟨qs, h4, rfl⟩ := Option.map_eq_some_iff.mp h2
      simp only [PyData.eqv] at h
      simp only [D.pl] at hd he
      rw [eqvs_inj ds es ps qs hd he h3 h4 h]
    | tup es =>
      simp only [D.py] at h2
      obtain ⟨qs, h4, rfl⟩ := Option.map_eq_some_iff.mp h2
      simp [PyData.eqv] at h
    | non => simp only [D.py] at h2; cases h2; simp [PyData.eqv] at h
    | int _ => simp only [D.py] at h2; cases h2; simp [PyData.eqv] at h
    | str _ => simp only [D.py] at h2; cases h2; simp [PyData.eqv] at h
    | _ => simp [D.pl] at he
  | .bl _, _, _, _, hd, _, _, _, _ => by simp [D.pl] at hd
  | .dct _, _, _, _, hd, _, _, _, _ => by simp [D.pl] at hd
  | .obj _ _, _, _, _, hd, _, _, _, _ => by simp [D.pl] at hd
  | .ref _, _, _, _, hd, _, _, _, _ => by simp [D.pl] at hd
  | .scr _, _, _, _, hd, _, _, _, _ => by simp [D.pl] at hd
theorem eqvs_inj : ∀ (ds es : List D) (ps qs : List PyData), D.pls ds = true → D.pls es = true → D.pys ds = some ps → D.pys es = some qs → PyData.eqvAll ps qs = true → ds = es
  | [], es, ps, qs, hd, he, h1, h2, h => by
    simp only [D.pys] at h1; cases h1
    cases es with
    | nil => rfl
    | cons e r =>
      simp only [D.pys] at h2
      split at h2
      · cases h2; simp [PyData.eqvAll] at h
      · cases h2
  | d :: ds, es, ps, qs, hd, he, h1, h2, h => by
    simp only [D.pys] at h1
    split at h1
    · rename_i p1 ps1 e1 e2
      cases h1
      cases es with
      | nil => simp only [D.pys] at h2; cases h2; simp [PyData.eqvAll] at h
      | cons e r =>
        simp only [D.pys] at h2
        split at h2
        · rename_i q1 qs1 e3 e4
          cases h2
          simp only [PyData.eqvAll, Bool.and_eq_true] at h
          simp only [D.pls, Bool.and_eq_true] at hd he
          rw [eqv_inj d e p1 q1 hd.1 he.1 e1 e3 h.1, eqvs_inj ds r ps1 qs1 hd.2 he.2 e2 e4 h.2]
        · cases h2
    · cases h1
end
theorem look_ok {st : Sto} {d : D} (h : d.ok = true) : look st d = d := by cases d <;> first | rfl | (simp [D.ok] at h)
/-- unlike trees are unequal -/
theorem eq_no {neg : Bool} {d e : D} {st : Sto} {Q : QD} (hne : d ≠ e) (hd : d.ok = true) (he : e.ok = true) (pd : d.pl = true) (pe : e.pl = true) (dd : d.dp ≤ 64) (de : e.dp ≤ 64) (q : Q (.bl (false != neg)) st) : rdEq neg d e st Q := by
  obtain ⟨p, a1, a2, a3⟩ := shaped_of hd dd
  obtain ⟨r, b1, b2, b3⟩ := shaped_of he de
  have hl : pyv st d = some p := by unfold pyv; rw [look_ok hd]; exact a1
  have hr : pyv st e = some r := by unfold pyv; rw [look_ok he]; exact b1
  have ef : PyData.eqv p r = false := by
    cases q : PyData.eqv p r with
    | false => rfl
    | true => exact absurd (eqv_inj d e p r pd pe a1 b1 q) hne
  unfold rdEq
  split
  · rename_i i j
    have : decide (i = j) = false := decide_eq_false fun z => hne (by rw [z])
    rw [this]; exact q
  · rename_i i j
    have : decide (i = j) = false := decide_eq_false fun z => hne (by rw [z])
    rw [this]; exact q
  · exact ⟨p, r, hl, hr, a2, b2, by rw [ef]; exact q⟩
open Classical in
/-- == of plain data -/
theorem eq_pl {neg : Bool} {d e : D} {st : Sto} {Q : QD} (hd : d.ok = true) (he : e.ok = true) (pd : d.pl = true) (pe : e.pl = true) (dd : d.dp ≤ 64) (de : e.dp ≤ 64) (q : Q (.bl (decide (d = e) != neg)) st) : rdEq neg d e st Q := by
  by_cases h : d = e
  · subst h
    simp only [decide_true] at q
    exact eq_same hd dd q
  · simp only [h, decide_false] at q
    exact eq_no h hd he pd pe dd de q
/-- what repr shows: one text for one tree -/
theorem repr_fn {xs : List D} (h : (D.lst xs).ok = true) (hd : (D.lst xs).dp ≤ 64) (hw : (D.lst xs).wt ≤ 16777216) : ∃ s : Str, ∀ (st : Sto) (Q : QD), Q (.str s) st → rdRepr [.lst xs] st Q := by
  obtain ⟨p, a1, _⟩ := ok_py _ h
  refine ⟨p.shown, fun st Q q => repr_lst h hd hw fun p' hp' => ?_⟩
  rw [a1] at hp'
  cases hp'
  exact q
theorem lst_small {xs : List D} (h : ∀ x ∈ xs, x.ok = true ∧ x.dp ≤ 10 ∧ x.wt ≤ 10000) (hl : xs.length ≤ 100) : (D.lst xs).ok = true ∧ (D.lst xs).dp ≤ 64 ∧ (D.lst xs).wt ≤ 16777216 := by
  have o1 : D.oks xs = true := by
    clear hl
    induction xs with
    | nil => rfl
    | cons a r ih => simp only [D.oks, Bool.and_eq_true]; exact ⟨(h a (List.mem_cons_self ..)).1, ih fun x hx => h x (List.mem_cons_of_mem _ hx)⟩
  have o2 : D.dps xs ≤ 10 := by
    clear o1 hl
    induction xs with
    | nil => simp [D.dps]
    | cons a r ih => simp only [D.dps]; have := ih fun x hx => h x (List.mem_cons_of_mem _ hx); have := (h a (List.mem_cons_self ..)).2.1; omega
  have o3 : D.wts xs ≤ 10002 * xs.length := by
    clear o1 hl o2
    induction xs with
    | nil => simp [D.wts]
    | cons a r ih => simp only [D.wts, List.length_cons]; have := ih fun x hx => h x (List.mem_cons_of_mem _ hx); have := (h a (List.mem_cons_self ..)).2.2; omega
  exact ⟨by simpa [D.ok] using o1, by simp only [D.dp]; omega, by simp only [D.wt]; omega⟩
/-! dicts -/
theorem setK_len (kd : List (Key × D)) (k : Key) (d : D) : (setK kd k d).length ≤ kd.length + 1 := by
  unfold setK
  split <;> simp
theorem getK_cons {k j : Key} {d : D} {r : List (Key × D)} : getK ((k, d) :: r) j = if k = j then some d else getK r j := by
  unfold getK
  rw [List.find?_cons]
  by_cases h : k = j <;> simp [h]
theorem getK_map {k j : Key} {d : D} : ∀ {kd : List (Key × D)}, getK (kd.map fun p => if p.1 = k then (p.1, d) else p) j = if j = k then (getK kd k).map (fun _ => d) else getK kd j
  | [] => by by_cases h : j = k <;> simp [getK, h]
  | (a, x) :: r => by
    rw [List.map_cons]
    have ih := getK_map (k := k) (j := j) (d := d) (kd := r)
    by_cases ha : a = k
    · subst ha
      simp only [if_true, getK_cons, ih]
      by_cases hj : j = a
      · subst hj; simp
      · have : ¬ a = j := fun z => hj z.symm
        simp [hj, this]
    · simp only [ha, if_false, getK_cons, ih]
      by_cases hj : j = k
      · subst hj; simp [ha]
      · simp [hj]
theorem getK_any {k : Key} : ∀ {kd : List (Key × D)}, (kd.any fun p => decide (p.1 = k)) = (getK kd k).isSome
  | [] => rfl
  | (a, x) :: r => by
    rw [List.any_cons, getK_any (kd := r), getK_cons]
    by_cases ha : a = k <;> simp [ha]
theorem getK_app {k j : Key} {d : D} : ∀ {kd : List (Key × D)}, getK (kd ++ [(k, d)]) j = (getK kd j).or (if k = j then some d else none)
  | [] => by rw [List.nil_append, getK_cons]; simp [getK]
  | (a, x) :: r => by
    rw [List.cons_append, getK_cons, getK_cons, getK_app (kd := r)]
    by_cases ha : a = j <;> simp [ha]
theorem getK_set {kd : List (Key × D)} {k : Key} {d : D} : getK (setK kd k d) k = some d := by
  unfold setK
  split
  · rename_i h
    rw [getK_any] at h
    rw [getK_map, if_pos rfl]
    obtain ⟨x, hx⟩ := Option.isSome_iff_exists.mp h
    rw [hx]; rfl
  · rename_i h
    rw [getK_any] at h
    have : getK kd k = none := by
      cases e : getK kd k with
      | none => rfl
      | some x => rw [e] at h; simp at h
    rw [getK_app, this, if_pos rfl]; rfl
theorem getK_set_ne {kd : List (Key × D)} {k j : Key} {d : D} (h : j ≠ k) : getK (setK kd k d) j = getK kd j := by
  unfold setK
  split
  · rw [getK_map, if_neg h]
  · rw [getK_app, if_neg (Ne.symm h)]
    cases getK kd j <;> rfl
end TL
namespace TL
open PySem PySem.Spec PyProof.Rows L2
/-! ### repr tells simple data apart -/
def chs (x : Str) : List Nat := x.cps.toList
theorem chs_app (x y : Str) : chs (x ++ y) = chs x ++ chs y := by unfold chs; rw [Str.cps_append]; simp
theorem chs_ext {x y : Str} (h : chs x = chs y) : x = y := by
  cases x; cases y
  unfold chs at h
  simp only at h
  congr 1
  exact Array.toList_inj.mp h
def plainC (c : Nat) : Bool := decide (32 ≤ c) && decide (c ≤ 126) && decide (c ≠ 39) && decide (c ≠ 92)
def plainS (x : Str) : Bool := (chs x).all plainC
theorem reprChar_plain : ∀ c < 127, plainC c = true → PySem.Builtin.Str.reprChar 39 c = [c] := by decide +kernel
theorem chs_repr {x : Str} (h : plainS x = true) : chs (reprText x) = 39 :: (chs x ++ [39]) := by
  have hp : ∀ c ∈ x.cps.toList, plainC c = true := List.all_eq_true.mp h
  have hq : reprQuote x = 39 := by
    have : x.cps.contains 39 = false := by
      cases e : x.cps.contains 39 with
      | false => rfl
      | true =>
        have := hp 39 (by simpa using e)
        revert this; decide
    unfold reprQuote
    simp only [this, Bool.false_and, Bool.false_eq_true, if_false]
  unfold reprText chs
  rw [hq]
  simp only [Array.toList_push]
  rw [← Array.foldl_toList]
  have go : ∀ (l : List Nat) (acc : Array Nat), (∀ c ∈ l, plainC c = true) → (l.foldl (fun out c => out ++ (PySem.Builtin.Str.reprChar 39 c).toArray) acc).toList = acc.toList ++ l := by
    intro l
    induction l with
    | nil => intro acc _; simp
    | cons c r ih =>
      intro acc hl
      have hc := hl c (List.mem_cons_self ..)
      have hc2 : c < 127 := by simp only [plainC, Bool.and_eq_true, decide_eq_true_eq] at hc; omega
      rw [List.foldl_cons, ih _ (fun z hz => hl z (List.mem_cons_of_mem _ hz)), reprChar_plain c hc2 hc]
      simp
  rw [go _ _ hp]
  rfl
/-- the digits of an int -/
theorem chs_of (s : String) : chs (Str.ofString s) = s.toList.map Char.toNat := by unfold chs; rw [Str.ofString_eq_toList]
def digC (c : Nat) : Bool := decide (48 ≤ c) && decide (c ≤ 57)
def natC (n : Nat) : List Nat := (Nat.toDigits 10 n).map Char.toNat
theorem char_inj {a b : Char} (h : a.toNat = b.toNat) : a = b := Char.ext (UInt32.toNat_inj.mp h)
theorem map_toNat_inj : ∀ {a b : List Char}, a.map Char.toNat = b.map Char.toNat → a = b
  | [], [], _ => rfl
  | [], _ :: _, h => by cases h
  | _ :: _, [], h => by cases h
  | x :: a, y :: b, h => by
    simp only [List.map_cons, List.cons.injEq] at h
    rw [char_inj h.1, map_toNat_inj h.2]
theorem natC_inj {n m : Nat} (h : natC n = natC m) : n = m := by
  have h := map_toNat_inj h
  have := congrArg (Nat.ofDigitChars 10 · 0) h
  simpa [Nat.ofDigitChars_ten_toDigits] using this
theorem natC_dig {n : Nat} : ∀ c ∈ natC n, digC c = true := fun c hc => by
  obtain ⟨x, hx, rfl⟩ := List.mem_map.mp hc
  have := Nat.isDigit_of_mem_toDigits (b := 10) (by decide) (by decide) hx
  simp only [Char.isDigit, Bool.and_eq_true, decide_eq_true_eq] at this
  simp only [digC, Bool.and_eq_true, decide_eq_true_eq]
  exact ⟨this.1, this.2⟩
theorem natC_ne {n : Nat} : natC n ≠ [] := fun h => Nat.toDigits_ne_nil (List.map_eq_nil_iff.mp h)
theorem int_chs (i : Int) : chs (Str.ofString (toString i)) = if 0 ≤ i then natC i.toNat else 45 :: natC (-i).toNat := by
  rw [chs_of]
  cases i with
  | ofNat n =>
    rw [if_pos (by exact Int.natCast_nonneg n)]
    have : toString (Int.ofNat n) = n.repr := rfl
    rw [this, Nat.toList_repr]; rfl
  | negSucc n =>
    rw [if_neg (by omega)]
    have : toString (Int.negSucc n) = "-" ++ (n + 1).repr := rfl
    rw [this, String.toList_append, Nat.toList_repr]
    rfl
/-- what may stand behind -/
def endC : List Nat → Prop
  | [] => True
  | c :: _ => c = 44 ∨ c = 41 ∨ c = 93
theorem dig_split : ∀ {a b r s : List Nat}, (∀ c ∈ a, digC c = true) → (∀ c ∈ b, digC c = true) → endC r → endC s → a ++ r = b ++ s → a = b ∧ r = s
  | [], [], _, _, _, _, _, _, h => ⟨rfl, h⟩
  | [], y :: b, r, s, _, hb, hr, _, h => by
    simp only [List.nil_append, List.cons_append] at h
    rw [h] at hr
    have := hb y (List.mem_cons_self ..)
    simp only [digC, Bool.and_eq_true, decide_eq_true_eq] at this
    simp only [endC] at hr
    omega
  | x :: a, [], r, s, ha, _, _, hs, h => by
    simp only [List.nil_append, List.cons_append] at h
    rw [← h] at hs
    have := ha x (List.mem_cons_self ..)
    simp only [digC, Bool.and_eq_true, decide_eq_true_eq] at this
    simp only [endC] at hs
    omega
  | x :: a, y :: b, r, s, ha, hb, hr, hs, h => by
    simp only [List.cons_append, List.cons.injEq] at h
    obtain ⟨e1, e2⟩ := dig_split (fun c hc => ha c (List.mem_cons_of_mem _ hc)) (fun c hc => hb c (List.mem_cons_of_mem _ hc)) hr hs h.2
    exact ⟨by rw [h.1, e1], e2⟩
theorem int_split {i j : Int} {r s : List Nat} (hr : endC r) (hs : endC s) (h : chs (Str.ofString (toString i)) ++ r = chs (Str.ofString (toString j)) ++ s) : i = j ∧ r = s := by
  rw [int_chs, int_chs] at h
  have no : ∀ (n : Nat) (t u : List Nat), natC n ++ t ≠ 45 :: u := fun n t u e => by
    cases en : natC n with
    | nil => exact natC_ne en
    | cons c q =>
      have := natC_dig (n := n) c (by rw [en]; exact List.mem_cons_self ..)
      rw [en] at e
      simp only [List.cons_append, List.cons.injEq] at e
      rw [e.1] at this
      revert this; decide
  by_cases hi : 0 ≤ i <;> by_cases hj : 0 ≤ j
  · rw [if_pos hi, if_pos hj] at h
    obtain ⟨e1, e2⟩ := dig_split natC_dig natC_dig hr hs h
    have := natC_inj e1
    exact ⟨by omega, e2⟩
  · rw [if_pos hi, if_neg hj] at h
    exact absurd h (no _ _ _)
  · rw [if_neg hi, if_pos hj] at h
    exact absurd h.symm (no _ _ _)
  · rw [if_neg hi, if_neg hj] at h
    simp only [List.cons_append, List.cons.injEq, true_and] at h
    obtain ⟨e1, e2⟩ := dig_split natC_dig natC_dig hr hs h
    have := natC_inj e1
    exact ⟨by omega, e2⟩
theorem quote_split : ∀ {a b r s : List Nat}, (∀ c ∈ a, plainC c = true) → (∀ c ∈ b, plainC c = true) → a ++ 39 :: r = b ++ 39 :: s → a = b ∧ r = s
  | [], [], _, _, _, _, h => ⟨rfl, (List.cons.inj h).2⟩
  | [], y :: b, r, s, _, hb, h => by
    simp only [List.nil_append, List.cons_append, List.cons.injEq] at h
    have := hb y (List.mem_cons_self ..)
    rw [← h.1] at this
    exact absurd this (by decide)
  | x :: a, [], r, s, ha, _, h => by
    simp only [List.nil_append, List.cons_append, List.cons.injEq] at h
    have := ha x (List.mem_cons_self ..)
    rw [h.1] at this
    exact absurd this (by decide)
  | x :: a, y :: b, r, s, ha, hb, h => by
    simp only [List.cons_append, List.cons.injEq] at h
    obtain ⟨e1, e2⟩ := quote_split (fun c hc => ha c (List.mem_cons_of_mem _ hc)) (fun c hc => hb c (List.mem_cons_of_mem _ hc)) h.2
    exact ⟨by rw [h.1, e1], e2⟩
/-! ### simple data -/
mutual
def smp : PyData → Bool
  | .none => true
  | .bool _ => true
  | .int _ => true
  | .str x => plainS x
  | .list xs => smps xs
  | .tuple xs => smps xs
  | .dict _ => false
def smps : List PyData → Bool
  | [] => true
  | x :: r => smp x && smps r
end
def shC (p : PyData) : List Nat := chs p.shown
/-- the items with commas between them -/
def jn : List PyData → List Nat
  | [] => []
  | [x] => shC x
  | x :: y :: r => shC x ++ 44 :: 32 :: jn (y :: r)
theorem chs_join : ∀ xs : List PyData, chs (Str.join ", " (PyData.shownAll xs)) = jn xs
  | [] => by rw [PyData.shownAll_nil]; rfl
  | [x] => by rw [PyData.shownAll_cons, PyData.shownAll_nil]; rfl
  | x :: y :: r => by
    have ih := chs_join (y :: r)
    rw [PyData.shownAll_cons, PyData.shownAll_cons]
    rw [PyData.shownAll_cons] at ih
    show chs (x.shown ++ ", " ++ Str.join ", " (y.shown :: PyData.shownAll r)) = _
    rw [chs_app, chs_app, ih]
    have : chs (", " : Str) = [44, 32] := by decide +kernel
    rw [this]
    simp [jn, shC]
theorem shC_list (xs : List PyData) : shC (.list xs) = 91 :: (jn xs ++ [93]) := by
  unfold shC
  rw [PyData.shown_list, chs_app, chs_app, chs_join]
  have e1 : chs ("[" : Str) = [91] := by decide +kernel
  have e2 : chs ("]" : Str) = [93] := by decide +kernel
  rw [e1, e2]; rfl
def tEnd (xs : List PyData) : List Nat := if xs.length = 1 then [44, 41] else [41]
theorem shC_tuple (xs : List PyData) : shC (.tuple xs) = 40 :: (jn xs ++ tEnd xs) := by
  unfold shC
  rw [PyData.shown_tuple, chs_app, chs_app, chs_join]
  have e1 : chs ("(" : Str) = [40] := by decide +kernel
  have e2 : chs (")" : Str) = [41] := by decide +kernel
  have e3 : chs (",)" : Str) = [44, 41] := by decide +kernel
  rw [e1]
  unfold tEnd
  by_cases h : xs.length = 1
  · simp [h, e3]
  · simp [h, e2]
theorem shC_str {x : Str} (h : plainS x = true) : shC (.str x) = 39 :: (chs x ++ [39]) := by unfold shC; rw [PyData.shown_str, chs_repr h]
theorem shC_int (i : Int) : shC (.int i) = chs (Str.ofString (toString i)) := by unfold shC; rw [PyData.shown_int]
theorem shC_none : shC .none = [78, 111, 110, 101] := by unfold shC; rw [PyData.shown_none]; decide +kernel
theorem shC_bool (b : Bool) : shC (.bool b) = if b then [84, 114, 117, 101] else [70, 97, 108, 115, 101] := by
  unfold shC; rw [PyData.shown_bool]
  cases b <;> decide +kernel
/-- the kind by the first sign -/
def kd : PyData → Nat
  | .none => 0
  | .bool true => 1
  | .bool false => 2
  | .int _ => 3
  | .str _ => 4
  | .list _ => 5
  | .tuple _ => 6
  | .dict _ => 7
def kdC (c : Nat) : Nat := if c = 78 then 0 else if c = 84 then 1 else if c = 70 then 2 else if c = 39 then 4 else if c = 91 then 5 else if c = 40 then 6 else if c = 45 ∨ digC c = true then 3 else 8
theorem kdC_dig {c : Nat} (h : digC c = true) : kdC c = 3 := by
  have h2 := h
  simp only [digC, Bool.and_eq_true, decide_eq_true_eq] at h2
  unfold kdC
  rw [if_neg (by omega), if_neg (by omega), if_neg (by omega), if_neg (by omega), if_neg (by omega), if_neg (by omega), if_pos (.inr h)]
theorem shC_head {p : PyData} (h : smp p = true) : ∃ c t, shC p = c :: t ∧ kdC c = kd p := by
  cases p with
  | none => exact ⟨_, _, shC_none, rfl⟩
  | bool b => cases b <;> exact ⟨_, _, shC_bool _, rfl⟩
  | int i =>
    rw [shC_int, int_chs]
    by_cases hi : 0 ≤ i
    · rw [if_pos hi]
      cases en : natC i.toNat with
      | nil => exact absurd en natC_ne
      | cons c q => exact ⟨c, q, rfl, kdC_dig (natC_dig c (by rw [en]; exact List.mem_cons_self ..))⟩
    · rw [if_neg hi]; exact ⟨_, _, rfl, rfl⟩
  | str x => simp only [smp] at h; exact ⟨_, _, shC_str h, rfl⟩
  | list xs => exact ⟨_, _, shC_list xs, rfl⟩
  | tuple xs => exact ⟨_, _, shC_tuple xs, rfl⟩
  | dict k => simp [smp] at h
theorem kd_eq {p q : PyData} {r s : List Nat} (hp : smp p = true) (hq : smp q = true) (h : shC p ++ r = shC q ++ s) : kd p = kd q := by
  obtain ⟨c, t, e1, k1⟩ := shC_head hp
  obtain ⟨d, u, e2, k2⟩ := shC_head hq
  rw [e1, e2] at h
  simp only [List.cons_append, List.cons.injEq] at h
  rw [← k1, ← k2, h.1]
theorem end_comma {t : List Nat} : endC (44 :: t) := .inl rfl
/-- what stands behind the items of a list or a tuple: no comma and space -/
def clC : List Nat → Prop
  | 93 :: _ => True
  | 41 :: _ => True
  | 44 :: 41 :: _ => True
  | _ => False
theorem clC_end {r : List Nat} (h : clC r) : endC r := by
  unfold clC at h
  split at h
  · exact .inr (.inr rfl)
  · exact .inr (.inl rfl)
  · exact .inl rfl
  · exact h.elim
theorem clC_no {r t : List Nat} (h : clC r) : r ≠ 44 :: 32 :: t := by rintro rfl; exact h
theorem clC_kd {c : Nat} {r : List Nat} (h : clC (c :: r)) : kdC c = 8 := by
  unfold clC at h
  split at h
  · rename_i e; cases e; rfl
  · rename_i e; cases e; rfl
  · rename_i e; cases e; rfl
  · exact h.elim
theorem kd_8 (p : PyData) : kd p ≠ 8 := by
  cases p with
  | bool b => cases b <;> decide
  | _ => simp [kd]
theorem tEnd_cl (xs : List PyData) (r : List Nat) : clC (tEnd xs ++ r) := by unfold tEnd; split <;> trivial
mutual
theorem shC_split : ∀ (p q : PyData) (r s : List Nat), smp p = true → smp q = true → endC r → endC s → shC p ++ r = shC q ++ s → p = q ∧ r = s
  | .none, q, r, s, hp, hq, hr, hs, h => by
    have k := kd_eq hp hq h
    cases q with
    | none => exact ⟨rfl, List.append_cancel_left h⟩
    | bool b => cases b <;> simp [kd] at k
    | _ => simp [kd] at k
  | .bool b, q, r, s, hp, hq, hr, hs, h => by
    have k := kd_eq hp hq h
    cases q with
    | bool b' =>
      have e : b = b' := by cases b <;> cases b' <;> simp [kd] at k <;> rfl
      subst e
      exact ⟨rfl, List.append_cancel_left h⟩
    | _ => cases b <;> simp [kd] at k
  | .int i, q, r, s, hp, hq, hr, hs, h => by
    have k := kd_eq hp hq h
    cases q with
    | int j =>
      rw [shC_int, shC_int] at h
      obtain ⟨e1, e2⟩ := int_split hr hs h
      exact ⟨by rw [e1], e2⟩
    | bool b => cases b <;> simp [kd] at k
    | _ => simp [kd] at k
  | .str x, q, r, s, hp, hq, hr, hs, h => by
    have k := kd_eq hp hq h
    cases q with
    | str y =>
      simp only [smp] at hp hq
      rw [shC_str hp, shC_str hq] at h
      simp only [List.cons_append, List.append_assoc, List.nil_append, List.cons.injEq, true_and] at h
      obtain ⟨e1, e2⟩ := quote_split (List.all_eq_true.mp hp) (List.all_eq_true.mp hq) h
      exact ⟨by rw [chs_ext e1], e2⟩
    | bool b => cases b <;> simp [kd] at k
    | _ => simp [kd] at k
  | .list xs, q, r, s, hp, hq, hr, hs, h => by
    have k := kd_eq hp hq h
    cases q with
    | list ys =>
      simp only [smp] at hp hq
      rw [shC_list, shC_list] at h
      simp only [List.cons_append, List.append_assoc, List.nil_append, List.cons.injEq, true_and] at h
      obtain ⟨e1, e2⟩ := jn_split xs ys (93 :: r) (93 :: s) hp hq trivial trivial h
      exact ⟨by rw [e1], (List.cons.inj e2).2⟩
    | bool b => cases b <;> simp [kd] at k
    | _ => simp [kd] at k
  | .tuple xs, q, r, s, hp, hq, hr, hs, h => by
    have k := kd_eq hp hq h
    cases q with
    | tuple ys =>
      simp only [smp] at hp hq
      rw [shC_tuple, shC_tuple] at h
      simp only [List.cons_append, List.append_assoc, List.nil_append, List.cons.injEq, true_and] at h
      obtain ⟨e1, e2⟩ := jn_split xs ys _ _ hp hq (tEnd_cl ..) (tEnd_cl ..) h
      subst e1
      exact ⟨rfl, List.append_cancel_left e2⟩
    | bool b => cases b <;> simp [kd] at k
    | _ => simp [kd] at k
  | .dict k, q, r, s, hp, hq, hr, hs, h => by simp [smp] at hp
theorem jn_split : ∀ (xs ys : List PyData) (r s : List Nat), smps xs = true → smps ys = true → clC r → clC s → jn xs ++ r = jn ys ++ s → xs = ys ∧ r = s
  | [], [], r, s, _, _, hr, hs, h => ⟨rfl, h⟩
  | [], y :: ys, r, s, _, hy, hr, hs, h => by
    simp only [smps, Bool.and_eq_true] at hy
    obtain ⟨c, t, e, k⟩ := shC_head hy.1
    have : ∃ u, jn (y :: ys) ++ s = c :: u := by
      cases ys with
      | nil => exact ⟨_, by show shC y ++ s = _; rw [e]; rfl⟩
      | cons z ys => exact ⟨_, by show (shC y ++ 44 :: 32 :: jn (z :: ys)) ++ s = _; rw [e]; rfl⟩
    obtain ⟨u, eu⟩ := this
    rw [eu] at h
    have h : r = c :: u := h
    rw [h] at hr
    exact absurd (k.symm.trans (clC_kd hr)) (kd_8 y)
  | x :: xs, [], r, s, hx, _, hr, hs, h => by
    simp only [smps, Bool.and_eq_true] at hx
    obtain ⟨c, t, e, k⟩ := shC_head hx.1
    have : ∃ u, jn (x :: xs) ++ r = c :: u := by
      cases xs with
      | nil => exact ⟨_, by show shC x ++ r = _; rw [e]; rfl⟩
      | cons z xs => exact ⟨_, by show (shC x ++ 44 :: 32 :: jn (z :: xs)) ++ r = _; rw [e]; rfl⟩
    obtain ⟨u, eu⟩ := this
    rw [eu] at h
    have h : c :: u = s := h
    rw [← h] at hs
    exact absurd (k.symm.trans (clC_kd hs)) (kd_8 x)
  | [x], [y], r, s, hx, hy, hr, hs, h => by
    simp only [smps, Bool.and_eq_true] at hx hy
    obtain ⟨e1, e2⟩ := shC_split x y r s hx.1 hy.1 (clC_end hr) (clC_end hs) h
    exact ⟨by rw [e1], e2⟩
  | [x], y :: z :: ys, r, s, hx, hy, hr, hs, h => by
    simp only [smps, Bool.and_eq_true] at hx hy
    have h : shC x ++ r = shC y ++ (44 :: 32 :: (jn (z :: ys) ++ s)) := by simpa [jn] using h
    obtain ⟨e1, e2⟩ := shC_split x y r _ hx.1 hy.1 (clC_end hr) end_comma h
    exact absurd e2 (clC_no hr)
  | x :: z :: xs, [y], r, s, hx, hy, hr, hs, h => by
    simp only [smps, Bool.and_eq_true] at hx hy
    have h : shC x ++ (44 :: 32 :: (jn (z :: xs) ++ r)) = shC y ++ s := by simpa [jn] using h
    obtain ⟨e1, e2⟩ := shC_split x y _ s hx.1 hy.1 end_comma (clC_end hs) h
    exact absurd e2.symm (clC_no hs)
  | x :: z :: xs, y :: u :: ys, r, s, hx, hy, hr, hs, h => by
    simp only [smps, Bool.and_eq_true] at hx hy
    have h : shC x ++ (44 :: 32 :: (jn (z :: xs) ++ r)) = shC y ++ (44 :: 32 :: (jn (u :: ys) ++ s)) := by simpa [jn] using h
    obtain ⟨e1, e2⟩ := shC_split x y _ _ hx.1 hy.1 end_comma end_comma h
    simp only [List.cons.injEq, true_and] at e2
    obtain ⟨e3, e4⟩ := jn_split (z :: xs) (u :: ys) r s (by simp only [smps, Bool.and_eq_true]; exact hx.2) (by simp only [smps, Bool.and_eq_true]; exact hy.2) hr hs e2
    exact ⟨by rw [e1, e3], e4⟩
end
theorem shown_inj {p q : PyData} (hp : smp p = true) (hq : smp q = true) (h : p.shown = q.shown) : p = q :=
  (shC_split p q [] [] hp hq trivial trivial (by unfold shC; rw [h])).1
/-! ### over trees -/
mutual
def D.sm : D → Bool
  | .non => true
  | .bl _ => true
  | .int _ => true
  | .str x => plainS x
  | .tup xs => D.sms xs
  | .lst xs => D.sms xs
  | _ => false
def D.sms : List D → Bool
  | [] => true
  | x :: r => D.sm x && D.sms r
end
mutual
theorem sm_py : ∀ (d : D) (p : PyData), d.sm = true → d.py = some p → smp p = true
  | .non, p, _, h => by simp only [D.py] at h; cases h; rfl
  | .bl b, p, _, h => by simp only [D.py] at h; cases h; rfl
  | .int i, p, _, h => by simp only [D.py] at h; cases h; rfl
  | .str x, p, hs, h => by simp only [D.py] at h; cases h; simp only [smp]; simpa [D.sm] using hs
  | .tup xs, p, hs, h => by
    simp only [D.py] at h
    obtain ⟨ps, h1, rfl⟩ := Option.map_eq_some_iff.mp h
    simp only [smp]; exact sms_py xs ps (by simpa [D.sm] using hs) h1
  | .lst xs, p, hs, h => by
    simp only [D.py] at h
    obtain ⟨ps, h1, rfl⟩ := Option.map_eq_some_iff.mp h
    simp only [smp]; exact sms_py xs ps (by simpa [D.sm] using hs) h1
  | .dct _, p, hs, h => by simp [D.sm] at hs
  | .scr _, p, hs, h => by simp [D.sm] at hs
  | .ref _, p, hs, h => by simp [D.sm] at hs
  | .obj _ _, p, hs, h => by simp [D.sm] at hs
theorem sms_py : ∀ (ds : List D) (ps : List PyData), D.sms ds = true → D.pys ds = some ps → smps ps = true
  | [], ps, _, h => by simp only [D.pys] at h; cases h; rfl
  | d :: r, ps, hs, h => by
    simp only [D.sms, Bool.and_eq_true] at hs
    simp only [D.pys] at h
    cases h1 : d.py with
    | none => simp [h1] at h
    | some p =>
      cases h2 : D.pys r with
      | none => simp [h1, h2] at h
      | some qs =>
        simp [h1, h2] at h
        subst h
        simp only [smps, Bool.and_eq_true]
        exact ⟨sm_py d p hs.1 h1, sms_py r qs hs.2 h2⟩
end
end TL
namespace TL
open PySem PySem.Spec PyProof.Rows L2
def t__law_take_r5 : TDS :=
  (dRet (dOp rdMod (dOp rdFdiv (dOp rdAdd (dOp rdMul (dVar 3) (dC (.int 30269))) (dOp rdIx (dVar 0) (dC (.str "seed")))) (dC (.int 4099))) (dVar 1)))
def t__law_take_r4 : TDS :=
  (dSeq (dPutS (dVar 0) (dC (.str "seed")) (dOp rdAdd (dOp rdMod (dOp rdAdd (dVar 3) (dOp rdMul (dC (.int 3)) (dOp rdIx (dVar 0) (dC (.str "seed"))))) (dC (.int 2147483629))) (dC (.int 1))))
  (t__law_take_r5))
def t__law_take_r3 : TDS :=
  (dSeq (dAsg 3 (dOp rdMod (dOp rdMul (dOp rdMod (dOp rdAdd (dOp rdIx (dVar 0) (dC (.str "seed"))) (dOp rdMul (dC (.int 69623)) (dOp rdIx (dVar 0) (dC (.str "turn"))))) (dC (.int 2147483647))) (dC (.int 16807))) (dC (.int 2147483647))))
  (t__law_take_r4))
def t__law_take_r2 : TDS :=
  (dSeq (dPutS (dVar 0) (dC (.str "turn")) (dOp rdAdd (dOp rdIx (dVar 0) (dC (.str "turn"))) (dC (.int 1))))
  (t__law_take_r3))
def t__law_take_r1 : TDS :=
  (dSeq (dIfS (dTst (dOp rdGt (dOp rdIx (dVar 0) (dC (.str "now"))) (dC (.int 0))))
  (dSeq (dAsg 2 (dOp rdMod (dOp rdIx (dVar 0) (dC (.str "now"))) (dVar 1)))
  (dSeq (dPutS (dVar 0) (dC (.str "now")) (dOp rdFdiv (dOp rdIx (dVar 0) (dC (.str "now"))) (dVar 1)))
  (dRet (dVar 2))))
  dNext)
  (t__law_take_r2))
def t__law_take : TDS :=
  (dSeq (dIfS (dAnd (dTst (dOp (rdEq false) (dOp rdIx (dVar 0) (dC (.str "now"))) (dC (.int 0)))) (dTst (dOp rdGt (dCB rdLen (dCons (dOp rdIx (dVar 0) (dC (.str "great"))) dNil)) (dC (.int 0)))))
  (dPutS (dVar 0) (dC (.str "now")) (dMt0 rdPop (dOp rdIx (dVar 0) (dC (.str "great")))))
  dNext)
  (t__law_take_r1))
theorem st__law_take (ds : List D) : startD ["_law_box_here", "_law_many", "_law_digit", "_law_one"] ds = ds.map some ++ List.replicate (4 - ds.length) none := rfl
def t__law_box_b1 : TDS :=
  (dAsg 2 (dOp rdMod (dOp rdAdd (dOp rdAdd (dOp rdMul (dVar 2) (dC (.int 48271))) (dOp rdMod (dCB rdAbs (dCons (dVar 3) dNil)) (dC (.int 2147483629)))) (dC (.int 29))) (dC (.int 2147483647))))
def t__law_box_r3 : TDS :=
  (dRet (dDispM (dpCons (.inr "great") (dUn rdRevM (dVar 4)) (dpCons (.inr "now") (dC (.int 0)) (dpCons (.inr "seed") (dOp rdAdd (dVar 2) (dC (.int 1))) (dpCons (.inr "turn") (dC (.int 0)) dpNil))))))
def t__law_box_r2 : TDS :=
  (dSeq (dAsg 4 (dLc (dIt (dSl (dVar 0) (dPart (dVar 1)) (dPart (dC (.int 50))))) (gNm 3) (dTst (dOp rdGe (dCB rdAbs (dCons (dVar 3) dNil)) (dOp rdPow (dC (.int 10)) (dC (.int 18))))) (dCB rdAbs (dCons (dVar 3) dNil)) [3]))
  (t__law_box_r3))
def t__law_box_r1 : TDS :=
  (dSeq (dFor (dIt (dSl (dVar 0) dNoPart (dPart (dC (.int 50))))) (gNm 3)
  (t__law_box_b1))
  (t__law_box_r2))
def t__law_box : TDS :=
  (dSeq (dAsg 2 (dOp rdAdd (dC (.int 9001)) (dOp rdMul (dC (.int 307)) (dVar 1))))
  (t__law_box_r1))
theorem st__law_box (ds : List D) : startD ["_law_script", "_law_base", "_law_seed", "_law_cell", "_law_great"] ds = ds.map some ++ List.replicate (5 - ds.length) none := rfl
/-! the box's keys -/
section
variable {a b c d e : D}
theorem bx1 : getK [(.inr "great", a), (.inr "now", b), (.inr "seed", c), (.inr "turn", d)] (.inr "great") = some a := by rfl
theorem bx2 : getK [(.inr "great", a), (.inr "now", b), (.inr "seed", c), (.inr "turn", d)] (.inr "now") = some b := by rfl
theorem bx3 : getK [(.inr "great", a), (.inr "now", b), (.inr "seed", c), (.inr "turn", d)] (.inr "seed") = some c := by rfl
theorem bx4 : getK [(.inr "great", a), (.inr "now", b), (.inr "seed", c), (.inr "turn", d)] (.inr "turn") = some d := by rfl
theorem by2 : setK [(.inr "great", a), (.inr "now", b), (.inr "seed", c), (.inr "turn", d)] (.inr "now") e = [(.inr "great", a), (.inr "now", e), (.inr "seed", c), (.inr "turn", d)] := by rfl
theorem by3 : setK [(.inr "great", a), (.inr "now", b), (.inr "seed", c), (.inr "turn", d)] (.inr "seed") e = [(.inr "great", a), (.inr "now", b), (.inr "seed", e), (.inr "turn", d)] := by rfl
theorem by4 : setK [(.inr "great", a), (.inr "now", b), (.inr "seed", c), (.inr "turn", d)] (.inr "turn") e = [(.inr "great", a), (.inr "now", b), (.inr "seed", c), (.inr "turn", e)] := by rfl
end
theorem rd_take {n m : Nat} {gs : List Int} {now seed turn many : Int} {st : Sto} {Q : QD} (h1 : 0 < many) (h2 : many < 1073741824) (hmn : m ≠ n) (hn : st n = some (boxD m now seed turn)) (hm : st m = some (.lst (gs.map D.int)))
    (q : ∀ (r : Int) (gs' : List Int) (now' seed' turn' : Int), 0 ≤ r → r < many → Q (.int r) (sup (sup st m (.lst (gs'.map D.int))) n (boxD m now' seed' turn'))) :
    t__law_take (ends Q) [some (.ref n), some (.int many), none, none] st := by
  -- behind the first if: the box, whatever stands in it
  have rest : ∀ (gs : List Int) (now : Int) (st : Sto), st n = some (boxD m now seed turn) → st m = some (.lst (gs.map D.int)) → (∀ (r : Int) (now' seed' turn' : Int), 0 ≤ r → r < many → Q (.int r) (sup st n (boxD m now' seed' turn'))) →
    t__law_take_r1 (ends Q) [some (.ref n), some (.int many), none, none] st := by
    intro gs now st hn hm q
    simp only [t__law_take_r1, t__law_take_r2, t__law_take_r3, t__law_take_r4, t__law_take_r5, dFldS, dMeth, dMethK, dCallK, spK, dCallO, dJoined, djCons, djNil, dFmt, dDnew, dDnewM, rdFld, rdStrO, rdStr, dSeq, dAsg, dVar, dC, dCall, dCons, dNil, dOp, dUn, dTup, dLst, dLstM, dRet, dRetN, dNext, dDrop, dIfS, dTst, dAnd, dOr, dNot, dAndV, dOrV, dNotV, dIf, dPar, dPar3, dAsgG, gNm, gTp, gsCons, gsNil, dCB, dMt, dMt0, dSl, dPart, dNoPart, dKGet, dGet2, dDisp, dDispM, dpCons, dpNil, dFrz, dYes, rdSub, rdFdiv, rdMod, rdPow, rdLt, rdLe, rdGt, rdGe, rdAbs, rdMax, rdMin, rdI, rdI1, rdI2, rdNeg, rdInt, List.set_cons_zero, List.set_cons_succ, List.getElem?_cons_zero, List.getElem?_cons_succ, dPutS_nf, rdIx_nf, rdAdd, rdMul, look, hn, boxD, keyOf, bx1, bx2, bx3, bx4, by2, by3, by4, onS_some, sup_same, sup_sup, true_and]
    have s4 : ([(Sum.inr "great", D.ref m), (Sum.inr "now", D.int now), (Sum.inr "seed", D.int seed), (Sum.inr "turn", D.int turn)] : List (Key × D)).length < sizeLine := small1000 (by show 4 ≤ 1000; decide)
    have m1 : CMul 69623 (turn + 1) := .inl (by decide)
    have m2 : ∀ a, CMul a 16807 := fun a => .inr (by decide)
    have m3 : ∀ a, CMul a 30269 := fun a => .inr (by decide)
    have m4 : CMul 3 seed := .inl (by decide)
    split
    · exact ⟨h1, ⟨h1, h2⟩, s4, sb (q _ _ _ _ (Int.emod_nonneg _ (by omega)) (Int.emod_lt_of_pos _ h1))⟩
    · exact ⟨s4, m1, by decide, m2 _, by decide, m4, by decide, s4, m3 _, ⟨by decide, by decide⟩, h1, sb (q _ _ _ _ (Int.emod_nonneg _ (by omega)) (Int.emod_lt_of_pos _ h1))⟩
  simp only [t__law_take, dFldS, dMeth, dMethK, dCallK, spK, dCallO, dJoined, djCons, djNil, dFmt, dDnew, dDnewM, rdFld, rdStrO, rdStr, dSeq, dAsg, dVar, dC, dCall, dCons, dNil, dOp, dUn, dTup, dLst, dLstM, dRet, dRetN, dNext, dDrop, dIfS, dTst, dAnd, dOr, dNot, dAndV, dOrV, dNotV, dIf, dPar, dPar3, dAsgG, gNm, gTp, gsCons, gsNil, dCB, dMt, dMt0, dSl, dPart, dNoPart, dKGet, dGet2, dDisp, dDispM, dpCons, dpNil, dFrz, dYes, rdSub, rdFdiv, rdMod, rdPow, rdLt, rdLe, rdGt, rdGe, rdAbs, rdMax, rdMin, rdI, rdI1, rdI2, rdNeg, rdInt, List.set_cons_zero, List.set_cons_succ, List.getElem?_cons_zero, List.getElem?_cons_succ, dPutS_nf, rdIx_nf, rdEq, rdLen, look, hn, hm, boxD, keyOf, bx1, bx2, onS_some, true_and]
  have r0 := rest gs now st hn hm fun r now' seed' turn' a b => by
    have := q r gs now' seed' turn' a b
    rw [sup_id hm] at this
    exact this
  split
  · split
    · rename_i hnow hlen
      have hg : gs ≠ [] := by rintro rfl; simp at hlen
      refine ⟨isL_ref hm, ?_⟩
      unfold rdPop
      rw [cellL_ref hm]
      refine ⟨.int (gs.getLast hg), ?_, rfl, ?_⟩
      · rw [List.length_map, List.getElem?_map, ← List.getLast?_eq_getElem?, List.getLast?_eq_getLast hg]; rfl
      · have en : sup st m (.lst (gs.map D.int).dropLast) n = some (boxD m now seed turn) := by rw [sup_ne (Ne.symm hmn)]; exact hn
        simp only [en, boxD, by2]
        refine ⟨small1000 (by show 4 ≤ 1000; decide), ?_⟩
        rw [← List.map_dropLast]
        refine rest gs.dropLast (gs.getLast hg) _ sup_same (by rw [sup_ne hmn, sup_same]) fun r now' seed' turn' a b => ?_
        rw [sup_sup]
        exact q r gs.dropLast now' seed' turn' a b
    · exact r0
  · exact r0
/-! ### _law_box -/
theorem ints_items (ns : List Int) : ∀ lo hi, cutD (ns.map D.int) lo hi = (cutD ns lo hi).map D.int := fun lo hi => by
  unfold cutD
  simp [List.map_drop, List.map_take]
theorem box_loop {s b : D} {st : Sto} {R : DEnds} : ∀ (ns : List Int) (seed : Int) (c : Option D) (e : Option D), (∀ seed c e, R.nx [some s, some b, some (.int seed), c, e] st) →
    dLoop (gNm 3) t__law_box_b1 R (ns.map D.int) [some s, some b, some (.int seed), c, e] st
  | [], seed, c, e, h => h seed c e
  | n :: ns, seed, c, e, h => by
    simp only [List.map_cons, dLoop, t__law_box_b1, dFldS, dMeth, dMethK, dCallK, spK, dCallO, dJoined, djCons, djNil, dFmt, dDnew, dDnewM, rdFld, rdStrO, rdStr, dSeq, dAsg, dVar, dC, dCall, dCons, dNil, dOp, dUn, dTup, dLst, dLstM, dRet, dRetN, dNext, dDrop, dIfS, dTst, dAnd, dOr, dNot, dAndV, dOrV, dNotV, dIf, dPar, dPar3, dAsgG, gNm, gTp, gsCons, gsNil, dCB, dMt, dMt0, dSl, dPart, dNoPart, dKGet, dGet2, dDisp, dDispM, dpCons, dpNil, dFrz, dYes, rdSub, rdFdiv, rdMod, rdPow, rdLt, rdLe, rdGt, rdGe, rdAbs, rdMax, rdMin, rdI, rdI1, rdI2, rdNeg, rdInt, List.set_cons_zero, List.set_cons_succ, List.getElem?_cons_zero, List.getElem?_cons_succ, rdAdd, rdMul, look]
    exact ⟨.inr (by decide), by decide, by decide, box_loop ns _ _ _ h⟩
theorem box_comp {st : Sto} {env : DSt} {Q : List D → Sto → Prop} (hl : env.length = 5) : ∀ (ns acc : List Int), (∀ gs : List Int, Q (gs.map D.int) st) → ns.length + acc.length < 1000 →
    dLcGo (gNm 3) (dTst (dOp rdGe (dCB rdAbs (dCons (dVar 3) dNil)) (dOp rdPow (dC (.int 10)) (dC (.int 18))))) (dCB rdAbs (dCons (dVar 3) dNil)) env (ns.map D.int) (acc.map D.int) st Q
  | [], acc, h, _ => h acc
  | n :: ns, acc, h, hz => by
    have e3 : ∀ d : D, (env.set 3 (some d))[3]? = some (some d) := fun d => by rw [List.getElem?_set_self (by omega)]
    have hz' : ns.length + acc.length < 1000 := by rw [List.length_cons] at hz; omega
    simp only [List.map_cons, dLcGo, dFldS, dMeth, dMethK, dCallK, spK, dCallO, dJoined, djCons, djNil, dFmt, dDnew, dDnewM, rdFld, rdStrO, rdStr, dSeq, dAsg, dVar, dC, dCall, dCons, dNil, dOp, dUn, dTup, dLst, dLstM, dRet, dRetN, dNext, dDrop, dIfS, dTst, dAnd, dOr, dNot, dAndV, dOrV, dNotV, dIf, dPar, dPar3, dAsgG, gNm, gTp, gsCons, gsNil, dCB, dMt, dMt0, dSl, dPart, dNoPart, dKGet, dGet2, dDisp, dDispM, dpCons, dpNil, dFrz, dYes, rdSub, rdFdiv, rdMod, rdPow, rdLt, rdLe, rdGt, rdGe, rdAbs, rdMax, rdMin, rdI, rdI1, rdI2, rdNeg, rdInt, List.set_cons_zero, List.set_cons_succ, List.getElem?_cons_zero, List.getElem?_cons_succ, e3, true_and]
    refine ⟨⟨by decide, by decide, by decide⟩, ?_⟩
    have ih1 : ∀ a : Int, (List.map D.int acc).length < sizeLine ∧ dLcGo (gNm 3) (dTst (dOp rdGe (dCB rdAbs (dCons (dVar 3) dNil)) (dOp rdPow (dC (.int 10)) (dC (.int 18))))) (dCB rdAbs (dCons (dVar 3) dNil)) env (ns.map D.int) (acc.map D.int ++ [.int a]) st Q := fun a => by
      refine ⟨small1000 (by rw [List.length_map]; omega), ?_⟩
      have := box_comp hl (Q := Q) ns (acc ++ [a]) h (by rw [List.length_cons] at hz; rw [List.length_append, List.length_singleton]; omega)
      rw [List.map_append] at this
      exact this
    exact ite2 (fun _ => ih1 _) (fun _ => box_comp hl ns acc h hz')
theorem cutD_len {α : Type} (xs : List α) (lo hi : Option Int) : (cutD xs lo hi).length ≤ xs.length := by
  unfold cutD
  rw [List.length_take, List.length_drop]; omega
theorem cut50 {α : Type} (xs : List α) (lo : Option Int) : (cutD xs lo (some 50)).length ≤ 50 := by
  unfold cutD
  rw [List.length_take, List.length_drop]
  have : HT.sIx xs.length xs.length (some 50) ≤ 50 := by unfold HT.sIx; simp; omega
  omega
theorem rd_box {ns : List Int} {base : Int} {st : Sto} {Q : QD} (q : ∀ (n m : Nat) (gs : List Int) (now seed turn : Int), st n = none → st m = none → m ≠ n → Q (.ref n) (sup (sup st m (.lst (gs.map D.int))) n (boxD m now seed turn))) :
    t__law_box (ends Q) [some (.scr ns), some (.int base), none, none, none] st := by
  simp only [t__law_box, t__law_box_r1, dFldS, dMeth, dMethK, dCallK, spK, dCallO, dJoined, djCons, djNil, dFmt, dDnew, dDnewM, rdFld, rdStrO, rdStr, dSeq, dAsg, dVar, dC, dCall, dCons, dNil, dOp, dUn, dTup, dLst, dLstM, dRet, dRetN, dNext, dDrop, dIfS, dTst, dAnd, dOr, dNot, dAndV, dOrV, dNotV, dIf, dPar, dPar3, dAsgG, gNm, gTp, gsCons, gsNil, dCB, dMt, dMt0, dSl, dPart, dNoPart, dKGet, dGet2, dDisp, dDispM, dpCons, dpNil, dFrz, dYes, rdSub, rdFdiv, rdMod, rdPow, rdLt, rdLe, rdGt, rdGe, rdAbs, rdMax, rdMin, rdI, rdI1, rdI2, rdNeg, rdInt, List.set_cons_zero, List.set_cons_succ, List.getElem?_cons_zero, List.getElem?_cons_succ, rdAdd, rdMul, look, dFor, dIt, rdSl, itemsOf, ints_items]
  refine ⟨.inl (by decide), box_loop _ _ _ _ fun seed c e => ?_⟩
  simp only [t__law_box_r2, dFldS, dMeth, dMethK, dCallK, spK, dCallO, dJoined, djCons, djNil, dFmt, dDnew, dDnewM, rdFld, rdStrO, rdStr, dSeq, dAsg, dVar, dC, dCall, dCons, dNil, dOp, dUn, dTup, dLst, dLstM, dRet, dRetN, dNext, dDrop, dIfS, dTst, dAnd, dOr, dNot, dAndV, dOrV, dNotV, dIf, dPar, dPar3, dAsgG, gNm, gTp, gsCons, gsNil, dCB, dMt, dMt0, dSl, dPart, dNoPart, dKGet, dGet2, dDisp, dDispM, dpCons, dpNil, dFrz, dYes, rdSub, rdFdiv, rdMod, rdPow, rdLt, rdLe, rdGt, rdGe, rdAbs, rdMax, rdMin, rdI, rdI1, rdI2, rdNeg, rdInt, List.set_cons_zero, List.set_cons_succ, List.getElem?_cons_zero, List.getElem?_cons_succ, look, rdSl, itemsOf, ints_items, dLc, dIt]
  have := box_comp (st := st) (env := wipeD [some (.scr ns), some (.int base), some (.int seed), c, e] [3]) (Q := fun out st2 => t__law_box_r3 (ends Q) [some (.scr ns), some (.int base), some (.int seed), c, some (.lst out)] st2) (wipeD_len _ _) (cutD ns (some base) (some 50)) []
  refine this (fun gs => ?_) (by rw [List.length_nil]; have := cut50 ns (some base); omega)
  simp only [t__law_box_r3, dFldS, dMeth, dMethK, dCallK, spK, dCallO, dJoined, djCons, djNil, dFmt, dDnew, dDnewM, rdFld, rdStrO, rdStr, dSeq, dAsg, dVar, dC, dCall, dCons, dNil, dOp, dUn, dTup, dLst, dLstM, dRet, dRetN, dNext, dDrop, dIfS, dTst, dAnd, dOr, dNot, dAndV, dOrV, dNotV, dIf, dPar, dPar3, dAsgG, gNm, gTp, gsCons, gsNil, dCB, dMt, dMt0, dSl, dPart, dNoPart, dKGet, dGet2, dDisp, dDispM, dpCons, dpNil, dFrz, dYes, rdSub, rdFdiv, rdMod, rdPow, rdLt, rdLe, rdGt, rdGe, rdAbs, rdMax, rdMin, rdI, rdI1, rdI2, rdNeg, rdInt, List.set_cons_zero, List.set_cons_succ, List.getElem?_cons_zero, List.getElem?_cons_succ, rdRevM, rdAdd, look]
  intro m hm
  refine ⟨by show 4 ≤ 15; decide, fun n hn => ?_⟩
  have hmn : m ≠ n := by rintro rfl; rw [sup_same] at hn; cases hn
  rw [sup_ne (Ne.symm hmn)] at hn
  have := q n m gs.reverse 0 (seed + 1) 0 hn hm hmn
  rw [List.map_reverse] at this
  exact sb this
end TL
namespace TL
open PySem PySem.Spec PyProof.Rows L2
def t__law_pick (_law_take : DSp) : TDS :=
  (dRet (dOp rdIx (dVar 1) (dCall _law_take (dCons (dVar 0) (dCons (dCB rdLen (dCons (dVar 1) dNil)) dNil)))))
theorem st__law_pick (ds : List D) : startD ["_law_box_here", "_law_items"] ds = ds.map some ++ List.replicate (2 - ds.length) none := rfl
/-! ### _law_pick, _law_mixed -/
/-- the items of what may be picked from -/
def spPick : DSp := fun ds st Q _ => ∃ n d xs, ds = [.ref n, d] ∧ st n = some .box ∧ seqOf st d = some xs ∧ xs ≠ [] ∧ xs.length < 1073741824 ∧ ∀ x ∈ xs, Q x st
theorem atI_nat {α : Type} {xs : List α} {i : Int} (h0 : 0 ≤ i) (h1 : i < xs.length) : ∃ x ∈ xs, atI xs i = some x := by
  unfold atI ixN
  rw [if_pos h0, if_pos h1]
  obtain ⟨k, rfl⟩ := Int.eq_ofNat_of_zero_le h0
  have hk : k < xs.length := by omega
  refine ⟨xs[k], List.getElem_mem hk, ?_⟩
  show xs[(Int.ofNat k).toNat]? = _
  exact List.getElem?_eq_getElem hk
theorem rd_pick {n : Nat} {d : D} {xs : List D} {st : Sto} {Q : QD} (hn : st n = some .box) (hs : seqOf st d = some xs) (hne : xs ≠ []) (hz : xs.length < 1073741824) (q : ∀ x ∈ xs, Q x st) : t__law_pick spTake (ends Q) [some (.ref n), some d] st := by
  have hp : 0 < xs.length := List.length_pos_iff.mpr hne
  have key : ∀ (r : Int), 0 ≤ r → r < xs.length → rdIx d (.int r) st (fun d st => ∃ st', Sub st' st ∧ Q d st') := fun r r0 r1 => by
    obtain ⟨x, hx, ex⟩ := atI_nat r0 r1
    rw [rdIx_nf]
    unfold seqOf at hs
    split at hs
    · rename_i ds e
      cases hs
      simp only [e, ex, onS_some]
      exact sb (q x hx)
    · rename_i ds e
      cases hs
      simp only [e, ex, onS_some]
      exact sb (q x hx)
    · rename_i z e
      split at hs
      · rename_i hz1
        cases hs
        simp only [e]
        refine ⟨hz1, ?_⟩
        unfold signsD at ex hx r1
        rw [List.length_map] at r1
        obtain ⟨c, hc, ec⟩ := atI_nat (xs := z.cps.toList) r0 r1
        rw [ec, onS_some]
        exact sb (q _ (List.mem_map.mpr ⟨c, hc, rfl⟩))
      · cases hs
    · cases hs
  simp only [t__law_pick, dFldS, dMeth, dMethK, dCallK, spK, dCallO, dJoined, djCons, djNil, dFmt, dDnew, dDnewM, rdFld, rdStrO, rdStr, dSeq, dAsg, dVar, dC, dCall, dCons, dNil, dOp, dUn, dTup, dLst, dLstM, dRet, dRetN, dNext, dDrop, dIfS, dTst, dAnd, dOr, dNot, dAndV, dOrV, dNotV, dIf, dPar, dPar3, dAsgG, gNm, gTp, gsCons, gsNil, dCB, dMt, dMt0, dSl, dPart, dNoPart, dKGet, dGet2, dDisp, dDispM, dpCons, dpNil, dFrz, dYes, rdSub, rdFdiv, rdMod, rdPow, rdLt, rdLe, rdGt, rdGe, rdAbs, rdMax, rdMin, rdI, rdI1, rdI2, rdNeg, rdInt, List.set_cons_zero, List.set_cons_succ, List.getElem?_cons_zero, List.getElem?_cons_succ, rdLen]
  unfold seqOf at hs
  split at hs
  · rename_i ds e
    cases hs
    try simp only [e]
    exact ⟨n, _, rfl, by omega, by omega, hn, fun r r0 r1 => key r r0 r1⟩
  · rename_i ds e
    cases hs
    try simp only [e]
    exact ⟨n, _, rfl, by omega, by omega, hn, fun r r0 r1 => key r r0 r1⟩
  · rename_i z e
    split at hs
    · rename_i hz'
      cases hs
      try simp only [e]
      have el : z.length = (signsD z).length := by unfold signsD; rw [List.length_map]; rfl
      exact ⟨hz', n, _, rfl, by rw [el]; omega, by rw [el]; omega, hn, fun r r0 r1 => key r r0 (by rw [el] at r1; exact r1)⟩
    · cases hs
  · cases hs
end TL
namespace TL
open PySem PySem.Spec PyProof.Rows L2
def t__law_mixed_b1 (_law_take : DSp) : TDS :=
  (dDrop (dMt rdAppend (dVar 3) (dCons (dMt rdPopAt (dVar 2) (dCons (dCall _law_take (dCons (dVar 0) (dCons (dCB rdLen (dCons (dVar 2) dNil)) dNil))) dNil)) dNil)))
def t__law_mixed_r2 (_law_take : DSp) : TDS :=
  (dRet (dFrz (dVar 3)))
def t__law_mixed_r1 (_law_take : DSp) : TDS :=
  (dSeq (dFor (dRg1 (dCB rdLen (dCons (dVar 2) dNil))) (gNm 4)
  (t__law_mixed_b1 _law_take))
  (t__law_mixed_r2 _law_take))
def t__law_mixed (_law_take : DSp) : TDS :=
  (dSeq (dPar 2 3 (dCons (dCB rdListM (dCons (dVar 1) dNil)) (dCons (dLstM dNil) dNil)))
  (t__law_mixed_r1 _law_take))
theorem st__law_mixed (ds : List D) : startD ["_law_box_here", "_law_items", "_law_left", "_law_found", "_law_turn"] ds = ds.map some ++ List.replicate (5 - ds.length) none := rfl
def spMixed : DSp := fun ds st Q _ => ∃ n d xs, ds = [.ref n, d] ∧ st n = some .box ∧ seqOf st d = some xs ∧ xs.length < 1000000 ∧ ∀ ys, ys.Perm xs → Q (.lst ys) st
theorem era_perm {α : Type} : ∀ (xs : List α) (i : Nat) (h : i < xs.length), ([xs[i]] ++ xs.eraseIdx i).Perm xs
  | [], _, h => absurd h (Nat.not_lt_zero _)
  | x :: xs, 0, _ => List.Perm.refl _
  | x :: xs, i + 1, h => by
    have ih := era_perm xs i (by simpa using h)
    simp only [List.getElem_cons_succ, List.eraseIdx_cons_succ, List.singleton_append] at ih ⊢
    exact (List.Perm.swap _ _ _).trans (ih.cons x)
theorem mixed_loop {n l f : Nat} {R : DEnds} {d : D} {st0 : Sto} (hn : st0 n = some .box) (hl : st0 l = none) (hf : st0 f = none) (hlf : l ≠ f) : ∀ (k : Nat) (i : Int) (xs ys : List D) (c : Option D), xs.length = k → k + ys.length < 1000000 →
    (∀ zs c, zs.Perm (ys ++ xs) → R.nx [some (.ref n), some d, some (.ref l), some (.ref f), c] (sup (sup st0 l (.lst [])) f (.lst zs))) →
    dLoop (gNm 4) (t__law_mixed_b1 spTake) R (rangeD i k) [some (.ref n), some d, some (.ref l), some (.ref f), c] (sup (sup st0 l (.lst xs)) f (.lst ys))
  | 0, i, xs, ys, c, hk, _, h => by
    cases xs with
    | nil => exact h ys c (by rw [List.append_nil])
    | cons _ _ => cases hk
  | k + 1, i, xs, ys, c, hk, hz, h => by
    have nl : n ≠ l := by rintro rfl; rw [hn] at hl; cases hl
    have nf : n ≠ f := by rintro rfl; rw [hn] at hf; cases hf
    have el : sup (sup st0 l (.lst xs)) f (.lst ys) l = some (.lst xs) := by rw [sup_ne hlf, sup_same]
    simp only [rangeD_succ, dLoop, t__law_mixed_b1, dFldS, dMeth, dMethK, dCallK, spK, dCallO, dJoined, djCons, djNil, dFmt, dDnew, dDnewM, rdFld, rdStrO, rdStr, dSeq, dAsg, dVar, dC, dCall, dCons, dNil, dOp, dUn, dTup, dLst, dLstM, dRet, dRetN, dNext, dDrop, dIfS, dTst, dAnd, dOr, dNot, dAndV, dOrV, dNotV, dIf, dPar, dPar3, dAsgG, gNm, gTp, gsCons, gsNil, dCB, dMt, dMt0, dSl, dPart, dNoPart, dKGet, dGet2, dDisp, dDispM, dpCons, dpNil, dFrz, dYes, rdSub, rdFdiv, rdMod, rdPow, rdLt, rdLe, rdGt, rdGe, rdAbs, rdMax, rdMin, rdI, rdI1, rdI2, rdNeg, rdInt, List.set_cons_zero, List.set_cons_succ, List.getElem?_cons_zero, List.getElem?_cons_succ, rdLen, look_lst el]
    refine ⟨isL_ref sup_same, isL_ref el, n, _, rfl, by omega, by omega, by rw [sup_ne nf, sup_ne nl]; exact hn, fun r r0 r1 => ?_⟩
    have hr : r.toNat < xs.length := by omega
    refine popAt_of el r0 (by omega) (List.getElem?_eq_getElem hr) ?_
    refine append_of (xs := ys) (by rw [sup_ne (Ne.symm hlf), sup_same]) (by rw [sizeLine_eq]; omega) ?_
    have e : sup (sup (sup (sup st0 l (.lst xs)) f (.lst ys)) l (.lst (xs.eraseIdx r.toNat))) f (.lst (ys ++ [xs[r.toNat]])) = sup (sup st0 l (.lst (xs.eraseIdx r.toNat))) f (.lst (ys ++ [xs[r.toNat]])) := by
      rw [sup_comm (n := f) (m := l) (Ne.symm hlf), sup_sup, sup_sup]
    rw [e]
    refine mixed_loop hn hl hf hlf k _ _ _ _ (by rw [List.length_eraseIdx_of_lt hr]; omega) (by rw [List.length_append, List.length_singleton]; omega) fun zs c p => h zs c (p.trans ?_)
    rw [List.append_assoc]
    refine List.Perm.append_left ys ?_
    exact era_perm xs r.toNat hr
theorem rd_mixed {n : Nat} {d : D} {xs : List D} {st : Sto} {Q : QD} (hn : st n = some .box) (hs : seqOf st d = some xs) (hz : xs.length < 1000000) (q : ∀ ys, ys.Perm xs → Q (.lst ys) st) : t__law_mixed spTake (ends Q) [some (.ref n), some d, none, none, none] st := by
  simp only [t__law_mixed, dFldS, dMeth, dMethK, dCallK, spK, dCallO, dJoined, djCons, djNil, dFmt, dDnew, dDnewM, rdFld, rdStrO, rdStr, dSeq, dAsg, dVar, dC, dCall, dCons, dNil, dOp, dUn, dTup, dLst, dLstM, dRet, dRetN, dNext, dDrop, dIfS, dTst, dAnd, dOr, dNot, dAndV, dOrV, dNotV, dIf, dPar, dPar3, dAsgG, gNm, gTp, gsCons, gsNil, dCB, dMt, dMt0, dSl, dPart, dNoPart, dKGet, dGet2, dDisp, dDispM, dpCons, dpNil, dFrz, dYes, rdSub, rdFdiv, rdMod, rdPow, rdLt, rdLe, rdGt, rdGe, rdAbs, rdMax, rdMin, rdI, rdI1, rdI2, rdNeg, rdInt, List.set_cons_zero, List.set_cons_succ, List.getElem?_cons_zero, List.getElem?_cons_succ, rdListM, hs]
  intro l hl
  refine ⟨Nat.zero_le _, fun f hf => ?_⟩
  have hlf : l ≠ f := by rintro rfl; rw [sup_same] at hf; cases hf
  rw [sup_ne (Ne.symm hlf)] at hf
  have el : sup (sup st l (.lst xs)) f (.lst []) l = some (.lst xs) := by rw [sup_ne hlf, sup_same]
  simp only [t__law_mixed_r1, dFldS, dMeth, dMethK, dCallK, spK, dCallO, dJoined, djCons, djNil, dFmt, dDnew, dDnewM, rdFld, rdStrO, rdStr, dSeq, dAsg, dVar, dC, dCall, dCons, dNil, dOp, dUn, dTup, dLst, dLstM, dRet, dRetN, dNext, dDrop, dIfS, dTst, dAnd, dOr, dNot, dAndV, dOrV, dNotV, dIf, dPar, dPar3, dAsgG, gNm, gTp, gsCons, gsNil, dCB, dMt, dMt0, dSl, dPart, dNoPart, dKGet, dGet2, dDisp, dDispM, dpCons, dpNil, dFrz, dYes, rdSub, rdFdiv, rdMod, rdPow, rdLt, rdLe, rdGt, rdGe, rdAbs, rdMax, rdMin, rdI, rdI1, rdI2, rdNeg, rdInt, List.set_cons_zero, List.set_cons_succ, List.getElem?_cons_zero, List.getElem?_cons_succ, dFor, dRg1, rdLen, look_lst el]
  refine ⟨⟨by omega, by omega⟩, ?_⟩
  refine mixed_loop hn hl hf hlf _ _ xs [] _ (by omega) (by rw [List.length_nil]; omega) fun zs c p => ?_
  simp only [t__law_mixed_r2, dFldS, dMeth, dMethK, dCallK, spK, dCallO, dJoined, djCons, djNil, dFmt, dDnew, dDnewM, rdFld, rdStrO, rdStr, dSeq, dAsg, dVar, dC, dCall, dCons, dNil, dOp, dUn, dTup, dLst, dLstM, dRet, dRetN, dNext, dDrop, dIfS, dTst, dAnd, dOr, dNot, dAndV, dOrV, dNotV, dIf, dPar, dPar3, dAsgG, gNm, gTp, gsCons, gsNil, dCB, dMt, dMt0, dSl, dPart, dNoPart, dKGet, dGet2, dDisp, dDispM, dpCons, dpNil, dFrz, dYes, rdSub, rdFdiv, rdMod, rdPow, rdLt, rdLe, rdGt, rdGe, rdAbs, rdMax, rdMin, rdI, rdI1, rdI2, rdNeg, rdInt, List.set_cons_zero, List.set_cons_succ, List.getElem?_cons_zero, List.getElem?_cons_succ, frz, sup_same]
  refine ⟨st, Sub.del (Sub.upd (Sub.new hl) hf) hf, q zs (by simpa using p)⟩
end TL
namespace TL
open PySem PySem.Spec PyProof.Rows L2
def t__law_names_r8 (_law_take : DSp) (_law_mixed : DSp) : TDS :=
  (dRet (dCall _law_mixed (dCons (dVar 0) (dCons (dSl (dVar 3) dNoPart (dPart (dVar 1))) dNil))))
def t__law_names_r7 (_law_take : DSp) (_law_mixed : DSp) : TDS :=
  (dSeq (dAsg 3 (dLc (dEn (dVar 3)) (gTp 2 (gsCons (gNm 8) (gsCons (gNm 9) gsNil))) (dAnd (dTst (dOp (rdIn true) (dVar 9) (dVar 7))) (dTst (dOp (rdIn true) (dVar 9) (dSl (dVar 3) dNoPart (dPart (dVar 8)))))) (dVar 9) [8, 9]))
  (t__law_names_r8 _law_take _law_mixed))
def t__law_names_r6 (_law_take : DSp) (_law_mixed : DSp) : TDS :=
  (dSeq (dAsg 7 (dSplit " " (dOp rdAdd (dVar 7) (dC (.str " before after early late wraps")))))
  (t__law_names_r7 _law_take _law_mixed))
def t__law_names_r5 (_law_take : DSp) (_law_mixed : DSp) : TDS :=
  (dSeq (dAsg 7 (dC (.str "if then else not both and either or is none fail ask with giving failing inner unanswered")))
  (t__law_names_r6 _law_take _law_mixed))
def t__law_names_r4 (_law_take : DSp) (_law_mixed : DSp) : TDS :=
  (dSeq (dAsg 3 (dOp rdAdd (dVar 3) (dLc (dIt (dCall _law_mixed (dCons (dVar 0) (dCons (dVar 2) dNil)))) (gNm 10) dYes (dOp rdAdd (dOp rdAdd (dSl (dVar 5) dNoPart (dPart (dVar 6))) (dVar 10)) (dSl (dVar 5) (dPart (dVar 6)) dNoPart)) [10])))
  (t__law_names_r5 _law_take _law_mixed))
def t__law_names_r3 (_law_take : DSp) (_law_mixed : DSp) : TDS :=
  (dSeq (dIfS (dTst (dOp (rdEq false) (dVar 4) (dC (.int 0))))
  (dAsg 3 (dSplit " " (dC (.str "plugin on first each through number word main hook host call size mode text order ring"))))
  dNext)
  (t__law_names_r4 _law_take _law_mixed))
def t__law_names_r2 (_law_take : DSp) (_law_mixed : DSp) : TDS :=
  (dSeq (dAsg 6 (dCall _law_take (dCons (dVar 0) (dCons (dOp rdAdd (dCB rdLen (dCons (dVar 5) dNil)) (dC (.int 1))) dNil))))
  (t__law_names_r3 _law_take _law_mixed))
def t__law_names_r1 (_law_take : DSp) (_law_mixed : DSp) : TDS :=
  (dSeq (dAsg 5 (dJoin "" (dLc (dRg1 (dOp rdIx (dLst (dCons (dC (.int 0)) (dCons (dC (.int 1)) (dCons (dC (.int 3)) (dCons (dC (.int 7)) dNil))))) (dCall _law_take (dCons (dVar 0) (dCons (dC (.int 4)) dNil))))) (gNm 8) dYes (dOp rdIx (dVar 2) (dCall _law_take (dCons (dVar 0) (dCons (dC (.int 26)) dNil)))) [8])))
  (t__law_names_r2 _law_take _law_mixed))
def t__law_names (_law_take : DSp) (_law_mixed : DSp) : TDS :=
  (dSeq (dAsgG (dTup (dCons (dC (.str "abcdefghijklmnopqrstuvwxyz")) (dCons (dLst dNil) (dCons (dCall _law_take (dCons (dVar 0) (dCons (dC (.int 4)) dNil))) dNil)))) (gTp 3 (gsCons (gNm 2) (gsCons (gNm 3) (gsCons (gNm 4) gsNil)))))
  (t__law_names_r1 _law_take _law_mixed))
theorem st__law_names (ds : List D) : startD ["_law_box_here", "_law_many", "_law_letters", "_law_found", "_law_form", "_law_stem", "_law_at", "_law_bad", "_law_k", "_law_name", "_law_letter"] ds = ds.map some ++ List.replicate (11 - ds.length) none := rfl
/-! ### lists without repeats -/
theorem nd_le {α : Type} [DecidableEq α] : ∀ (l m : List α), l.Nodup → (∀ x ∈ l, x ∈ m) → l.length ≤ m.length
  | [], m, _, _ => Nat.zero_le _
  | x :: l, m, h, hs => by
    have hx : x ∈ m := hs x (List.mem_cons_self ..)
    obtain ⟨h1, h2⟩ := List.nodup_cons.mp h
    have ih := nd_le l (m.erase x) h2 fun y hy => by
      have hne : y ≠ x := by rintro rfl; exact h1 hy
      exact (List.mem_erase_of_ne hne).mpr (hs y (List.mem_cons_of_mem _ hy))
    have e := List.length_erase_of_mem hx
    have : 0 < m.length := List.length_pos_of_mem hx
    rw [List.length_cons]; omega
theorem nd_split {α : Type} [DecidableEq α] (l b : List α) (h : l.Nodup) : l.length ≤ (l.filter fun x => !b.contains x).length + b.length := by
  have h1 : (l.filter fun x => b.contains x).length ≤ b.length := nd_le _ _ (h.filter _) fun x hx => by simpa using (List.mem_filter.mp hx).2
  have h2 : ∀ m : List α, m.length = (m.filter fun x => b.contains x).length + (m.filter fun x => !b.contains x).length := fun m => by
    induction m with
    | nil => rfl
    | cons x r ih =>
      by_cases c : b.contains x = true
      · simp only [List.filter_cons, c, if_true, Bool.not_true, Bool.false_eq_true, if_false, List.length_cons]; omega
      · simp only [Bool.not_eq_true] at c
        simp only [List.filter_cons, c, Bool.false_eq_true, if_false, Bool.not_false, if_true, List.length_cons]; omega
  have := h2 l
  omega
/-- the first of each that is not in b -/
def dd (b seen : List Str) : List Str → List Str
  | [] => []
  | x :: r => if b.contains x || seen.contains x then dd b (seen ++ [x]) r else x :: dd b (seen ++ [x]) r
theorem dd_mem (b : List Str) : ∀ (l seen : List Str) (x : Str), x ∈ dd b seen l → x ∈ l ∧ x ∉ b ∧ x ∉ seen
  | [], seen, x, h => by simp [dd] at h
  | y :: r, seen, x, h => by
    unfold dd at h
    split at h
    · obtain ⟨h1, h2, h3⟩ := dd_mem b r _ x h
      exact ⟨List.mem_cons_of_mem _ h1, h2, fun z => h3 (List.mem_append_left _ z)⟩
    · rename_i c
      simp only [Bool.or_eq_true, List.contains_iff_mem, not_or] at c
      rcases List.mem_cons.mp h with rfl | h
      · exact ⟨List.mem_cons_self .., c.1, c.2⟩
      · obtain ⟨h1, h2, h3⟩ := dd_mem b r _ x h
        exact ⟨List.mem_cons_of_mem _ h1, h2, fun z => h3 (List.mem_append_left _ z)⟩
theorem dd_nodup (b : List Str) : ∀ (l seen : List Str), (dd b seen l).Nodup
  | [], seen => by simp [dd]
  | y :: r, seen => by
    unfold dd
    split
    · exact dd_nodup b r _
    · refine List.nodup_cons.mpr ⟨fun z => ?_, dd_nodup b r _⟩
      exact (dd_mem b r _ y z).2.2 (List.mem_append_right _ (List.mem_singleton.mpr rfl))
theorem dd_all (b : List Str) : ∀ (l seen : List Str) (x : Str), x ∈ l → x ∉ b → x ∉ seen → x ∈ dd b seen l
  | [], seen, x, h, _, _ => by cases h
  | y :: r, seen, x, h, hb, hs => by
    unfold dd
    by_cases e : x = y
    · subst e
      rw [if_neg (by simp [hb, hs])]
      exact List.mem_cons_self ..
    · have hx : x ∈ r := (List.mem_cons.mp h).resolve_left e
      have ih := dd_all b r (seen ++ [y]) x hx hb (by simp [hs, e])
      split
      · exact ih
      · exact List.mem_cons_of_mem _ ih
/-! ### texts as lists of signs -/
theorem str_ext {x y : Str} (h : x.cps.toList = y.cps.toList) : x = y := by
  cases x; cases y
  simp only at h
  congr 1
  exact Array.toList_inj.mp h
theorem cps_app (x y : Str) : (x ++ y).cps.toList = x.cps.toList ++ y.cps.toList := by rw [Str.cps_append]; simp
theorem len_cps (x : Str) : x.length = x.cps.toList.length := by simp [Str.length]
theorem cut_lo (z : Str) (k : Int) (h0 : 0 ≤ k) (h1 : k ≤ z.length) : (cutS z none (some k)).cps.toList = z.cps.toList.take k.toNat := by
  obtain ⟨n, rfl⟩ := Int.eq_ofNat_of_zero_le h0
  unfold cutS
  rw [HT.sIx_none, HT.sIx_nat]
  simp only [List.drop_zero, Nat.sub_zero, Int.toNat_natCast]
  rw [Nat.min_eq_left (by omega)]
theorem cut_hi (z : Str) (k : Int) (h0 : 0 ≤ k) (h1 : k ≤ z.length) : (cutS z (some k) none).cps.toList = z.cps.toList.drop k.toNat := by
  obtain ⟨n, rfl⟩ := Int.eq_ofNat_of_zero_le h0
  unfold cutS
  rw [HT.sIx_none, HT.sIx_nat]
  simp only [Int.toNat_natCast]
  rw [Nat.min_eq_left (by omega)]
  rw [List.take_of_length_le]
  rw [List.length_drop, len_cps]
  exact Nat.le_refl _
def letters : Str := "abcdefghijklmnopqrstuvwxyz"
def isLow (c : Nat) : Bool := decide (97 ≤ c) && decide (c ≤ 122)
def badW : List Str := ["if", "then", "else", "not", "both", "and", "either", "or", "is", "none", "fail", "ask", "with", "giving", "failing", "inner", "unanswered", "before", "after", "early", "late", "wraps"]
def oneW : List Str := ["plugin", "on", "first", "each", "through", "number", "word", "main", "hook", "host", "call", "size", "mode", "text", "order", "ring"]
/-- a name as _law_names draws it -/
def Nm (x : Str) : Prop := 1 ≤ x.length ∧ x.length ≤ 8 ∧ (∀ c ∈ x.cps.toList, isLow c = true) ∧ x ∉ badW
theorem oneW_split : Txt.split ("plugin on first each through number word main hook host call size mode text order ring" : Str) " " = oneW := by decide +kernel
theorem badW_split : Txt.split (("if then else not both and either or is none fail ask with giving failing inner unanswered" : Str) ++ (" before after early late wraps" : Str)) " " = badW := by decide +kernel
theorem low_okS {x : Str} (h : ∀ c ∈ x.cps.toList, isLow c = true) : okS x = true := by
  unfold okS
  refine List.all_eq_true.mpr fun c hc => ?_
  have := h c hc
  simp only [isLow, Bool.and_eq_true, decide_eq_true_eq] at this
  exact decide_eq_true (by omega)
theorem strs_pys : ∀ (ys : List Str), (∀ y ∈ ys, okS y = true) → D.oks (ys.map D.str) = true ∧ D.dps (ys.map D.str) = 0 ∧ D.pys (ys.map D.str) = some (ys.map PyData.str)
  | [], _ => ⟨by simp [D.oks], by simp [D.dps], by simp [D.pys]⟩
  | y :: r, h => by
    obtain ⟨h1, h2, h3⟩ := strs_pys r fun z hz => h z (List.mem_cons_of_mem _ hz)
    have hy := h y (List.mem_cons_self ..)
    refine ⟨by simp [D.oks, D.ok, hy, h1], by simp [D.dps, D.dp, h2], by simp [D.pys, D.py, h3]⟩
theorem any_eqv (x : Str) : ∀ ys : List Str, ((ys.map PyData.str).any fun z => PyData.eqv z (.str x)) = decide (x ∈ ys)
  | [] => by simp
  | y :: r => by
    rw [List.map_cons, List.any_cons, any_eqv x r]
    have e : PyData.eqv (.str y) (.str x) = (y == x) := by simp [PyData.eqv]
    rw [e]
    by_cases h : y = x
    · subst h; simp
    · have h' : x ≠ y := Ne.symm h
      simp [h, h', List.mem_cons]
theorem in_strs {neg : Bool} {x : Str} {d : D} {ys : List Str} {st : Sto} {Q : QD} (hd : look st d = .lst (ys.map D.str)) (hx : okS x = true) (hy : ∀ y ∈ ys, okS y = true) (q : Q (.bl (decide (x ∈ ys) != neg)) st) : rdIn neg (.str x) d st Q := by
  obtain ⟨h1, h2, h3⟩ := strs_pys ys hy
  obtain ⟨ps, b1, b2, b3, b4, b5⟩ := oks_py _ h1
  rw [h3] at b1; cases b1
  have hs : ∀ p : PyData, p.canLay0 = true → p.depth ≤ 64 → SeqAt.shaped p = true := fun p a b => by unfold SeqAt.shaped; rw [a, Bool.true_and]; exact decide_eq_true b
  have key : ∃ p q, pyv st (.str x) = some p ∧ pyv st d = some q ∧ SeqAt.shaped p = true ∧ SeqAt.shaped q = true ∧ ((∃ ds, q = .list ds ∧ Q (.bl ((ds.any fun z => PyData.eqv z p) != neg)) st) ∨ ∃ ds, q = .tuple ds ∧ Q (.bl ((ds.any fun z => PyData.eqv z p) != neg)) st) :=
    ⟨.str x, .list (ys.map PyData.str), by unfold pyv; simp [look, D.py], by unfold pyv; rw [hd]; simp [D.py, h3], hs _ (by simp [PyData.canLay0, okS_strOk hx]) (by simp [PyData.depth]), hs _ (by simp [PyData.canLay0, b2]) (by simp only [PyData.depth]; omega), .inl ⟨_, rfl, by rw [any_eqv]; exact q⟩⟩
  cases d with
  | str z => simp [look] at hd
  | _ => exact key
theorem strsOf_map : ∀ ys : List Str, strsOf (ys.map D.str) = some ys
  | [] => rfl
  | y :: r => by simp [strsOf, strsOf_map r]
theorem join_ones : ∀ cs : List Nat, (Txt.join "" (cs.map fun c => (⟨#[c]⟩ : Str))).cps.toList = cs := by
  intro cs
  have go : ∀ (l : List Nat) (acc : Array Nat), ((l.map fun c => (⟨#[c]⟩ : Str)).foldl (fun acc p => acc ++ (("" : Str)).cps ++ p.cps) acc).toList = acc.toList ++ l := by
    intro l
    induction l with
    | nil => intro acc; simp
    | cons c r ih =>
      intro acc
      rw [List.map_cons, List.foldl_cons, ih]
      have : (("" : Str)).cps = #[] := by decide +kernel
      rw [this]
      simp
  cases cs with
  | nil => rfl
  | cons c r =>
    show (((r.map fun c => (⟨#[c]⟩ : Str)).foldl (fun acc p => acc ++ (("" : Str)).cps ++ p.cps) #[c])).toList = c :: r
    rw [go]; rfl
theorem sum_ones : ∀ cs : List Nat, ((cs.map fun c => (⟨#[c]⟩ : Str)).map (·.length)).sum = cs.length
  | [] => rfl
  | c :: r => by
    rw [List.map_cons, List.map_cons, List.sum_cons, sum_ones r, List.length_cons]
    show 1 + r.length = _
    omega
/-! ### _law_names -/
theorem low_letters : ∀ c ∈ letters.cps.toList, isLow c = true := by decide +kernel
theorem letters_nd : letters.cps.toList.Nodup := by decide +kernel
theorem letters_len : letters.cps.toList.length = 26 := by decide +kernel
/-- the stem: letters, one after the other -/
theorem stem_comp {n : Nat} {env : DSt} {st : Sto} {Q : List D → Sto → Prop} (hn : st n = some .box) (h0 : env[0]? = some (some (.ref n))) (h2 : env[2]? = some (some (.str letters))) : ∀ (k : Nat) (i : Int) (acc : List Nat), (∀ c ∈ acc, isLow c = true) → acc.length + k < 1000 →
    (∀ cs : List Nat, (∀ c ∈ cs, isLow c = true) → cs.length = acc.length + k → Q (cs.map fun c => .str ⟨#[c]⟩) st) →
    dLcGo (gNm 8) dYes (dOp rdIx (dVar 2) (dCall spTake (dCons (dVar 0) (dCons (dC (.int 26)) dNil)))) env (rangeD i k) (acc.map fun c => .str ⟨#[c]⟩) st Q
  | 0, i, acc, ha, _, h => h acc ha rfl
  | k + 1, i, acc, ha, hz, h => by
    have e0 : ∀ d : D, (env.set 8 (some d))[0]? = some (some (.ref n)) := fun d => by rw [List.getElem?_set_ne (by decide)]; exact h0
    have e2 : ∀ d : D, (env.set 8 (some d))[2]? = some (some (.str letters)) := fun d => by rw [List.getElem?_set_ne (by decide)]; exact h2
    simp only [rangeD_succ, dLcGo, dFldS, dMeth, dMethK, dCallK, spK, dCallO, dJoined, djCons, djNil, dFmt, dDnew, dDnewM, rdFld, rdStrO, rdStr, dSeq, dAsg, dVar, dC, dCall, dCons, dNil, dOp, dUn, dTup, dLst, dLstM, dRet, dRetN, dNext, dDrop, dIfS, dTst, dAnd, dOr, dNot, dAndV, dOrV, dNotV, dIf, dPar, dPar3, dAsgG, gNm, gTp, gsCons, gsNil, dCB, dMt, dMt0, dSl, dPart, dNoPart, dKGet, dGet2, dDisp, dDispM, dpCons, dpNil, dFrz, dYes, rdSub, rdFdiv, rdMod, rdPow, rdLt, rdLe, rdGt, rdGe, rdAbs, rdMax, rdMin, rdI, rdI1, rdI2, rdNeg, rdInt, List.set_cons_zero, List.set_cons_succ, List.getElem?_cons_zero, List.getElem?_cons_succ, e0, e2, if_true]
    refine ⟨n, 26, rfl, by decide, by decide, hn, fun r r0 r1 => ?_⟩
    show rdIx (.str letters) (.int r) st _
    rw [rdIx_nf]
    obtain ⟨c, hc, ec⟩ := atI_nat (xs := letters.cps.toList) r0 (by rw [letters_len]; exact r1)
    simp only [look, ec, onS_some]
    refine ⟨by rw [len_cps, letters_len, sizeLine_eq]; decide, by rw [List.length_map, sizeLine_eq]; omega, ?_⟩
    have := stem_comp hn h0 h2 k (i + 1) (acc ++ [c]) (fun x hx => by
      rcases List.mem_append.mp hx with hx | hx
      · exact ha x hx
      · rw [List.mem_singleton.mp hx]; exact low_letters c hc) (by rw [List.length_append, List.length_singleton]; omega) (fun cs h1 h2 => h cs h1 (by rw [h2, List.length_append, List.length_singleton]; omega))
    rw [List.map_append] at this
    exact this
/-- a word of the stem and a letter -/
def wordOf (stem : Str) (a : Int) (c : Nat) : Str := cutS stem none (some a) ++ ⟨#[c]⟩ ++ cutS stem (some a) none
theorem wordOf_cps {stem : Str} {a : Int} (h0 : 0 ≤ a) (h1 : a ≤ stem.length) (c : Nat) : (wordOf stem a c).cps.toList = stem.cps.toList.take a.toNat ++ [c] ++ stem.cps.toList.drop a.toNat := by
  unfold wordOf
  rw [cps_app, cps_app, cut_lo _ _ h0 h1, cut_hi _ _ h0 h1]
theorem wordOf_inj {stem : Str} {a : Int} (h0 : 0 ≤ a) (h1 : a ≤ stem.length) {c d : Nat} (h : wordOf stem a c = wordOf stem a d) : c = d := by
  have e := congrArg (fun z : Str => z.cps.toList) h
  simp only [wordOf_cps h0 h1, List.append_assoc] at e
  have := List.append_cancel_left e
  simpa using this
theorem wordOf_len {stem : Str} {a : Int} (h0 : 0 ≤ a) (h1 : a ≤ stem.length) (c : Nat) : (wordOf stem a c).length = stem.length + 1 := by
  rw [len_cps, wordOf_cps h0 h1, len_cps]
  simp only [List.length_append, List.length_take, List.length_drop, List.length_singleton]
  rw [len_cps] at h1
  omega
theorem wordOf_low {stem : Str} {a : Int} (h0 : 0 ≤ a) (h1 : a ≤ stem.length) (hs : ∀ c ∈ stem.cps.toList, isLow c = true) {c : Nat} (hc : isLow c = true) : ∀ x ∈ (wordOf stem a c).cps.toList, isLow x = true := fun x hx => by
  rw [wordOf_cps h0 h1] at hx
  simp only [List.mem_append, List.mem_singleton] at hx
  rcases hx with (hx | hx) | hx
  · exact hs x (List.mem_of_mem_take hx)
  · rw [hx]; exact hc
  · exact hs x (List.mem_of_mem_drop hx)
theorem word_comp {env : DSt} {st : Sto} {stem : Str} {a : Int} {Q : List D → Sto → Prop} (hl : env.length = 11) (h5 : env[5]? = some (some (.str stem))) (h6 : env[6]? = some (some (.int a))) (hz : stem.length ≤ 1000) : ∀ (cs : List Nat) (acc : List Str), acc.length + cs.length < 1000 →
    Q ((acc ++ cs.map (wordOf stem a)).map D.str) st →
    dLcGo (gNm 10) dYes (dOp rdAdd (dOp rdAdd (dSl (dVar 5) dNoPart (dPart (dVar 6))) (dVar 10)) (dSl (dVar 5) (dPart (dVar 6)) dNoPart)) env (cs.map fun c => .str ⟨#[c]⟩) (acc.map D.str) st Q
  | [], acc, _, h => by simpa [dLcGo] using h
  | c :: cs, acc, hz2, h => by
    have e5 : ∀ d : D, (env.set 10 (some d))[5]? = some (some (.str stem)) := fun d => by rw [List.getElem?_set_ne (by decide)]; exact h5
    have e6 : ∀ d : D, (env.set 10 (some d))[6]? = some (some (.int a)) := fun d => by rw [List.getElem?_set_ne (by decide)]; exact h6
    have e10 : ∀ d : D, (env.set 10 (some d))[10]? = some (some d) := fun d => by rw [List.getElem?_set_self (by omega)]
    have hsz : stem.length ≤ sizeLine := by rw [sizeLine_eq]; omega
    have hcl : ∀ lo hi, (cutS stem lo hi).length ≤ 1000 := fun lo hi => by
      rw [len_cps]
      show (((stem.cps.toList.drop _).take _).toArray.toList).length ≤ _
      simp only [List.length_take, List.length_drop]
      rw [len_cps] at hz
      omega
    simp only [List.map_cons, dLcGo, dFldS, dMeth, dMethK, dCallK, spK, dCallO, dJoined, djCons, djNil, dFmt, dDnew, dDnewM, rdFld, rdStrO, rdStr, dSeq, dAsg, dVar, dC, dCall, dCons, dNil, dOp, dUn, dTup, dLst, dLstM, dRet, dRetN, dNext, dDrop, dIfS, dTst, dAnd, dOr, dNot, dAndV, dOrV, dNotV, dIf, dPar, dPar3, dAsgG, gNm, gTp, gsCons, gsNil, dCB, dMt, dMt0, dSl, dPart, dNoPart, dKGet, dGet2, dDisp, dDispM, dpCons, dpNil, dFrz, dYes, rdSub, rdFdiv, rdMod, rdPow, rdLt, rdLe, rdGt, rdGe, rdAbs, rdMax, rdMin, rdI, rdI1, rdI2, rdNeg, rdInt, List.set_cons_zero, List.set_cons_succ, List.getElem?_cons_zero, List.getElem?_cons_succ, e5, e6, e10, rdSl, rdAdd, look, if_true]
    have o1 : ((⟨#[c]⟩ : Str)).length = 1 := rfl
    have q1 := hcl none (some a)
    have q2 := hcl (some a) none
    refine ⟨hsz, by rw [o1, sizeLine_eq]; omega, hsz, by rw [Str.length_append, o1, sizeLine_eq]; omega, by rw [List.length_map, sizeLine_eq]; omega, ?_⟩
    have := word_comp hl h5 h6 hz cs (acc ++ [wordOf stem a c]) (by rw [List.length_cons] at hz2; rw [List.length_append, List.length_singleton]; omega) (by simpa using h)
    rw [List.map_append] at this
    exact this
theorem cutD_lo {α : Type} (xs : List α) (k : Nat) (h : k ≤ xs.length) : cutD xs none (some (k : Int)) = xs.take k := by
  unfold cutD
  rw [HT.sIx_none, HT.sIx_nat]
  simp only [List.drop_zero, Nat.sub_zero]
  rw [Nat.min_eq_left h]
theorem cutD_hi {α : Type} (xs : List α) (k : Nat) (h : k ≤ xs.length) : cutD xs (some (k : Int)) none = xs.drop k := by
  unfold cutD
  rw [HT.sIx_none, HT.sIx_nat, Nat.min_eq_left h, List.take_of_length_le]
  rw [List.length_drop]; exact Nat.le_refl _
theorem cutD_lo' {α : Type} (xs : List α) (k : Int) (h0 : 0 ≤ k) : cutD xs none (some k) = xs.take k.toNat := by
  obtain ⟨n, rfl⟩ := Int.eq_ofNat_of_zero_le h0
  unfold cutD
  rw [HT.sIx_none, HT.sIx_nat]
  simp only [List.drop_zero, Nat.sub_zero, Int.toNat_natCast]
  by_cases h : n ≤ xs.length
  · rw [Nat.min_eq_left h]
  · rw [Nat.min_eq_right (by omega), List.take_of_length_le (Nat.le_refl _), List.take_of_length_le (by omega)]
theorem cutD_hi' {α : Type} (xs : List α) (k : Int) (h0 : 0 ≤ k) : cutD xs (some k) none = xs.drop k.toNat := by
  obtain ⟨n, rfl⟩ := Int.eq_ofNat_of_zero_le h0
  unfold cutD
  rw [HT.sIx_none, HT.sIx_nat]
  simp only [Int.toNat_natCast]
  rw [List.take_of_length_le (by rw [List.length_drop]; exact Nat.le_refl _)]
  by_cases h : n ≤ xs.length
  · rw [Nat.min_eq_left h]
  · rw [Nat.min_eq_right (by omega), List.drop_eq_nil_of_le (Nat.le_refl _), List.drop_eq_nil_of_le (by omega)]
theorem dd_comp {env : DSt} {st : Sto} {W B : List Str} {Q : List D → Sto → Prop} (hl : env.length = 11) (h3 : env[3]? = some (some (.lst (W.map D.str)))) (h7 : env[7]? = some (some (.lst (B.map D.str)))) (hW : ∀ y ∈ W, okS y = true) (hB : ∀ y ∈ B, okS y = true) (hz : W.length < 1000) : ∀ (ws pre acc : List Str), W = pre ++ ws → acc.length ≤ pre.length →
    Q ((acc ++ dd B pre ws).map D.str) st →
    dLcGo (gTp 2 (gsCons (gNm 8) (gsCons (gNm 9) gsNil))) (dAnd (dTst (dOp (rdIn true) (dVar 9) (dVar 7))) (dTst (dOp (rdIn true) (dVar 9) (dSl (dVar 3) dNoPart (dPart (dVar 8)))))) (dVar 9) env (enumD (pre.length : Int) (ws.map D.str)) (acc.map D.str) st Q
  | [], pre, acc, _, _, h => by simpa [dLcGo, enumD, dd] using h
  | x :: ws, pre, acc, e, ha, h => by
    have g3 : ∀ c d : D, ((env.set 8 (some c)).set 9 (some d))[3]? = some (some (.lst (W.map D.str))) := fun c d => by rw [List.getElem?_set_ne (by decide), List.getElem?_set_ne (by decide)]; exact h3
    have g7 : ∀ c d : D, ((env.set 8 (some c)).set 9 (some d))[7]? = some (some (.lst (B.map D.str))) := fun c d => by rw [List.getElem?_set_ne (by decide), List.getElem?_set_ne (by decide)]; exact h7
    have g8 : ∀ c d : D, ((env.set 8 (some c)).set 9 (some d))[8]? = some (some c) := fun c d => by rw [List.getElem?_set_ne (by decide), List.getElem?_set_self (by omega)]
    have g9 : ∀ c d : D, ((env.set 8 (some c)).set 9 (some d))[9]? = some (some d) := fun c d => by rw [List.getElem?_set_self (by rw [List.length_set]; omega)]
    have hx : okS x = true := hW x (by rw [e]; simp)
    have hpre : W.take pre.length = pre := by rw [e]; simp
    have hpl : pre.length ≤ W.length := by rw [e, List.length_append]; omega
    have rec1 : Q ((acc ++ dd B (pre ++ [x]) ws).map D.str) st → dLcGo (gTp 2 (gsCons (gNm 8) (gsCons (gNm 9) gsNil))) (dAnd (dTst (dOp (rdIn true) (dVar 9) (dVar 7))) (dTst (dOp (rdIn true) (dVar 9) (dSl (dVar 3) dNoPart (dPart (dVar 8)))))) (dVar 9) env (enumD ((pre.length : Int) + 1) (ws.map D.str)) (acc.map D.str) st Q := fun hq => by
      have := dd_comp hl h3 h7 hW hB hz ws (pre ++ [x]) acc (by rw [e]; simp) (by rw [List.length_append]; omega) hq
      rw [List.length_append, List.length_singleton] at this
      exact this
    simp only [List.map_cons, enumD, dLcGo, dFldS, dMeth, dMethK, dCallK, spK, dCallO, dJoined, djCons, djNil, dFmt, dDnew, dDnewM, rdFld, rdStrO, rdStr, dSeq, dAsg, dVar, dC, dCall, dCons, dNil, dOp, dUn, dTup, dLst, dLstM, dRet, dRetN, dNext, dDrop, dIfS, dTst, dAnd, dOr, dNot, dAndV, dOrV, dNotV, dIf, dPar, dPar3, dAsgG, gNm, gTp, gsCons, gsNil, dCB, dMt, dMt0, dSl, dPart, dNoPart, dKGet, dGet2, dDisp, dDispM, dpCons, dpNil, dFrz, dYes, rdSub, rdFdiv, rdMod, rdPow, rdLt, rdLe, rdGt, rdGe, rdAbs, rdMax, rdMin, rdI, rdI1, rdI2, rdNeg, rdInt, List.set_cons_zero, List.set_cons_succ, List.getElem?_cons_zero, List.getElem?_cons_succ, g3, g7, g8, g9]
    refine ⟨rfl, ?_⟩
    refine in_strs (ys := B) rfl hx hB ?_
    by_cases c1 : x ∈ B
    · simp only [c1, decide_true, bne_self_eq_false, Bool.false_eq_true, if_false]
      exact rec1 (by unfold dd at h; rw [if_pos (by simp [c1])] at h; exact h)
    · simp only [c1, decide_false, Bool.false_bne, if_true, rdSl, look]
      refine in_strs (ys := pre) (by show D.lst (cutD (W.map D.str) none (some (pre.length : Int))) = _; rw [cutD_lo _ _ (by rw [List.length_map]; exact hpl), ← List.map_take, hpre]) hx (fun y hy => hW y (by rw [e]; exact List.mem_append_left _ hy)) ?_
      by_cases c2 : x ∈ pre
      · simp only [c2, decide_true, bne_self_eq_false, Bool.false_eq_true, if_false]
        exact rec1 (by unfold dd at h; rw [if_pos (by simp [c2])] at h; exact h)
      · simp only [c2, decide_false, Bool.false_bne, if_true]
        refine ⟨by rw [List.length_map, sizeLine_eq]; omega, ?_⟩
        unfold dd at h
        rw [if_neg (by simp [c1, c2])] at h
        have := dd_comp hl h3 h7 hW hB hz ws (pre ++ [x]) (acc ++ [x]) (by rw [e]; simp) (by rw [List.length_append, List.length_append]; exact Nat.add_le_add_right ha _) (by simpa using h)
        rw [List.length_append, List.length_singleton, List.map_append] at this
        exact this
def spNames : DSp := fun ds st Q _ => ∃ (n : Nat) (many : Int), ds = [.ref n, .int many] ∧ st n = some .box ∧ 0 ≤ many ∧ many ≤ 4 ∧ ∀ ys : List Str, ys.Nodup → (ys.length : Int) = many → (∀ y ∈ ys, Nm y) → Q (.lst (ys.map D.str)) st
theorem badW_ok : ∀ y ∈ badW, okS y = true := by decide +kernel
theorem oneW_ok : ∀ y ∈ oneW, 1 ≤ y.length ∧ y.length ≤ 8 ∧ ∀ c ∈ y.cps.toList, isLow c = true := by decide +kernel
theorem perm_map_str {ys : List D} {xs : List Str} (h : ys.Perm (xs.map D.str)) : ∃ zs : List Str, ys = zs.map D.str ∧ zs.Perm xs := by
  have hall : ∀ y ∈ ys, ∃ s : Str, y = .str s := fun y hy => by
    obtain ⟨s, _, e⟩ := List.mem_map.mp (h.mem_iff.mp hy)
    exact ⟨s, e.symm⟩
  let f : D → Str := fun d => match d with | .str s => s | _ => ""
  refine ⟨ys.map f, ?_, ?_⟩
  · rw [List.map_map]
    conv => lhs; rw [← List.map_id ys]
    apply List.map_congr_left
    intro y hy
    obtain ⟨s, rfl⟩ := hall y hy
    rfl
  · have := h.map f
    rw [List.map_map] at this
    have e : (f ∘ D.str) = id := rfl
    rw [e, List.map_id] at this
    exact this
theorem seq_letters (st : Sto) : seqOf st (.str letters) = some (signsD letters) := by
  unfold seqOf
  simp only [look]
  rw [if_pos (by rw [len_cps, letters_len, sizeLine_eq]; decide)]
theorem rd_names {n : Nat} {many : Int} {st : Sto} {Q : QD} (hn : st n = some .box) (h0 : 0 ≤ many) (h4 : many ≤ 4) (q : ∀ ys : List Str, ys.Nodup → (ys.length : Int) = many → (∀ y ∈ ys, Nm y) → Q (.lst (ys.map D.str)) st) :
    t__law_names spTake spMixed (ends Q) [some (.ref n), some (.int many), none, none, none, none, none, none, none, none, none] st := by
  simp only [t__law_names, dFldS, dMeth, dMethK, dCallK, spK, dCallO, dJoined, djCons, djNil, dFmt, dDnew, dDnewM, rdFld, rdStrO, rdStr, dSeq, dAsg, dVar, dC, dCall, dCons, dNil, dOp, dUn, dTup, dLst, dLstM, dRet, dRetN, dNext, dDrop, dIfS, dTst, dAnd, dOr, dNot, dAndV, dOrV, dNotV, dIf, dPar, dPar3, dAsgG, gNm, gTp, gsCons, gsNil, dCB, dMt, dMt0, dSl, dPart, dNoPart, dKGet, dGet2, dDisp, dDispM, dpCons, dpNil, dFrz, dYes, rdSub, rdFdiv, rdMod, rdPow, rdLt, rdLe, rdGt, rdGe, rdAbs, rdMax, rdMin, rdI, rdI1, rdI2, rdNeg, rdInt, List.set_cons_zero, List.set_cons_succ, List.getElem?_cons_zero, List.getElem?_cons_succ]
  refine ⟨Nat.zero_le _, n, 4, rfl, by decide, by decide, hn, fun form f0 f1 => ⟨by simp [sizeLine_eq], rfl, ?_⟩⟩
  -- the stem
  have s1 : ∀ (stem : Str), (∀ c ∈ stem.cps.toList, isLow c = true) → stem.length ≤ 7 → t__law_names_r2 spTake spMixed (ends Q) [some (.ref n), some (.int many), some (.str letters), some (.lst []), some (.int form), some (.str stem), none, none, none, none, none] st := by
    intro stem hs hs7
    have hss : stem.length ≤ sizeLine := by rw [sizeLine_eq]; omega
    simp only [t__law_names_r2, dFldS, dMeth, dMethK, dCallK, spK, dCallO, dJoined, djCons, djNil, dFmt, dDnew, dDnewM, rdFld, rdStrO, rdStr, dSeq, dAsg, dVar, dC, dCall, dCons, dNil, dOp, dUn, dTup, dLst, dLstM, dRet, dRetN, dNext, dDrop, dIfS, dTst, dAnd, dOr, dNot, dAndV, dOrV, dNotV, dIf, dPar, dPar3, dAsgG, gNm, gTp, gsCons, gsNil, dCB, dMt, dMt0, dSl, dPart, dNoPart, dKGet, dGet2, dDisp, dDispM, dpCons, dpNil, dFrz, dYes, rdSub, rdFdiv, rdMod, rdPow, rdLt, rdLe, rdGt, rdGe, rdAbs, rdMax, rdMin, rdI, rdI1, rdI2, rdNeg, rdInt, List.set_cons_zero, List.set_cons_succ, List.getElem?_cons_zero, List.getElem?_cons_succ, rdLen, rdAdd, look]
    refine ⟨hss, n, _, rfl, by omega, by omega, hn, fun a a0 a1 => ?_⟩
    have a2 : a ≤ stem.length := by omega
    -- the words
    have s3 : ∀ (base : List Str), (∀ y ∈ base, 1 ≤ y.length ∧ y.length ≤ 8 ∧ ∀ c ∈ y.cps.toList, isLow c = true) → base.length ≤ 100 → t__law_names_r4 spTake spMixed (ends Q) [some (.ref n), some (.int many), some (.str letters), some (.lst (base.map D.str)), some (.int form), some (.str stem), some (.int a), none, none, none, none] st := by
      intro base hb hbl
      simp only [t__law_names_r4, dFldS, dMeth, dMethK, dCallK, spK, dCallO, dJoined, djCons, djNil, dFmt, dDnew, dDnewM, rdFld, rdStrO, rdStr, dSeq, dAsg, dVar, dC, dCall, dCons, dNil, dOp, dUn, dTup, dLst, dLstM, dRet, dRetN, dNext, dDrop, dIfS, dTst, dAnd, dOr, dNot, dAndV, dOrV, dNotV, dIf, dPar, dPar3, dAsgG, gNm, gTp, gsCons, gsNil, dCB, dMt, dMt0, dSl, dPart, dNoPart, dKGet, dGet2, dDisp, dDispM, dpCons, dpNil, dFrz, dYes, rdSub, rdFdiv, rdMod, rdPow, rdLt, rdLe, rdGt, rdGe, rdAbs, rdMax, rdMin, rdI, rdI1, rdI2, rdNeg, rdInt, List.set_cons_zero, List.set_cons_succ, List.getElem?_cons_zero, List.getElem?_cons_succ, dLc, dIt]
      refine ⟨n, .str letters, signsD letters, rfl, hn, seq_letters st, by unfold signsD; rw [List.length_map, letters_len]; decide, fun ys hp => ?_⟩
      -- ys: the letters in some order
      obtain ⟨zs, rfl, hz⟩ : ∃ zs : List Nat, ys = zs.map (fun c => D.str ⟨#[c]⟩) ∧ zs.Perm letters.cps.toList := by
        have hall : ∀ y ∈ ys, ∃ c : Nat, y = .str ⟨#[c]⟩ := fun y hy => by
          obtain ⟨c, _, e⟩ := List.mem_map.mp (hp.mem_iff.mp hy)
          exact ⟨c, e.symm⟩
        let f : D → Nat := fun d => match d with | .str s => s.cps.toList.headD 0 | _ => 0
        refine ⟨ys.map f, ?_, ?_⟩
        · rw [List.map_map]
          conv => lhs; rw [← List.map_id ys]
          apply List.map_congr_left
          intro y hy
          obtain ⟨c, rfl⟩ := hall y hy
          rfl
        · have := hp.map f
          unfold signsD at this
          rw [List.map_map] at this
          have e : (f ∘ fun c : Nat => D.str ⟨#[c]⟩) = id := rfl
          rw [e, List.map_id] at this
          exact this
      have hz26 : zs.length = 26 := hz.length_eq.trans letters_len
      have hznd : zs.Nodup := hz.nodup_iff.mpr letters_nd
      have hzlow : ∀ c ∈ zs, isLow c = true := fun c hc => low_letters c (hz.mem_iff.mp hc)
      simp only [itemsOf]
      refine word_comp (acc := []) (stem := stem) (a := a) (wipeD_len _ _) rfl rfl (by omega) zs (by rw [hz26]; decide) ?_
      -- the whole list
      let W : List Str := base ++ zs.map (wordOf stem a)
      have hWl : W.length ≤ 126 := by show (base ++ zs.map (wordOf stem a)).length ≤ _; rw [List.length_append, List.length_map, hz26]; omega
      have hWn : ∀ y ∈ W, 1 ≤ y.length ∧ y.length ≤ 8 ∧ ∀ c ∈ y.cps.toList, isLow c = true := fun y hy => by
        rcases List.mem_append.mp hy with hy | hy
        · exact hb y hy
        · obtain ⟨c, hc, rfl⟩ := List.mem_map.mp hy
          have := wordOf_len a0 a2 c
          exact ⟨by omega, by omega, wordOf_low a0 a2 hs (hzlow c hc)⟩
      have hWok : ∀ y ∈ W, okS y = true := fun y hy => low_okS (hWn y hy).2.2
      have hF4 : 4 ≤ (dd badW [] W).length := by
        have hnd : (zs.map (wordOf stem a)).Nodup := List.pairwise_map.mpr (hznd.imp fun h e => h (wordOf_inj a0 a2 e))
        have k1 := nd_split (zs.map (wordOf stem a)) badW hnd
        rw [List.length_map, hz26] at k1
        have k2 := nd_le ((zs.map (wordOf stem a)).filter fun x => !badW.contains x) (dd badW [] W) (hnd.filter _) fun x hx => by
          obtain ⟨x1, x2⟩ := List.mem_filter.mp hx
          exact dd_all badW W [] x (List.mem_append_right _ x1) (by simpa using x2) (by simp)
        have k3 : badW.length = 22 := rfl
        omega
      simp only [rdAdd, look, List.nil_append]
      refine ⟨by rw [List.length_map, List.length_map, List.length_map, hz26, sizeLine_eq]; omega, ?_⟩
      rw [← List.map_append]
      show t__law_names_r5 spTake spMixed (ends Q) [some (.ref n), some (.int many), some (.str letters), some (.lst (W.map D.str)), some (.int form), some (.str stem), some (.int a), none, none, none, none] st
      simp only [t__law_names_r5, t__law_names_r6, dFldS, dMeth, dMethK, dCallK, spK, dCallO, dJoined, djCons, djNil, dFmt, dDnew, dDnewM, rdFld, rdStrO, rdStr, dSeq, dAsg, dVar, dC, dCall, dCons, dNil, dOp, dUn, dTup, dLst, dLstM, dRet, dRetN, dNext, dDrop, dIfS, dTst, dAnd, dOr, dNot, dAndV, dOrV, dNotV, dIf, dPar, dPar3, dAsgG, gNm, gTp, gsCons, gsNil, dCB, dMt, dMt0, dSl, dPart, dNoPart, dKGet, dGet2, dDisp, dDispM, dpCons, dpNil, dFrz, dYes, rdSub, rdFdiv, rdMod, rdPow, rdLt, rdLe, rdGt, rdGe, rdAbs, rdMax, rdMin, rdI, rdI1, rdI2, rdNeg, rdInt, List.set_cons_zero, List.set_cons_succ, List.getElem?_cons_zero, List.getElem?_cons_succ, rdAdd, look, dSplit, badW_split]
      refine ⟨by decide +kernel, by decide +kernel, ?_⟩
      simp only [t__law_names_r7, dFldS, dMeth, dMethK, dCallK, spK, dCallO, dJoined, djCons, djNil, dFmt, dDnew, dDnewM, rdFld, rdStrO, rdStr, dSeq, dAsg, dVar, dC, dCall, dCons, dNil, dOp, dUn, dTup, dLst, dLstM, dRet, dRetN, dNext, dDrop, dIfS, dTst, dAnd, dOr, dNot, dAndV, dOrV, dNotV, dIf, dPar, dPar3, dAsgG, gNm, gTp, gsCons, gsNil, dCB, dMt, dMt0, dSl, dPart, dNoPart, dKGet, dGet2, dDisp, dDispM, dpCons, dpNil, dFrz, dYes, rdSub, rdFdiv, rdMod, rdPow, rdLt, rdLe, rdGt, rdGe, rdAbs, rdMax, rdMin, rdI, rdI1, rdI2, rdNeg, rdInt, List.set_cons_zero, List.set_cons_succ, List.getElem?_cons_zero, List.getElem?_cons_succ, dLc, dEn, itemsOf]
      refine dd_comp (W := W) (B := badW) (acc := []) (pre := []) (wipeD_len _ _) rfl rfl hWok badW_ok (by omega) W rfl (Nat.le_refl _) ?_
      simp only [List.nil_append, t__law_names_r8, dFldS, dMeth, dMethK, dCallK, spK, dCallO, dJoined, djCons, djNil, dFmt, dDnew, dDnewM, rdFld, rdStrO, rdStr, dSeq, dAsg, dVar, dC, dCall, dCons, dNil, dOp, dUn, dTup, dLst, dLstM, dRet, dRetN, dNext, dDrop, dIfS, dTst, dAnd, dOr, dNot, dAndV, dOrV, dNotV, dIf, dPar, dPar3, dAsgG, gNm, gTp, gsCons, gsNil, dCB, dMt, dMt0, dSl, dPart, dNoPart, dKGet, dGet2, dDisp, dDispM, dpCons, dpNil, dFrz, dYes, rdSub, rdFdiv, rdMod, rdPow, rdLt, rdLe, rdGt, rdGe, rdAbs, rdMax, rdMin, rdI, rdI1, rdI2, rdNeg, rdInt, List.set_cons_zero, List.set_cons_succ, List.getElem?_cons_zero, List.getElem?_cons_succ, rdSl, look]
      rw [cutD_lo' _ _ h0, ← List.map_take]
      refine ⟨n, _, ((dd badW [] W).take many.toNat).map D.str, rfl, hn, rfl, by rw [List.length_map, List.length_take]; omega, fun ys hp => ?_⟩
      obtain ⟨us, rfl, hu⟩ := perm_map_str hp
      refine sb (q us (hu.nodup_iff.mpr ((dd_nodup badW W []).sublist (List.take_sublist _ _))) ?_ fun y hy => ?_)
      · rw [hu.length_eq, List.length_take]; omega
      · have hy2 := List.mem_of_mem_take (hu.mem_iff.mp hy)
        obtain ⟨y1, y2, _⟩ := dd_mem badW W [] y hy2
        have := hWn y y1
        exact ⟨this.1, this.2.1, this.2.2, y2⟩
    simp only [t__law_names_r3, dFldS, dMeth, dMethK, dCallK, spK, dCallO, dJoined, djCons, djNil, dFmt, dDnew, dDnewM, rdFld, rdStrO, rdStr, dSeq, dAsg, dVar, dC, dCall, dCons, dNil, dOp, dUn, dTup, dLst, dLstM, dRet, dRetN, dNext, dDrop, dIfS, dTst, dAnd, dOr, dNot, dAndV, dOrV, dNotV, dIf, dPar, dPar3, dAsgG, gNm, gTp, gsCons, gsNil, dCB, dMt, dMt0, dSl, dPart, dNoPart, dKGet, dGet2, dDisp, dDispM, dpCons, dpNil, dFrz, dYes, rdSub, rdFdiv, rdMod, rdPow, rdLt, rdLe, rdGt, rdGe, rdAbs, rdMax, rdMin, rdI, rdI1, rdI2, rdNeg, rdInt, List.set_cons_zero, List.set_cons_succ, List.getElem?_cons_zero, List.getElem?_cons_succ, rdEq, dSplit, oneW_split]
    by_cases c : form = 0
    · simp only [c, decide_true, Bool.true_bne, Bool.not_false, if_true]
      refine ⟨by decide +kernel, ?_⟩
      have := s3 oneW oneW_ok (by decide +kernel)
      rw [c] at this
      exact this
    · simp only [c, decide_false, bne_self_eq_false, Bool.false_eq_true, if_false]
      exact s3 [] (fun y hy => by cases hy) (by decide)
  show t__law_names_r1 spTake spMixed (ends Q) [some (.ref n), some (.int many), some (.str letters), some (.lst []), some (.int form), none, none, none, none, none, none] st
  simp only [t__law_names_r1, dFldS, dMeth, dMethK, dCallK, spK, dCallO, dJoined, djCons, djNil, dFmt, dDnew, dDnewM, rdFld, rdStrO, rdStr, dSeq, dAsg, dVar, dC, dCall, dCons, dNil, dOp, dUn, dTup, dLst, dLstM, dRet, dRetN, dNext, dDrop, dIfS, dTst, dAnd, dOr, dNot, dAndV, dOrV, dNotV, dIf, dPar, dPar3, dAsgG, gNm, gTp, gsCons, gsNil, dCB, dMt, dMt0, dSl, dPart, dNoPart, dKGet, dGet2, dDisp, dDispM, dpCons, dpNil, dFrz, dYes, rdSub, rdFdiv, rdMod, rdPow, rdLt, rdLe, rdGt, rdGe, rdAbs, rdMax, rdMin, rdI, rdI1, rdI2, rdNeg, rdInt, List.set_cons_zero, List.set_cons_succ, List.getElem?_cons_zero, List.getElem?_cons_succ, dJoin, dLc, dRg1]
  refine ⟨by simp [sizeLine_eq], n, 4, rfl, by decide, by decide, hn, fun r r0 r1 => ?_⟩
  have hk : ∃ k : Nat, k ≤ 7 ∧ atI [D.int 0, D.int 1, D.int 3, D.int 7] r = some (.int k) := by
    have : r = 0 ∨ r = 1 ∨ r = 2 ∨ r = 3 := by omega
    rcases this with rfl | rfl | rfl | rfl
    · exact ⟨0, by decide, rfl⟩
    · exact ⟨1, by decide, rfl⟩
    · exact ⟨3, by decide, rfl⟩
    · exact ⟨7, by decide, rfl⟩
  obtain ⟨k, k7, ek⟩ := hk
  show rdIx (.lst [.int 0, .int 1, .int 3, .int 7]) (.int r) st _
  rw [rdIx_nf]
  simp only [look, ek, onS_some, Int.toNat_natCast]
  refine ⟨⟨by omega, by omega⟩, ?_⟩
  refine stem_comp (acc := []) hn rfl rfl k 0 (fun c hc => by cases hc) (by rw [List.length_nil]; omega) fun cs hcs hcl => ?_
  have e : (cs.map fun c => D.str ⟨#[c]⟩) = (cs.map fun c => (⟨#[c]⟩ : Str)).map D.str := by rw [List.map_map]; rfl
  simp only [seqL, look, e, strsOf_map]
  refine ⟨_, rfl, ?_, ?_⟩
  · rw [sum_ones, List.length_map]
    have : (("" : Str)).length = 0 := rfl
    rw [this, hcl, List.length_nil]; omega
  · refine s1 _ (by rw [join_ones]; exact hcs) (by rw [len_cps, join_ones, hcl, List.length_nil]; omega)
end TL
namespace TL
open PySem PySem.Spec PyProof.Rows L2
def t__law_value_r1 (_law_pick : DSp) (_law_take : DSp) : TDS :=
  (dRet (dOp rdIx (dLst (dCons (dOp rdSub (dCall _law_take (dCons (dVar 0) (dCons (dC (.int 10)) dNil))) (dC (.int 4))) (dCons (dOp rdSub (dCall _law_take (dCons (dVar 0) (dCons (dC (.int 10)) dNil))) (dC (.int 4))) (dCons (dOp rdSub (dCall _law_take (dCons (dVar 0) (dCons (dC (.int 1999)) dNil))) (dC (.int 999))) dNil)))) (dOp rdFdiv (dCall _law_take (dCons (dVar 0) (dCons (dC (.int 9)) dNil))) (dC (.int 4)))))
def t__law_value (_law_pick : DSp) (_law_take : DSp) : TDS :=
  (dSeq (dIfS (dTst (dOp (rdEq false) (dVar 1) (dC (.str "word"))))
  (dRet (dCall _law_pick (dCons (dVar 0) (dCons (dLst (dCons (dC (.str "red")) (dCons (dC (.str "soft")) (dCons (dC (.str "a")) (dCons (dC (.str "red")) (dCons (dC (.str "none")) (dCons (dC (.str "abcdefgh")) dNil))))))) dNil))))
  dNext)
  (t__law_value_r1 _law_pick _law_take))
theorem st__law_value (ds : List D) : startD ["_law_box_here", "_law_sort"] ds = ds.map some ++ List.replicate (2 - ds.length) none := rfl
def t__law_hook_b1_r3 (_law_names : DSp) (_law_take : DSp) (_law_pick : DSp) (_law_value : DSp) : TDS :=
  (dDrop (dMt rdAppend (dVar 7) (dCons (dTup (dCons (dOp rdIx (dVar 3) (dVar 9)) (dCons (dVar 10) (dCons (dIf (dTst (dVar 8)) (dCall _law_value (dCons (dVar 0) (dCons (dVar 10) dNil))) (dC .non)) dNil)))) dNil)))
def t__law_hook_b1_r2 (_law_names : DSp) (_law_take : DSp) (_law_pick : DSp) (_law_value : DSp) : TDS :=
  (dSeq (dAsg 8 (dAndV (dVar 8) (dNotV (dAndV (dOp (rdEq false) (dVar 2) (dC (.str "through"))) (dOp (rdEq false) (dVar 9) (dC (.int 0)))))))
  (t__law_hook_b1_r3 _law_names _law_take _law_pick _law_value))
def t__law_hook_b1_r1 (_law_names : DSp) (_law_take : DSp) (_law_pick : DSp) (_law_value : DSp) : TDS :=
  (dSeq (dAsg 8 (dOrV (dAndV (dVar 8) (dOp rdLt (dVar 9) (dVar 6))) (dOp (rdEq false) (dCall _law_take (dCons (dVar 0) (dCons (dC (.int 3)) dNil))) (dC (.int 0)))))
  (t__law_hook_b1_r2 _law_names _law_take _law_pick _law_value))
def t__law_hook_b1 (_law_names : DSp) (_law_take : DSp) (_law_pick : DSp) (_law_value : DSp) : TDS :=
  (dSeq (dAsg 10 (dCall _law_pick (dCons (dVar 0) (dCons (dVar 4) dNil))))
  (t__law_hook_b1_r1 _law_names _law_take _law_pick _law_value))
def t__law_hook_r8 (_law_names : DSp) (_law_take : DSp) (_law_pick : DSp) (_law_value : DSp) : TDS :=
  (dRet (dTup (dCons (dVar 1) (dCons (dVar 2) (dCons (dSl (dVar 7) dNoPart (dPart (dVar 6))) (dCons (dSl (dVar 7) (dPart (dVar 6)) dNoPart) (dCons (dVar 11) dNil)))))))
def t__law_hook_r7 (_law_names : DSp) (_law_take : DSp) (_law_pick : DSp) (_law_value : DSp) : TDS :=
  (dSeq (dAsg 11 (dIf (dTst (dOp (rdEq false) (dVar 2) (dC (.str "through")))) (dOp rdIx (dOp rdIx (dVar 7) (dC (.int 0))) (dC (.int 1))) (dCall _law_pick (dCons (dVar 0) (dCons (dVar 4) dNil)))))
  (t__law_hook_r8 _law_names _law_take _law_pick _law_value))
def t__law_hook_r6 (_law_names : DSp) (_law_take : DSp) (_law_pick : DSp) (_law_value : DSp) : TDS :=
  (dSeq (dFor (dRg1 (dVar 5)) (gNm 9)
  (t__law_hook_b1 _law_names _law_take _law_pick _law_value))
  (t__law_hook_r7 _law_names _law_take _law_pick _law_value))
def t__law_hook_r5 (_law_names : DSp) (_law_take : DSp) (_law_pick : DSp) (_law_value : DSp) : TDS :=
  (dSeq (dPar 7 8 (dCons (dLstM dNil) (dCons (dC (.bl false)) dNil)))
  (t__law_hook_r6 _law_names _law_take _law_pick _law_value))
def t__law_hook_r4 (_law_names : DSp) (_law_take : DSp) (_law_pick : DSp) (_law_value : DSp) : TDS :=
  (dSeq (dAsg 6 (dIf (dTst (dOp (rdEq false) (dVar 2) (dC (.str "through")))) (dCB rdMax (dCons (dVar 6) (dCons (dC (.int 1)) dNil))) (dVar 6)))
  (t__law_hook_r5 _law_names _law_take _law_pick _law_value))
def t__law_hook_r3 (_law_names : DSp) (_law_take : DSp) (_law_pick : DSp) (_law_value : DSp) : TDS :=
  (dSeq (dAsg 6 (dOp rdSub (dVar 5) (dCall _law_take (dCons (dVar 0) (dCons (dOp rdAdd (dVar 5) (dC (.int 1))) dNil)))))
  (t__law_hook_r4 _law_names _law_take _law_pick _law_value))
def t__law_hook_r2 (_law_names : DSp) (_law_take : DSp) (_law_pick : DSp) (_law_value : DSp) : TDS :=
  (dSeq (dAsg 5 (dIf (dTst (dOp (rdEq false) (dVar 2) (dC (.str "through")))) (dCB rdMax (dCons (dVar 5) (dCons (dC (.int 1)) dNil))) (dVar 5)))
  (t__law_hook_r3 _law_names _law_take _law_pick _law_value))
def t__law_hook_r1 (_law_names : DSp) (_law_take : DSp) (_law_pick : DSp) (_law_value : DSp) : TDS :=
  (dSeq (dAsg 5 (dCall _law_take (dCons (dVar 0) (dCons (dC (.int 4)) dNil))))
  (t__law_hook_r2 _law_names _law_take _law_pick _law_value))
def t__law_hook (_law_names : DSp) (_law_take : DSp) (_law_pick : DSp) (_law_value : DSp) : TDS :=
  (dSeq (dPar 3 4 (dCons (dCall _law_names (dCons (dVar 0) (dCons (dC (.int 3)) dNil))) (dCons (dLst (dCons (dC (.str "number")) (dCons (dC (.str "number")) (dCons (dC (.str "word")) dNil)))) dNil)))
  (t__law_hook_r1 _law_names _law_take _law_pick _law_value))
theorem st__law_hook (ds : List D) : startD ["_law_box_here", "_law_name", "_law_kind", "_law_names_here", "_law_sorts", "_law_many", "_law_wide", "_law_some", "_law_late", "_law_k", "_law_sort", "_law_outs"] ds = ds.map some ++ List.replicate (12 - ds.length) none := rfl
def isSort (s : Str) : Prop := s = "number" ∨ s = "word"
def wordsV : List Str := ["red", "soft", "a", "red", "none", "abcdefgh"]
def Lw (x : Str) : Prop := 1 ≤ x.length ∧ x.length ≤ 8 ∧ ∀ c ∈ x.cps.toList, isLow c = true
theorem Nm.lw {x : Str} (h : Nm x) : Lw x := ⟨h.1, h.2.1, h.2.2.1⟩
instance (x : Str) : Decidable (Lw x) := inferInstanceAs (Decidable (_ ∧ _ ∧ _))
theorem wordsV_lw : ∀ w ∈ wordsV, Lw w := by decide +kernel
def VOk (sort : Str) (d : D) : Prop := (sort = "word" ∧ ∃ w, Lw w ∧ d = .str w) ∨ (sort = "number" ∧ ∃ k : Int, -999 ≤ k ∧ k ≤ 999 ∧ d = .int k)
def spValue : DSp := fun ds st Q _ => ∃ n sort, ds = [.ref n, .str sort] ∧ isSort sort ∧ st n = some .box ∧ ∀ d, VOk sort d → Q d st
theorem nw : ¬ (("number" : Str) = "word") := by decide +kernel
theorem wn : ¬ (("word" : Str) = "number") := by decide +kernel
theorem rd_value {n : Nat} {sort : Str} {st : Sto} {Q : QD} (hs : isSort sort) (hn : st n = some .box) (q : ∀ d, VOk sort d → Q d st) : t__law_value spPick spTake (ends Q) [some (.ref n), some (.str sort)] st := by
  simp only [t__law_value, dFldS, dMeth, dMethK, dCallK, spK, dCallO, dJoined, djCons, djNil, dFmt, dDnew, dDnewM, rdFld, rdStrO, rdStr, dSeq, dAsg, dVar, dC, dCall, dCons, dNil, dOp, dUn, dTup, dLst, dLstM, dRet, dRetN, dNext, dDrop, dIfS, dTst, dAnd, dOr, dNot, dAndV, dOrV, dNotV, dIf, dPar, dPar3, dAsgG, gNm, gTp, gsCons, gsNil, dCB, dMt, dMt0, dSl, dPart, dNoPart, dKGet, dGet2, dDisp, dDispM, dpCons, dpNil, dFrz, dYes, rdSub, rdFdiv, rdMod, rdPow, rdLt, rdLe, rdGt, rdGe, rdAbs, rdMax, rdMin, rdI, rdI1, rdI2, rdNeg, rdInt, List.set_cons_zero, List.set_cons_succ, List.getElem?_cons_zero, List.getElem?_cons_succ, rdEq]
  rcases hs with rfl | rfl
  · rw [if_neg (by simp [nw])]
    simp only [t__law_value_r1, dFldS, dMeth, dMethK, dCallK, spK, dCallO, dJoined, djCons, djNil, dFmt, dDnew, dDnewM, rdFld, rdStrO, rdStr, dSeq, dAsg, dVar, dC, dCall, dCons, dNil, dOp, dUn, dTup, dLst, dLstM, dRet, dRetN, dNext, dDrop, dIfS, dTst, dAnd, dOr, dNot, dAndV, dOrV, dNotV, dIf, dPar, dPar3, dAsgG, gNm, gTp, gsCons, gsNil, dCB, dMt, dMt0, dSl, dPart, dNoPart, dKGet, dGet2, dDisp, dDispM, dpCons, dpNil, dFrz, dYes, rdSub, rdFdiv, rdMod, rdPow, rdLt, rdLe, rdGt, rdGe, rdAbs, rdMax, rdMin, rdI, rdI1, rdI2, rdNeg, rdInt, List.set_cons_zero, List.set_cons_succ, List.getElem?_cons_zero, List.getElem?_cons_succ]
    refine ⟨n, _, rfl, by decide, by decide, hn, fun r1 a1 b1 => ⟨trivial, n, _, rfl, by decide, by decide, hn, fun r2 a2 b2 => ⟨trivial, n, _, rfl, by decide, by decide, hn, fun r3 a3 b3 => ⟨trivial, by simp [sizeLine_eq], n, _, rfl, by decide, by decide, hn, fun r4 a4 b4 => ⟨⟨by decide, by decide⟩, ?_⟩⟩⟩⟩⟩
    have key : ∃ k : Int, -999 ≤ k ∧ k ≤ 999 ∧ atI [D.int (r1 - 4), D.int (r2 - 4), D.int (r3 - 999)] (r4 / 4) = some (.int k) := by
      have : r4 / 4 = 0 ∨ r4 / 4 = 1 ∨ r4 / 4 = 2 := by omega
      rcases this with e | e | e <;> rw [e]
      · exact ⟨r1 - 4, by omega, by omega, rfl⟩
      · exact ⟨r2 - 4, by omega, by omega, rfl⟩
      · exact ⟨r3 - 999, by omega, by omega, rfl⟩
    obtain ⟨k, k1, k2, ek⟩ := key
    rw [rdIx_nf]
    simp only [look, ek, onS_some]
    exact sb (q _ (.inr ⟨rfl, k, k1, k2, rfl⟩))
  · rw [if_pos (by simp)]
    refine ⟨by simp [sizeLine_eq], n, _, wordsV.map D.str, rfl, hn, rfl, by simp [wordsV], by simp [wordsV], fun x hx => ?_⟩
    obtain ⟨w, hw, rfl⟩ := List.mem_map.mp hx
    exact sb (q _ (.inl ⟨rfl, w, wordsV_lw w hw, rfl⟩))
/-! ### hooks -/
abbrev Prm := Str × Str × D
def Prm.d (p : Prm) : D := .tup [.str p.1, .str p.2.1, p.2.2]
def Prm.ok (p : Prm) : Prop := Nm p.1 ∧ isSort p.2.1 ∧ (p.2.2 = .non ∨ VOk p.2.1 p.2.2)
def hookD (name kind : Str) (es ls : List Prm) (outs : Str) : D := .tup [.str name, .str kind, .lst (es.map Prm.d), .lst (ls.map Prm.d), .str outs]
abbrev Prd (p r : Prm) : Prop := p.2.2 ≠ .non → r.2.2 ≠ .non
structure HookOk (kind : Str) (es ls : List Prm) (outs : Str) : Prop where
  ok : ∀ p ∈ es ++ ls, p.ok
  few : (es ++ ls).length ≤ 3
  nd : ((es ++ ls).map (·.1)).Nodup
  osort : isSort outs
  late : es.Pairwise Prd
  thr : kind = "through" → ∃ p r, es = p :: r ∧ p.2.2 = .non ∧ outs = p.2.1
def spHook : DSp := fun ds st Q _ => ∃ n name kind, ds = [.ref n, .str name, .str kind] ∧ st n = some .box ∧ ∀ es ls outs, HookOk kind es ls outs → Q (hookD name kind es ls outs) st
theorem VOk.nn {s : Str} {d : D} (h : VOk s d) : d ≠ .non := by
  rcases h with ⟨_, w, _, rfl⟩ | ⟨_, k, _, _, rfl⟩ <;> exact fun z => by cases z
theorem sorts_mem {x : D} (h : x ∈ [D.str "number", D.str "number", D.str "word"]) : ∃ s, isSort s ∧ x = .str s := by
  simp only [List.mem_cons, List.not_mem_nil, or_false] at h
  rcases h with rfl | rfl | rfl
  · exact ⟨_, .inl rfl, rfl⟩
  · exact ⟨_, .inl rfl, rfl⟩
  · exact ⟨_, .inr rfl, rfl⟩
/-- what holds between two turns -/
structure HInv (ys : List Str) (kind : Str) (wide : Int) (i : Nat) (ps : List Prm) (late : Bool) : Prop where
  len : ps.length = i
  nms : ps.map (·.1) = ys.take i
  ok : ∀ p ∈ ps, p.ok
  non : (i : Int) ≤ wide → late = false → ∀ p ∈ ps, p.2.2 = .non
  pw : (ps.take wide.toNat).Pairwise Prd
  thr : kind = "through" → ∀ p r, ps = p :: r → p.2.2 = .non
theorem HInv.step {ys : List Str} {kind : Str} {wide : Int} {i : Nat} {ps : List Prm} {late late2 : Bool} (h : HInv ys kind wide i ps late) (hy : ∀ y ∈ ys, Nm y) (hi : i < ys.length) {s : Str} {dft : D} (hs : isSort s) (hd : if late2 = true then VOk s dft else dft = .non)
    (h1 : late = true → (i : Int) < wide → i ≠ 0 → late2 = true) (h2 : kind = "through" → i = 0 → late2 = false) : HInv ys kind wide (i + 1) (ps ++ [(ys[i], s, dft)]) late2 := by
  have dn : late2 = false → dft = .non := fun e => by subst e; simpa using hd
  have dv : late2 = true → dft ≠ .non := fun e => by subst e; exact VOk.nn (by simpa using hd)
  refine ⟨by rw [List.length_append, h.len]; rfl, by rw [List.map_append, h.nms, List.take_add_one, List.getElem?_eq_getElem hi]; rfl, fun p hp => ?_, fun hw hl p hp => ?_, ?_, fun hk p r e => ?_⟩
  · rcases List.mem_append.mp hp with hp | hp
    · exact h.ok p hp
    · rw [List.mem_singleton.mp hp]
      refine ⟨hy _ (List.getElem_mem hi), hs, ?_⟩
      cases late2 with
      | true => exact .inr (by simpa using hd)
      | false => exact .inl (by simpa using hd)
  · rcases List.mem_append.mp hp with hp | hp
    · have i0 : i ≠ 0 := by
        intro i0
        have e0 : ps = [] := List.length_eq_zero_iff.mp (by rw [h.len, i0])
        rw [e0] at hp; exact absurd hp List.not_mem_nil
      have : late = false := by
        cases late with
        | false => rfl
        | true => rw [h1 rfl (by omega) i0] at hl; cases hl
      exact h.non (by omega) this p hp
    · rw [List.mem_singleton.mp hp]; exact dn hl
  · by_cases hw : (i : Int) < wide
    · have e1 : ps.take wide.toNat = ps := List.take_of_length_le (by rw [h.len]; omega)
      have e2 : (ps ++ [(ys[i], s, dft)]).take wide.toNat = ps ++ [(ys[i], s, dft)] := List.take_of_length_le (by rw [List.length_append, h.len, List.length_singleton]; omega)
      have pw := h.pw
      rw [e1] at pw
      rw [e2, List.pairwise_append]
      refine ⟨pw, List.pairwise_singleton _ _, fun a ha b hb => ?_⟩
      rw [List.mem_singleton.mp hb]
      intro an
      have i0 : i ≠ 0 := by
        intro i0
        have e0 : ps = [] := List.length_eq_zero_iff.mp (by rw [h.len, i0])
        rw [e0] at ha; exact absurd ha List.not_mem_nil
      cases late with
      | false => exact absurd (h.non (by omega) rfl a ha) an
      | true => exact dv (h1 rfl hw i0)
    · have e2 : (ps ++ [(ys[i], s, dft)]).take wide.toNat = ps.take wide.toNat := by
        rw [List.take_append_of_le_length (by rw [h.len]; omega)]
      rw [e2]; exact h.pw
  · cases ps with
    | nil =>
      have i0 : i = 0 := h.len.symm
      have e := (List.cons.inj e).1
      rw [← e]; exact dn (h2 hk i0)
    | cons a b =>
      have e := (List.cons.inj e).1
      rw [← e]; exact h.thr hk a b rfl
theorem nm_nd {ys : List Str} (h : ys.Nodup) (k : Nat) : (ys.take k).Nodup := h.sublist (List.take_sublist _ _)
theorem hook_loop {n f : Nat} {name kind : Str} {ys : List Str} {many wide : Int} {R : DEnds} {st0 : Sto} {c11 : Option D} (hn : st0 n = some .box) (hf : st0 f = none) (hyl : ys.length = 3) (hy : ∀ y ∈ ys, Nm y) : ∀ (k : Nat) (i : Nat) (ps : List Prm) (late : Bool) (c9 c10 : Option D), i + k ≤ 3 → HInv ys kind wide i ps late →
    (∀ (ps : List Prm) (late : Bool) (c9 c10 : Option D), HInv ys kind wide (i + k) ps late → R.nx [some (.ref n), some (.str name), some (.str kind), some (.lst (ys.map D.str)), some (.lst [.str "number", .str "number", .str "word"]), some (.int many), some (.int wide), some (.ref f), some (.bl late), c9, c10, c11] (sup st0 f (.lst (ps.map Prm.d)))) →
    dLoop (gNm 9) (t__law_hook_b1 spNames spTake spPick spValue) R (rangeD (i : Int) k) [some (.ref n), some (.str name), some (.str kind), some (.lst (ys.map D.str)), some (.lst [.str "number", .str "number", .str "word"]), some (.int many), some (.int wide), some (.ref f), some (.bl late), c9, c10, c11] (sup st0 f (.lst (ps.map Prm.d)))
  | 0, i, ps, late, c9, c10, _, h1, h => h ps late c9 c10 h1
  | k + 1, i, ps, late, c9, c10, hi, h1, h => by
    have nf : n ≠ f := by rintro rfl; rw [hn] at hf; cases hf
    have hn' : ∀ m, sup st0 f m n = some .box := fun m => by rw [sup_ne nf]; exact hn
    have hil : i < ys.length := by omega
    simp only [rangeD_succ, dLoop, t__law_hook_b1, dFldS, dMeth, dMethK, dCallK, spK, dCallO, dJoined, djCons, djNil, dFmt, dDnew, dDnewM, rdFld, rdStrO, rdStr, dSeq, dAsg, dVar, dC, dCall, dCons, dNil, dOp, dUn, dTup, dLst, dLstM, dRet, dRetN, dNext, dDrop, dIfS, dTst, dAnd, dOr, dNot, dAndV, dOrV, dNotV, dIf, dPar, dPar3, dAsgG, gNm, gTp, gsCons, gsNil, dCB, dMt, dMt0, dSl, dPart, dNoPart, dKGet, dGet2, dDisp, dDispM, dpCons, dpNil, dFrz, dYes, rdSub, rdFdiv, rdMod, rdPow, rdLt, rdLe, rdGt, rdGe, rdAbs, rdMax, rdMin, rdI, rdI1, rdI2, rdNeg, rdInt, List.set_cons_zero, List.set_cons_succ, List.getElem?_cons_zero, List.getElem?_cons_succ, true_and, if_true, if_false, Bool.false_eq_true]
    refine ⟨n, _, [.str "number", .str "number", .str "word"], rfl, hn' _, rfl, by simp, by simp, fun x hx => ?_⟩
    obtain ⟨s, hs, rfl⟩ := sorts_mem hx
    have fin : ∀ late2 : Bool, (late = true → (i : Int) < wide → i ≠ 0 → late2 = true) → (kind = "through" → i = 0 → late2 = false) → t__law_hook_b1_r3 spNames spTake spPick spValue { R with nx := dLoop (gNm 9) (t__law_hook_b1 spNames spTake spPick spValue) R (rangeD ((i : Int) + 1) k), ct := dLoop (gNm 9) (t__law_hook_b1 spNames spTake spPick spValue) R (rangeD ((i : Int) + 1) k), bk := R.nx } [some (.ref n), some (.str name), some (.str kind), some (.lst (ys.map D.str)), some (.lst [.str "number", .str "number", .str "word"]), some (.int many), some (.int wide), some (.ref f), some (.bl late2), some (.int i), some (.str s), c11] (sup st0 f (.lst (ps.map Prm.d))) := by
      intro late2 l1 l2
      have ei : atI (ys.map D.str) (i : Int) = some (.str ys[i]) := by
        unfold atI ixN
        rw [if_pos (by omega), if_pos (by rw [List.length_map]; omega)]
        show (ys.map D.str)[(i : Int).toNat]? = _
        rw [Int.toNat_natCast, List.getElem?_map, List.getElem?_eq_getElem hil]; rfl
      have go : ∀ dft : D, (if late2 = true then VOk s dft else dft = .non) → rdAppend (.ref f) [.tup [.str ys[i], .str s, dft]] (sup st0 f (.lst (ps.map Prm.d))) fun _ st1 => dLoop (gNm 9) (t__law_hook_b1 spNames spTake spPick spValue) R (rangeD ((i : Int) + 1) k) [some (.ref n), some (.str name), some (.str kind), some (.lst (ys.map D.str)), some (.lst [.str "number", .str "number", .str "word"]), some (.int many), some (.int wide), some (.ref f), some (.bl late2), some (.int i), some (.str s), c11] st1 := by
        intro dft hd
        refine append_of sup_same (by rw [List.length_map, sizeLine_eq, h1.len]; omega) ?_
        rw [sup_sup]
        have := hook_loop (name := name) (kind := kind) (many := many) (wide := wide) (R := R) (c11 := c11) hn hf hyl hy k (i + 1) (ps ++ [(ys[i], s, dft)]) late2 (some (.int i)) (some (.str s)) (by omega) (h1.step hy hil hs hd l1 l2) (fun ps' l a b e => h ps' l a b (by rw [show i + (k + 1) = i + 1 + k from by omega]; exact e))
        rw [List.map_append] at this
        exact this
      simp only [t__law_hook_b1_r3, dFldS, dMeth, dMethK, dCallK, spK, dCallO, dJoined, djCons, djNil, dFmt, dDnew, dDnewM, rdFld, rdStrO, rdStr, dSeq, dAsg, dVar, dC, dCall, dCons, dNil, dOp, dUn, dTup, dLst, dLstM, dRet, dRetN, dNext, dDrop, dIfS, dTst, dAnd, dOr, dNot, dAndV, dOrV, dNotV, dIf, dPar, dPar3, dAsgG, gNm, gTp, gsCons, gsNil, dCB, dMt, dMt0, dSl, dPart, dNoPart, dKGet, dGet2, dDisp, dDispM, dpCons, dpNil, dFrz, dYes, rdSub, rdFdiv, rdMod, rdPow, rdLt, rdLe, rdGt, rdGe, rdAbs, rdMax, rdMin, rdI, rdI1, rdI2, rdNeg, rdInt, List.set_cons_zero, List.set_cons_succ, List.getElem?_cons_zero, List.getElem?_cons_succ, true_and, if_true, if_false, Bool.false_eq_true, rdIx_nf, look_int, look_str, look_tup, look_l, look_obj, look_bl, look_non, look_d, ei, onS_some]
      refine ⟨isL_ref sup_same, ?_⟩
      cases late2 with
      | true => exact ⟨n, s, rfl, hs, hn' _, fun d hd => ⟨by simp [sizeLine_eq], go d (by simpa using hd)⟩⟩
      | false => exact ⟨by simp [sizeLine_eq], go .non (by simp)⟩
    -- the second line about late
    have two : ∀ l : Bool, (late = true → (i : Int) < wide → l = true) → t__law_hook_b1_r2 spNames spTake spPick spValue { R with nx := dLoop (gNm 9) (t__law_hook_b1 spNames spTake spPick spValue) R (rangeD ((i : Int) + 1) k), ct := dLoop (gNm 9) (t__law_hook_b1 spNames spTake spPick spValue) R (rangeD ((i : Int) + 1) k), bk := R.nx } [some (.ref n), some (.str name), some (.str kind), some (.lst (ys.map D.str)), some (.lst [.str "number", .str "number", .str "word"]), some (.int many), some (.int wide), some (.ref f), some (.bl l), some (.int i), some (.str s), c11] (sup st0 f (.lst (ps.map Prm.d))) := by
      intro l hl
      simp only [t__law_hook_b1_r2, dFldS, dMeth, dMethK, dCallK, spK, dCallO, dJoined, djCons, djNil, dFmt, dDnew, dDnewM, rdFld, rdStrO, rdStr, dSeq, dAsg, dVar, dC, dCall, dCons, dNil, dOp, dUn, dTup, dLst, dLstM, dRet, dRetN, dNext, dDrop, dIfS, dTst, dAnd, dOr, dNot, dAndV, dOrV, dNotV, dIf, dPar, dPar3, dAsgG, gNm, gTp, gsCons, gsNil, dCB, dMt, dMt0, dSl, dPart, dNoPart, dKGet, dGet2, dDisp, dDispM, dpCons, dpNil, dFrz, dYes, rdSub, rdFdiv, rdMod, rdPow, rdLt, rdLe, rdGt, rdGe, rdAbs, rdMax, rdMin, rdI, rdI1, rdI2, rdNeg, rdInt, List.set_cons_zero, List.set_cons_succ, List.getElem?_cons_zero, List.getElem?_cons_succ, true_and, if_true, if_false, Bool.false_eq_true, rdEq, Bool.bne_false]
      cases l with
      | false =>
        simp only [Bool.false_eq_true, if_false]
        exact fin false (fun a b _ => hl a b) (fun _ _ => rfl)
      | true =>
        simp only [if_true, decide_eq_true_eq]
        by_cases c : kind = "through"
        · simp only [c, if_true]
          by_cases c0 : (i : Int) = 0
          · simp only [c0, decide_true, Bool.not_true]
            have i0 : i = 0 := by omega
            have := fin false (fun _ _ z => absurd i0 z) (fun _ _ => rfl)
            simpa [c, c0] using this
          · simp only [c0, decide_false, Bool.not_false]
            have := fin true (fun _ _ _ => rfl) (fun _ z => absurd (by omega) c0)
            simpa [c] using this
        · simp only [c, if_false, Bool.not_false]
          exact fin true (fun _ _ _ => rfl) (fun z => absurd z c)
    simp only [t__law_hook_b1_r1, dFldS, dMeth, dMethK, dCallK, spK, dCallO, dJoined, djCons, djNil, dFmt, dDnew, dDnewM, rdFld, rdStrO, rdStr, dSeq, dAsg, dVar, dC, dCall, dCons, dNil, dOp, dUn, dTup, dLst, dLstM, dRet, dRetN, dNext, dDrop, dIfS, dTst, dAnd, dOr, dNot, dAndV, dOrV, dNotV, dIf, dPar, dPar3, dAsgG, gNm, gTp, gsCons, gsNil, dCB, dMt, dMt0, dSl, dPart, dNoPart, dKGet, dGet2, dDisp, dDispM, dpCons, dpNil, dFrz, dYes, rdSub, rdFdiv, rdMod, rdPow, rdLt, rdLe, rdGt, rdGe, rdAbs, rdMax, rdMin, rdI, rdI1, rdI2, rdNeg, rdInt, List.set_cons_zero, List.set_cons_succ, List.getElem?_cons_zero, List.getElem?_cons_succ, true_and, if_true, if_false, Bool.false_eq_true]
    have tk : (late = true → ¬ (i : Int) < wide) → spTake [.ref n, .int 3] (sup st0 f (.lst (ps.map Prm.d))) (fun d st1 => rdEq false d (.int 0) st1 fun d st1 => t__law_hook_b1_r2 spNames spTake spPick spValue { R with nx := dLoop (gNm 9) (t__law_hook_b1 spNames spTake spPick spValue) R (rangeD ((i : Int) + 1) k), ct := dLoop (gNm 9) (t__law_hook_b1 spNames spTake spPick spValue) R (rangeD ((i : Int) + 1) k), bk := R.nx } [some (.ref n), some (.str name), some (.str kind), some (.lst (ys.map D.str)), some (.lst [.str "number", .str "number", .str "word"]), some (.int many), some (.int wide), some (.ref f), some d, some (.int i), some (.str s), c11] st1) fun _ _ _ => False := fun hl =>
      ⟨n, _, rfl, by decide, by decide, hn' _, fun r _ _ => two _ (fun a b => absurd b (hl a))⟩
    cases late with
    | false =>
      simp only [Bool.false_eq_true, if_false]
      exact tk (fun z => by cases z)
    | true =>
      simp only [if_true, decide_eq_true_eq]
      by_cases hw : (i : Int) < wide
      · simp only [hw, decide_true, if_true]
        exact two true (fun _ _ => rfl)
      · simp only [hw, decide_false, if_false]
        exact tk (fun _ => hw)
theorem rd_hook {n : Nat} {name kind : Str} {st : Sto} {Q : QD} (hn : st n = some .box) (q : ∀ es ls outs, HookOk kind es ls outs → Q (hookD name kind es ls outs) st) :
    t__law_hook spNames spTake spPick spValue (ends Q) [some (.ref n), some (.str name), some (.str kind), none, none, none, none, none, none, none, none, none] st := by
  simp only [t__law_hook, dFldS, dMeth, dMethK, dCallK, spK, dCallO, dJoined, djCons, djNil, dFmt, dDnew, dDnewM, rdFld, rdStrO, rdStr, dSeq, dAsg, dVar, dC, dCall, dCons, dNil, dOp, dUn, dTup, dLst, dLstM, dRet, dRetN, dNext, dDrop, dIfS, dTst, dAnd, dOr, dNot, dAndV, dOrV, dNotV, dIf, dPar, dPar3, dAsgG, gNm, gTp, gsCons, gsNil, dCB, dMt, dMt0, dSl, dPart, dNoPart, dKGet, dGet2, dDisp, dDispM, dpCons, dpNil, dFrz, dYes, rdSub, rdFdiv, rdMod, rdPow, rdLt, rdLe, rdGt, rdGe, rdAbs, rdMax, rdMin, rdI, rdI1, rdI2, rdNeg, rdInt, List.set_cons_zero, List.set_cons_succ, List.getElem?_cons_zero, List.getElem?_cons_succ]
  refine ⟨n, 3, rfl, hn, by decide, by decide, fun ys hnd hyl hy => ⟨by simp [sizeLine_eq], ?_⟩⟩
  have hyl : ys.length = 3 := by omega
  -- from many and wide on
  have main : ∀ (many wide : Int), 0 ≤ many → many ≤ 3 → 0 ≤ wide → (kind = "through" → 1 ≤ many ∧ 1 ≤ wide) → t__law_hook_r5 spNames spTake spPick spValue (ends Q) [some (.ref n), some (.str name), some (.str kind), some (.lst (ys.map D.str)), some (.lst [.str "number", .str "number", .str "word"]), some (.int many), some (.int wide), none, none, none, none, none] st := by
    intro many wide m0 m3 w0 mt
    simp only [t__law_hook_r5, dFldS, dMeth, dMethK, dCallK, spK, dCallO, dJoined, djCons, djNil, dFmt, dDnew, dDnewM, rdFld, rdStrO, rdStr, dSeq, dAsg, dVar, dC, dCall, dCons, dNil, dOp, dUn, dTup, dLst, dLstM, dRet, dRetN, dNext, dDrop, dIfS, dTst, dAnd, dOr, dNot, dAndV, dOrV, dNotV, dIf, dPar, dPar3, dAsgG, gNm, gTp, gsCons, gsNil, dCB, dMt, dMt0, dSl, dPart, dNoPart, dKGet, dGet2, dDisp, dDispM, dpCons, dpNil, dFrz, dYes, rdSub, rdFdiv, rdMod, rdPow, rdLt, rdLe, rdGt, rdGe, rdAbs, rdMax, rdMin, rdI, rdI1, rdI2, rdNeg, rdInt, List.set_cons_zero, List.set_cons_succ, List.getElem?_cons_zero, List.getElem?_cons_succ]
    refine ⟨Nat.zero_le _, fun f hf => ?_⟩
    have nf : n ≠ f := by rintro rfl; rw [hn] at hf; cases hf
    simp only [t__law_hook_r6, dFldS, dMeth, dMethK, dCallK, spK, dCallO, dJoined, djCons, djNil, dFmt, dDnew, dDnewM, rdFld, rdStrO, rdStr, dSeq, dAsg, dVar, dC, dCall, dCons, dNil, dOp, dUn, dTup, dLst, dLstM, dRet, dRetN, dNext, dDrop, dIfS, dTst, dAnd, dOr, dNot, dAndV, dOrV, dNotV, dIf, dPar, dPar3, dAsgG, gNm, gTp, gsCons, gsNil, dCB, dMt, dMt0, dSl, dPart, dNoPart, dKGet, dGet2, dDisp, dDispM, dpCons, dpNil, dFrz, dYes, rdSub, rdFdiv, rdMod, rdPow, rdLt, rdLe, rdGt, rdGe, rdAbs, rdMax, rdMin, rdI, rdI1, rdI2, rdNeg, rdInt, List.set_cons_zero, List.set_cons_succ, List.getElem?_cons_zero, List.getElem?_cons_succ, dFor, dRg1]
    refine ⟨⟨by omega, by omega⟩, ?_⟩
    refine hook_loop (ps := []) (i := 0) (st0 := st) hn hf hyl hy many.toNat false none none (by omega) ⟨rfl, rfl, fun p hp => absurd hp List.not_mem_nil, fun _ _ p hp => absurd hp List.not_mem_nil, by simp, fun _ p r e => by cases e⟩ fun ps late c9 c10 hI => ?_
    have e1 : ps.length = many.toNat := by rw [hI.len]; omega
    have e2 := hI.nms
    have e3 := hI.ok
    have fin : ∀ outs, isSort outs → (kind = "through" → ∃ p r, ps = p :: r ∧ outs = p.2.1) → t__law_hook_r8 spNames spTake spPick spValue (ends Q) [some (.ref n), some (.str name), some (.str kind), some (.lst (ys.map D.str)), some (.lst [.str "number", .str "number", .str "word"]), some (.int many), some (.int wide), some (.ref f), some (.bl late), c9, c10, some (.str outs)] (sup st f (.lst (ps.map Prm.d))) := by
      intro outs ho hth
      simp only [t__law_hook_r8, dFldS, dMeth, dMethK, dCallK, spK, dCallO, dJoined, djCons, djNil, dFmt, dDnew, dDnewM, rdFld, rdStrO, rdStr, dSeq, dAsg, dVar, dC, dCall, dCons, dNil, dOp, dUn, dTup, dLst, dLstM, dRet, dRetN, dNext, dDrop, dIfS, dTst, dAnd, dOr, dNot, dAndV, dOrV, dNotV, dIf, dPar, dPar3, dAsgG, gNm, gTp, gsCons, gsNil, dCB, dMt, dMt0, dSl, dPart, dNoPart, dKGet, dGet2, dDisp, dDispM, dpCons, dpNil, dFrz, dYes, rdSub, rdFdiv, rdMod, rdPow, rdLt, rdLe, rdGt, rdGe, rdAbs, rdMax, rdMin, rdI, rdI1, rdI2, rdNeg, rdInt, List.set_cons_zero, List.set_cons_succ, List.getElem?_cons_zero, List.getElem?_cons_succ, rdSl, look_lst (sup_same (st := st) (n := f) (m := .lst (ps.map Prm.d)))]
      rw [cutD_lo' _ _ w0, cutD_hi' _ _ w0, ← List.map_take, ← List.map_drop]
      refine ⟨by simp [sizeLine_eq], st, Sub.new hf, q (ps.take wide.toNat) (ps.drop wide.toNat) outs ⟨?_, ?_, ?_, ho, hI.pw, fun hk => ?_⟩⟩
      · rw [List.take_append_drop]; exact e3
      · rw [List.take_append_drop, e1]; omega
      · rw [List.take_append_drop, e2]; exact nm_nd hnd _
      · obtain ⟨p, r, e, eo⟩ := hth hk
        have w1 := (mt hk).2
        obtain ⟨w, hw⟩ : ∃ w, wide.toNat = w + 1 := ⟨wide.toNat - 1, by omega⟩
        exact ⟨p, r.take w, by rw [hw, e]; rfl, hI.thr hk p r e, eo⟩
    simp only [t__law_hook_r7, dFldS, dMeth, dMethK, dCallK, spK, dCallO, dJoined, djCons, djNil, dFmt, dDnew, dDnewM, rdFld, rdStrO, rdStr, dSeq, dAsg, dVar, dC, dCall, dCons, dNil, dOp, dUn, dTup, dLst, dLstM, dRet, dRetN, dNext, dDrop, dIfS, dTst, dAnd, dOr, dNot, dAndV, dOrV, dNotV, dIf, dPar, dPar3, dAsgG, gNm, gTp, gsCons, gsNil, dCB, dMt, dMt0, dSl, dPart, dNoPart, dKGet, dGet2, dDisp, dDispM, dpCons, dpNil, dFrz, dYes, rdSub, rdFdiv, rdMod, rdPow, rdLt, rdLe, rdGt, rdGe, rdAbs, rdMax, rdMin, rdI, rdI1, rdI2, rdNeg, rdInt, List.set_cons_zero, List.set_cons_succ, List.getElem?_cons_zero, List.getElem?_cons_succ, rdEq]
    by_cases c : kind = "through"
    · rw [if_pos (by simp [c])]
      have := (mt c).1
      cases ps with
      | nil => simp at e1; omega
      | cons p r =>
        rw [rdIx_nf]
        simp only [look_lst (sup_same (st := st) (n := f) (m := .lst ((p :: r).map Prm.d)))]
        refine onS_of (d := Prm.d p) atL0 ?_
        rw [rdIx_nf]
        simp only [look, Prm.d]
        refine onS_of (d := .str p.2.1) rfl ?_
        exact fin p.2.1 (e3 p (List.mem_cons_self ..)).2.1 (fun _ => ⟨p, r, rfl, rfl⟩)
    · rw [if_neg (by simp [c])]
      refine ⟨n, _, [.str "number", .str "number", .str "word"], rfl, by rw [sup_ne nf]; exact hn, rfl, by simp, by simp, fun x hx => ?_⟩
      obtain ⟨s, hs, rfl⟩ := sorts_mem hx
      exact fin s hs (fun z => absurd z c)
  simp only [t__law_hook_r1, dFldS, dMeth, dMethK, dCallK, spK, dCallO, dJoined, djCons, djNil, dFmt, dDnew, dDnewM, rdFld, rdStrO, rdStr, dSeq, dAsg, dVar, dC, dCall, dCons, dNil, dOp, dUn, dTup, dLst, dLstM, dRet, dRetN, dNext, dDrop, dIfS, dTst, dAnd, dOr, dNot, dAndV, dOrV, dNotV, dIf, dPar, dPar3, dAsgG, gNm, gTp, gsCons, gsNil, dCB, dMt, dMt0, dSl, dPart, dNoPart, dKGet, dGet2, dDisp, dDispM, dpCons, dpNil, dFrz, dYes, rdSub, rdFdiv, rdMod, rdPow, rdLt, rdLe, rdGt, rdGe, rdAbs, rdMax, rdMin, rdI, rdI1, rdI2, rdNeg, rdInt, List.set_cons_zero, List.set_cons_succ, List.getElem?_cons_zero, List.getElem?_cons_succ]
  refine ⟨n, _, rfl, by decide, by decide, hn, fun m0 a0 a1 => ?_⟩
  have two : ∀ many : Int, 0 ≤ many → many ≤ 3 → (kind = "through" → 1 ≤ many) → t__law_hook_r3 spNames spTake spPick spValue (ends Q) [some (.ref n), some (.str name), some (.str kind), some (.lst (ys.map D.str)), some (.lst [.str "number", .str "number", .str "word"]), some (.int many), none, none, none, none, none, none] st := by
    intro many b0 b1 bt
    simp only [t__law_hook_r3, dFldS, dMeth, dMethK, dCallK, spK, dCallO, dJoined, djCons, djNil, dFmt, dDnew, dDnewM, rdFld, rdStrO, rdStr, dSeq, dAsg, dVar, dC, dCall, dCons, dNil, dOp, dUn, dTup, dLst, dLstM, dRet, dRetN, dNext, dDrop, dIfS, dTst, dAnd, dOr, dNot, dAndV, dOrV, dNotV, dIf, dPar, dPar3, dAsgG, gNm, gTp, gsCons, gsNil, dCB, dMt, dMt0, dSl, dPart, dNoPart, dKGet, dGet2, dDisp, dDispM, dpCons, dpNil, dFrz, dYes, rdSub, rdFdiv, rdMod, rdPow, rdLt, rdLe, rdGt, rdGe, rdAbs, rdMax, rdMin, rdI, rdI1, rdI2, rdNeg, rdInt, List.set_cons_zero, List.set_cons_succ, List.getElem?_cons_zero, List.getElem?_cons_succ, rdAdd, look, true_and]
    refine ⟨n, _, rfl, by omega, by omega, hn, fun r r0 r1 => ?_⟩
    simp only [t__law_hook_r4, dFldS, dMeth, dMethK, dCallK, spK, dCallO, dJoined, djCons, djNil, dFmt, dDnew, dDnewM, rdFld, rdStrO, rdStr, dSeq, dAsg, dVar, dC, dCall, dCons, dNil, dOp, dUn, dTup, dLst, dLstM, dRet, dRetN, dNext, dDrop, dIfS, dTst, dAnd, dOr, dNot, dAndV, dOrV, dNotV, dIf, dPar, dPar3, dAsgG, gNm, gTp, gsCons, gsNil, dCB, dMt, dMt0, dSl, dPart, dNoPart, dKGet, dGet2, dDisp, dDispM, dpCons, dpNil, dFrz, dYes, rdSub, rdFdiv, rdMod, rdPow, rdLt, rdLe, rdGt, rdGe, rdAbs, rdMax, rdMin, rdI, rdI1, rdI2, rdNeg, rdInt, List.set_cons_zero, List.set_cons_succ, List.getElem?_cons_zero, List.getElem?_cons_succ, rdEq]
    by_cases c : kind = "through"
    · rw [if_pos (by simp [c])]
      exact main _ _ b0 b1 (by split <;> omega) (fun z => ⟨bt z, by split <;> omega⟩)
    · rw [if_neg (by simp [c])]
      exact main _ _ b0 b1 (by omega) (fun z => absurd z c)
  show t__law_hook_r2 spNames spTake spPick spValue (ends Q) [some (.ref n), some (.str name), some (.str kind), some (.lst (ys.map D.str)), some (.lst [.str "number", .str "number", .str "word"]), some (.int m0), none, none, none, none, none, none] st
  simp only [t__law_hook_r2, dFldS, dMeth, dMethK, dCallK, spK, dCallO, dJoined, djCons, djNil, dFmt, dDnew, dDnewM, rdFld, rdStrO, rdStr, dSeq, dAsg, dVar, dC, dCall, dCons, dNil, dOp, dUn, dTup, dLst, dLstM, dRet, dRetN, dNext, dDrop, dIfS, dTst, dAnd, dOr, dNot, dAndV, dOrV, dNotV, dIf, dPar, dPar3, dAsgG, gNm, gTp, gsCons, gsNil, dCB, dMt, dMt0, dSl, dPart, dNoPart, dKGet, dGet2, dDisp, dDispM, dpCons, dpNil, dFrz, dYes, rdSub, rdFdiv, rdMod, rdPow, rdLt, rdLe, rdGt, rdGe, rdAbs, rdMax, rdMin, rdI, rdI1, rdI2, rdNeg, rdInt, List.set_cons_zero, List.set_cons_succ, List.getElem?_cons_zero, List.getElem?_cons_succ, rdEq]
  by_cases c : kind = "through"
  · rw [if_pos (by simp [c])]
    exact two _ (by split <;> omega) (by split <;> omega) (fun _ => by split <;> omega)
  · rw [if_neg (by simp [c])]
    exact two _ a0 (by omega) (fun h => absurd h c)
end TL
namespace TL
open PySem PySem.Spec PyProof.Rows L2
def keptW : List Str := ["if", "then", "else", "not", "both", "and", "either", "or", "is", "none", "fail", "ask", "with", "giving", "failing", "inner", "unanswered"]
def kLETTERS : D := .str letters
def kSORTS : D := .tup [.str "number", .str "word"]
def kKEPT : D := .tup [.str "if", .str "then", .str "else", .str "not", .str "both", .str "and", .str "either", .str "or", .str "is", .str "none", .str "fail", .str "ask", .str "with", .str "giving", .str "failing", .str "inner", .str "unanswered"]
def kKINDS : D := .tup [.str "first", .str "through", .str "each"]
def t_is_integer : TDS :=
  (dRet (dAndV (dUn (rdIsB 1 .int) (dVar 0)) (dNotV (dUn (rdIsB 1 .bool) (dVar 0)))))
theorem st_is_integer (ds : List D) : startD ["thing"] ds = ds.map some ++ List.replicate (1 - ds.length) none := rfl
def t_is_name : TDS :=
  (dRet (dAndV (dUn (rdIsB 1 .str) (dVar 0)) (dAndV (dChain cLe cLe (dC (.int 1)) (dCB rdLen (dCons (dVar 0) dNil)) (dC (.int 8))) (dCB rdAll (dCons (dLc (dIt (dVar 0)) (gNm 1) dYes (dOp (rdIn false) (dVar 1) (dC kLETTERS)) [1]) dNil)))))
theorem st_is_name (ds : List D) : startD ["thing", "letter"] ds = ds.map some ++ List.replicate (2 - ds.length) none := rfl
def t_fits (is_integer : DSp) (is_name : DSp) : TDS :=
  (dRet (dIf (dTst (dOp (rdEq false) (dVar 0) (dC (.str "number")))) (dCall is_integer (dCons (dVar 1) dNil)) (dCall is_name (dCons (dVar 1) dNil))))
theorem st_fits (ds : List D) : startD ["sort", "thing"] ds = ds.map some ++ List.replicate (2 - ds.length) none := rfl
def t_shown_r1 (is_integer : DSp) : TDS :=
  (dRet (dIf (dTst (dCall is_integer (dCons (dVar 0) dNil))) (dCB rdStr (dCons (dVar 0) dNil)) (dOp rdAdd (dC (.str "'")) (dVar 0))))
def t_shown (is_integer : DSp) : TDS :=
  (dSeq (dIfS (dTst (dOp (rdIsN false) (dVar 0) (dC .non)))
  (dRet (dC (.str "none")))
  dNext)
  (t_shown_r1 is_integer))
theorem st_shown (ds : List D) : startD ["value"] ds = ds.map some ++ List.replicate (1 - ds.length) none := rfl
def t_whole : TDS :=
  (dRet (dIf (dTst (dOp (rdEq false) (dCB rdLen (dCons (dVar 0) dNil)) (dC (.int 3)))) (dCB rdTuple (dCons (dVar 0) dNil)) (dTup (dStar (dVar 0) (dCons (dC .non) dNil)))))
theorem st_whole (ds : List D) : startD ["param"] ds = ds.map some ++ List.replicate (1 - ds.length) none := rfl
def t_param_text_r1 (shown : DSp) : TDS :=
  (dRet (dIf (dTst (dOp (rdIsN false) (dVar 3) (dC .non))) (dJoined (djCons (dFmt (dVar 1)) (djCons (dC (.str ": ")) (djCons (dFmt (dVar 2)) djNil)))) (dJoined (djCons (dFmt (dVar 1)) (djCons (dC (.str ": ")) (djCons (dFmt (dVar 2)) (djCons (dC (.str " = ")) (djCons (dFmt (dCall shown (dCons (dVar 3) dNil))) djNil))))))))
def t_param_text (shown : DSp) : TDS :=
  (dSeq (dAsgG (dVar 0) (gTp 3 (gsCons (gNm 1) (gsCons (gNm 2) (gsCons (gNm 3) gsNil)))))
  (t_param_text_r1 shown))
theorem st_param_text (ds : List D) : startD ["param", "name", "sort", "default"] ds = ds.map some ++ List.replicate (4 - ds.length) none := rfl
theorem le_line {n : Nat} (h : n ≤ 1000) : n ≤ sizeLine := by rw [sizeLine_eq]; omega
theorem int_small {i : Int} (h : -2000000 ≤ i ∧ i ≤ 2000000) : i.natAbs.log2 < 1920 ∧ (Str.ofString (toString i)).length ≤ 10 := int_ok (by omega)
/-- atoms: no cells, no rows -/
def atomD : D → Bool
  | .non => true
  | .bl _ => true
  | .int _ => true
  | .str x => decide (x.length ≤ 1000)
  | .lst _ => true
  | .tup _ => true
  | .dct _ => true
  | _ => false
def intB : D → Bool
  | .int _ => true
  | _ => false
def nmB : D → Bool
  | .str x => decide (Lw x)
  | _ => false
def spIsInt : DSp := fun ds st Q _ => ∃ d, ds = [d] ∧ atomD d = true ∧ Q (.bl (intB d)) st
theorem rd_isInt {d : D} {st : Sto} {Q : QD} (h : atomD d = true) (q : Q (.bl (intB d)) st) : t_is_integer (ends Q) [some d] st := by
  cases d with
  | non => simp only [t_is_integer, dFldS, dMeth, dMethK, dCallK, spK, dCallO, dJoined, djCons, djNil, dFmt, dDnew, dDnewM, rdFld, rdStrO, rdStr, dSeq, dAsg, dVar, dC, dCall, dCons, dNil, dOp, dUn, dTup, dLst, dLstM, dRet, dRetN, dNext, dDrop, dIfS, dTst, dAnd, dOr, dNot, dAndV, dOrV, dNotV, dIf, dPar, dPar3, dAsgG, gNm, gTp, gsCons, gsNil, dCB, dMt, dMt0, dSl, dPart, dNoPart, dKGet, dGet2, dDisp, dDispM, dpCons, dpNil, dFrz, dYes, rdSub, rdFdiv, rdMod, rdPow, rdLt, rdLe, rdGt, rdGe, rdAbs, rdMax, rdMin, rdI, rdI1, rdI2, rdNeg, rdInt, List.set_cons_zero, List.set_cons_succ, List.getElem?_cons_zero, List.getElem?_cons_succ, true_and, if_true, if_false, Bool.false_eq_true, rdIsB, look, isB]; exact sb q
  | bl b => simp only [t_is_integer, dFldS, dMeth, dMethK, dCallK, spK, dCallO, dJoined, djCons, djNil, dFmt, dDnew, dDnewM, rdFld, rdStrO, rdStr, dSeq, dAsg, dVar, dC, dCall, dCons, dNil, dOp, dUn, dTup, dLst, dLstM, dRet, dRetN, dNext, dDrop, dIfS, dTst, dAnd, dOr, dNot, dAndV, dOrV, dNotV, dIf, dPar, dPar3, dAsgG, gNm, gTp, gsCons, gsNil, dCB, dMt, dMt0, dSl, dPart, dNoPart, dKGet, dGet2, dDisp, dDispM, dpCons, dpNil, dFrz, dYes, rdSub, rdFdiv, rdMod, rdPow, rdLt, rdLe, rdGt, rdGe, rdAbs, rdMax, rdMin, rdI, rdI1, rdI2, rdNeg, rdInt, List.set_cons_zero, List.set_cons_succ, List.getElem?_cons_zero, List.getElem?_cons_succ, true_and, if_true, if_false, Bool.false_eq_true, rdIsB, look, isB]; exact sb q
  | int i => simp only [t_is_integer, dFldS, dMeth, dMethK, dCallK, spK, dCallO, dJoined, djCons, djNil, dFmt, dDnew, dDnewM, rdFld, rdStrO, rdStr, dSeq, dAsg, dVar, dC, dCall, dCons, dNil, dOp, dUn, dTup, dLst, dLstM, dRet, dRetN, dNext, dDrop, dIfS, dTst, dAnd, dOr, dNot, dAndV, dOrV, dNotV, dIf, dPar, dPar3, dAsgG, gNm, gTp, gsCons, gsNil, dCB, dMt, dMt0, dSl, dPart, dNoPart, dKGet, dGet2, dDisp, dDispM, dpCons, dpNil, dFrz, dYes, rdSub, rdFdiv, rdMod, rdPow, rdLt, rdLe, rdGt, rdGe, rdAbs, rdMax, rdMin, rdI, rdI1, rdI2, rdNeg, rdInt, List.set_cons_zero, List.set_cons_succ, List.getElem?_cons_zero, List.getElem?_cons_succ, true_and, if_true, if_false, Bool.false_eq_true, rdIsB, look, isB]; exact sb q
  | str x => simp only [t_is_integer, dFldS, dMeth, dMethK, dCallK, spK, dCallO, dJoined, djCons, djNil, dFmt, dDnew, dDnewM, rdFld, rdStrO, rdStr, dSeq, dAsg, dVar, dC, dCall, dCons, dNil, dOp, dUn, dTup, dLst, dLstM, dRet, dRetN, dNext, dDrop, dIfS, dTst, dAnd, dOr, dNot, dAndV, dOrV, dNotV, dIf, dPar, dPar3, dAsgG, gNm, gTp, gsCons, gsNil, dCB, dMt, dMt0, dSl, dPart, dNoPart, dKGet, dGet2, dDisp, dDispM, dpCons, dpNil, dFrz, dYes, rdSub, rdFdiv, rdMod, rdPow, rdLt, rdLe, rdGt, rdGe, rdAbs, rdMax, rdMin, rdI, rdI1, rdI2, rdNeg, rdInt, List.set_cons_zero, List.set_cons_succ, List.getElem?_cons_zero, List.getElem?_cons_succ, true_and, if_true, if_false, Bool.false_eq_true, rdIsB, look, isB]; exact sb q
  | lst x => simp only [t_is_integer, dFldS, dMeth, dMethK, dCallK, spK, dCallO, dJoined, djCons, djNil, dFmt, dDnew, dDnewM, rdFld, rdStrO, rdStr, dSeq, dAsg, dVar, dC, dCall, dCons, dNil, dOp, dUn, dTup, dLst, dLstM, dRet, dRetN, dNext, dDrop, dIfS, dTst, dAnd, dOr, dNot, dAndV, dOrV, dNotV, dIf, dPar, dPar3, dAsgG, gNm, gTp, gsCons, gsNil, dCB, dMt, dMt0, dSl, dPart, dNoPart, dKGet, dGet2, dDisp, dDispM, dpCons, dpNil, dFrz, dYes, rdSub, rdFdiv, rdMod, rdPow, rdLt, rdLe, rdGt, rdGe, rdAbs, rdMax, rdMin, rdI, rdI1, rdI2, rdNeg, rdInt, List.set_cons_zero, List.set_cons_succ, List.getElem?_cons_zero, List.getElem?_cons_succ, true_and, if_true, if_false, Bool.false_eq_true, rdIsB, look, isB]; exact sb q
  | tup x => simp only [t_is_integer, dFldS, dMeth, dMethK, dCallK, spK, dCallO, dJoined, djCons, djNil, dFmt, dDnew, dDnewM, rdFld, rdStrO, rdStr, dSeq, dAsg, dVar, dC, dCall, dCons, dNil, dOp, dUn, dTup, dLst, dLstM, dRet, dRetN, dNext, dDrop, dIfS, dTst, dAnd, dOr, dNot, dAndV, dOrV, dNotV, dIf, dPar, dPar3, dAsgG, gNm, gTp, gsCons, gsNil, dCB, dMt, dMt0, dSl, dPart, dNoPart, dKGet, dGet2, dDisp, dDispM, dpCons, dpNil, dFrz, dYes, rdSub, rdFdiv, rdMod, rdPow, rdLt, rdLe, rdGt, rdGe, rdAbs, rdMax, rdMin, rdI, rdI1, rdI2, rdNeg, rdInt, List.set_cons_zero, List.set_cons_succ, List.getElem?_cons_zero, List.getElem?_cons_succ, true_and, if_true, if_false, Bool.false_eq_true, rdIsB, look, isB]; exact sb q
  | dct x => simp only [t_is_integer, dFldS, dMeth, dMethK, dCallK, spK, dCallO, dJoined, djCons, djNil, dFmt, dDnew, dDnewM, rdFld, rdStrO, rdStr, dSeq, dAsg, dVar, dC, dCall, dCons, dNil, dOp, dUn, dTup, dLst, dLstM, dRet, dRetN, dNext, dDrop, dIfS, dTst, dAnd, dOr, dNot, dAndV, dOrV, dNotV, dIf, dPar, dPar3, dAsgG, gNm, gTp, gsCons, gsNil, dCB, dMt, dMt0, dSl, dPart, dNoPart, dKGet, dGet2, dDisp, dDispM, dpCons, dpNil, dFrz, dYes, rdSub, rdFdiv, rdMod, rdPow, rdLt, rdLe, rdGt, rdGe, rdAbs, rdMax, rdMin, rdI, rdI1, rdI2, rdNeg, rdInt, List.set_cons_zero, List.set_cons_succ, List.getElem?_cons_zero, List.getElem?_cons_succ, true_and, if_true, if_false, Bool.false_eq_true, rdIsB, look, isB]; exact sb q
  | _ => cases h
/-- the letters of a word -/
theorem all_comp {env : DSt} {st : Sto} {Q : List D → Sto → Prop} (hl : env.length = 2) : ∀ (cs : List Nat) (acc : List Bool), acc.length + cs.length < 1000 → Q ((acc ++ cs.map isLow).map D.bl) st →
    dLcGo (gNm 1) dYes (dOp (rdIn false) (dVar 1) (dC kLETTERS)) env (cs.map fun c => D.str ⟨#[c]⟩) (acc.map D.bl) st Q
  | [], acc, _, h => by simpa [dLcGo] using h
  | c :: cs, acc, hz, h => by
    have e1 : ∀ d : D, (env.set 1 (some d))[1]? = some (some d) := fun d => by rw [List.getElem?_set_self (by omega)]
    simp only [List.map_cons, dLcGo, dFldS, dMeth, dMethK, dCallK, spK, dCallO, dJoined, djCons, djNil, dFmt, dDnew, dDnewM, rdFld, rdStrO, rdStr, dSeq, dAsg, dVar, dC, dCall, dCons, dNil, dOp, dUn, dTup, dLst, dLstM, dRet, dRetN, dNext, dDrop, dIfS, dTst, dAnd, dOr, dNot, dAndV, dOrV, dNotV, dIf, dPar, dPar3, dAsgG, gNm, gTp, gsCons, gsNil, dCB, dMt, dMt0, dSl, dPart, dNoPart, dKGet, dGet2, dDisp, dDispM, dpCons, dpNil, dFrz, dYes, rdSub, rdFdiv, rdMod, rdPow, rdLt, rdLe, rdGt, rdGe, rdAbs, rdMax, rdMin, rdI, rdI1, rdI2, rdNeg, rdInt, List.set_cons_zero, List.set_cons_succ, List.getElem?_cons_zero, List.getElem?_cons_succ, true_and, if_true, if_false, Bool.false_eq_true, e1, kLETTERS, rdIn]
    refine ⟨c, rfl, by rw [List.length_map, sizeLine_eq]; omega, ?_⟩
    have hm : (decide (c ∈ letters.cps.toList) != false) = isLow c := by
      have : letters.cps.toList = List.range' 97 26 := by decide +kernel
      rw [this, Bool.bne_false]
      unfold isLow
      by_cases h : 97 ≤ c ∧ c ≤ 122
      · simp [h]; omega
      · have : ¬ (c ∈ List.range' 97 26) := by simp; omega
        simp only [this, decide_false]
        by_cases h1 : 97 ≤ c <;> simp [h1] <;> omega
    rw [hm]
    have := all_comp hl cs (acc ++ [isLow c]) (by rw [List.length_cons] at hz; rw [List.length_append, List.length_singleton]; omega) (by simpa using h)
    rw [List.map_append] at this
    exact this
def spIsName : DSp := fun ds st Q _ => ∃ d, ds = [d] ∧ atomD d = true ∧ Q (.bl (nmB d)) st
theorem rd_isName {d : D} {st : Sto} {Q : QD} (h : atomD d = true) (q : Q (.bl (nmB d)) st) : t_is_name (ends Q) [some d, none] st := by
  cases d with
  | non => simp only [t_is_name, dFldS, dMeth, dMethK, dCallK, spK, dCallO, dJoined, djCons, djNil, dFmt, dDnew, dDnewM, rdFld, rdStrO, rdStr, dSeq, dAsg, dVar, dC, dCall, dCons, dNil, dOp, dUn, dTup, dLst, dLstM, dRet, dRetN, dNext, dDrop, dIfS, dTst, dAnd, dOr, dNot, dAndV, dOrV, dNotV, dIf, dPar, dPar3, dAsgG, gNm, gTp, gsCons, gsNil, dCB, dMt, dMt0, dSl, dPart, dNoPart, dKGet, dGet2, dDisp, dDispM, dpCons, dpNil, dFrz, dYes, rdSub, rdFdiv, rdMod, rdPow, rdLt, rdLe, rdGt, rdGe, rdAbs, rdMax, rdMin, rdI, rdI1, rdI2, rdNeg, rdInt, List.set_cons_zero, List.set_cons_succ, List.getElem?_cons_zero, List.getElem?_cons_succ, true_and, if_true, if_false, Bool.false_eq_true, rdIsB, look, isB]; exact sb q
  | bl b => simp only [t_is_name, dFldS, dMeth, dMethK, dCallK, spK, dCallO, dJoined, djCons, djNil, dFmt, dDnew, dDnewM, rdFld, rdStrO, rdStr, dSeq, dAsg, dVar, dC, dCall, dCons, dNil, dOp, dUn, dTup, dLst, dLstM, dRet, dRetN, dNext, dDrop, dIfS, dTst, dAnd, dOr, dNot, dAndV, dOrV, dNotV, dIf, dPar, dPar3, dAsgG, gNm, gTp, gsCons, gsNil, dCB, dMt, dMt0, dSl, dPart, dNoPart, dKGet, dGet2, dDisp, dDispM, dpCons, dpNil, dFrz, dYes, rdSub, rdFdiv, rdMod, rdPow, rdLt, rdLe, rdGt, rdGe, rdAbs, rdMax, rdMin, rdI, rdI1, rdI2, rdNeg, rdInt, List.set_cons_zero, List.set_cons_succ, List.getElem?_cons_zero, List.getElem?_cons_succ, true_and, if_true, if_false, Bool.false_eq_true, rdIsB, look, isB]; exact sb q
  | int i => simp only [t_is_name, dFldS, dMeth, dMethK, dCallK, spK, dCallO, dJoined, djCons, djNil, dFmt, dDnew, dDnewM, rdFld, rdStrO, rdStr, dSeq, dAsg, dVar, dC, dCall, dCons, dNil, dOp, dUn, dTup, dLst, dLstM, dRet, dRetN, dNext, dDrop, dIfS, dTst, dAnd, dOr, dNot, dAndV, dOrV, dNotV, dIf, dPar, dPar3, dAsgG, gNm, gTp, gsCons, gsNil, dCB, dMt, dMt0, dSl, dPart, dNoPart, dKGet, dGet2, dDisp, dDispM, dpCons, dpNil, dFrz, dYes, rdSub, rdFdiv, rdMod, rdPow, rdLt, rdLe, rdGt, rdGe, rdAbs, rdMax, rdMin, rdI, rdI1, rdI2, rdNeg, rdInt, List.set_cons_zero, List.set_cons_succ, List.getElem?_cons_zero, List.getElem?_cons_succ, true_and, if_true, if_false, Bool.false_eq_true, rdIsB, look, isB]; exact sb q
  | lst x => simp only [t_is_name, dFldS, dMeth, dMethK, dCallK, spK, dCallO, dJoined, djCons, djNil, dFmt, dDnew, dDnewM, rdFld, rdStrO, rdStr, dSeq, dAsg, dVar, dC, dCall, dCons, dNil, dOp, dUn, dTup, dLst, dLstM, dRet, dRetN, dNext, dDrop, dIfS, dTst, dAnd, dOr, dNot, dAndV, dOrV, dNotV, dIf, dPar, dPar3, dAsgG, gNm, gTp, gsCons, gsNil, dCB, dMt, dMt0, dSl, dPart, dNoPart, dKGet, dGet2, dDisp, dDispM, dpCons, dpNil, dFrz, dYes, rdSub, rdFdiv, rdMod, rdPow, rdLt, rdLe, rdGt, rdGe, rdAbs, rdMax, rdMin, rdI, rdI1, rdI2, rdNeg, rdInt, List.set_cons_zero, List.set_cons_succ, List.getElem?_cons_zero, List.getElem?_cons_succ, true_and, if_true, if_false, Bool.false_eq_true, rdIsB, look, isB]; exact sb q
  | tup x => simp only [t_is_name, dFldS, dMeth, dMethK, dCallK, spK, dCallO, dJoined, djCons, djNil, dFmt, dDnew, dDnewM, rdFld, rdStrO, rdStr, dSeq, dAsg, dVar, dC, dCall, dCons, dNil, dOp, dUn, dTup, dLst, dLstM, dRet, dRetN, dNext, dDrop, dIfS, dTst, dAnd, dOr, dNot, dAndV, dOrV, dNotV, dIf, dPar, dPar3, dAsgG, gNm, gTp, gsCons, gsNil, dCB, dMt, dMt0, dSl, dPart, dNoPart, dKGet, dGet2, dDisp, dDispM, dpCons, dpNil, dFrz, dYes, rdSub, rdFdiv, rdMod, rdPow, rdLt, rdLe, rdGt, rdGe, rdAbs, rdMax, rdMin, rdI, rdI1, rdI2, rdNeg, rdInt, List.set_cons_zero, List.set_cons_succ, List.getElem?_cons_zero, List.getElem?_cons_succ, true_and, if_true, if_false, Bool.false_eq_true, rdIsB, look, isB]; exact sb q
  | dct x => simp only [t_is_name, dFldS, dMeth, dMethK, dCallK, spK, dCallO, dJoined, djCons, djNil, dFmt, dDnew, dDnewM, rdFld, rdStrO, rdStr, dSeq, dAsg, dVar, dC, dCall, dCons, dNil, dOp, dUn, dTup, dLst, dLstM, dRet, dRetN, dNext, dDrop, dIfS, dTst, dAnd, dOr, dNot, dAndV, dOrV, dNotV, dIf, dPar, dPar3, dAsgG, gNm, gTp, gsCons, gsNil, dCB, dMt, dMt0, dSl, dPart, dNoPart, dKGet, dGet2, dDisp, dDispM, dpCons, dpNil, dFrz, dYes, rdSub, rdFdiv, rdMod, rdPow, rdLt, rdLe, rdGt, rdGe, rdAbs, rdMax, rdMin, rdI, rdI1, rdI2, rdNeg, rdInt, List.set_cons_zero, List.set_cons_succ, List.getElem?_cons_zero, List.getElem?_cons_succ, true_and, if_true, if_false, Bool.false_eq_true, rdIsB, look, isB]; exact sb q
  | str x =>
    simp only [atomD, decide_eq_true_eq] at h
    simp only [t_is_name, dFldS, dMeth, dMethK, dCallK, spK, dCallO, dJoined, djCons, djNil, dFmt, dDnew, dDnewM, rdFld, rdStrO, rdStr, dSeq, dAsg, dVar, dC, dCall, dCons, dNil, dOp, dUn, dTup, dLst, dLstM, dRet, dRetN, dNext, dDrop, dIfS, dTst, dAnd, dOr, dNot, dAndV, dOrV, dNotV, dIf, dPar, dPar3, dAsgG, gNm, gTp, gsCons, gsNil, dCB, dMt, dMt0, dSl, dPart, dNoPart, dKGet, dGet2, dDisp, dDispM, dpCons, dpNil, dFrz, dYes, rdSub, rdFdiv, rdMod, rdPow, rdLt, rdLe, rdGt, rdGe, rdAbs, rdMax, rdMin, rdI, rdI1, rdI2, rdNeg, rdInt, List.set_cons_zero, List.set_cons_succ, List.getElem?_cons_zero, List.getElem?_cons_succ, true_and, if_true, if_false, Bool.false_eq_true, rdIsB, look, isB, dChain, rdLen, cLe]
    refine ⟨le_line h, ?_⟩
    by_cases h1 : (1 : Int) ≤ x.length
    · by_cases h2 : (x.length : Int) ≤ 8
      · simp only [h1, h2, decide_true, if_true, dLc, dIt, dFldS, dMeth, dMethK, dCallK, spK, dCallO, dJoined, djCons, djNil, dFmt, dDnew, dDnewM, rdFld, rdStrO, rdStr, dSeq, dAsg, dVar, dC, dCall, dCons, dNil, dOp, dUn, dTup, dLst, dLstM, dRet, dRetN, dNext, dDrop, dIfS, dTst, dAnd, dOr, dNot, dAndV, dOrV, dNotV, dIf, dPar, dPar3, dAsgG, gNm, gTp, gsCons, gsNil, dCB, dMt, dMt0, dSl, dPart, dNoPart, dKGet, dGet2, dDisp, dDispM, dpCons, dpNil, dFrz, dYes, rdSub, rdFdiv, rdMod, rdPow, rdLt, rdLe, rdGt, rdGe, rdAbs, rdMax, rdMin, rdI, rdI1, rdI2, rdNeg, rdInt, List.set_cons_zero, List.set_cons_succ, List.getElem?_cons_zero, List.getElem?_cons_succ, true_and, if_true, if_false, Bool.false_eq_true, itemsOf, signsD]
        refine all_comp (acc := []) (wipeD_len _ _) x.cps.toList (by rw [← len_cps, List.length_nil]; omega) ?_
        simp only [rdAll, look, boolsOf_map]
        refine sb ?_
        have : nmB (.str x) = List.all (List.map isLow x.cps.toList) id := by
          rw [Bool.eq_iff_iff]
          simp only [List.all_map, List.all_eq_true, Function.comp, id]
          exact ⟨fun z => (of_decide_eq_true z : Lw x).2.2, fun z => decide_eq_true (⟨by omega, by omega, z⟩ : Lw x)⟩
        rw [this] at q
        exact q
      · simp only [h1, h2, decide_true, decide_false, if_true, Bool.false_eq_true, if_false]
        refine sb ?_
        have : nmB (.str x) = false := decide_eq_false (fun z => h2 (by have := z.2.1; omega))
        rw [this] at q; exact q
    · simp only [h1, decide_false, Bool.false_eq_true, if_false]
      refine sb ?_
      have : nmB (.str x) = false := decide_eq_false (fun z => h1 (by have := z.1; omega))
      rw [this] at q; exact q
  | _ => cases h
def fitB (sort : Str) (d : D) : Bool := if sort = "number" then intB d else nmB d
def spFits : DSp := fun ds st Q _ => ∃ sort d, ds = [.str sort, d] ∧ atomD d = true ∧ Q (.bl (fitB sort d)) st
theorem rd_fits {sort : Str} {d : D} {st : Sto} {Q : QD} (h : atomD d = true) (q : Q (.bl (fitB sort d)) st) : t_fits spIsInt spIsName (ends Q) [some (.str sort), some d] st := by
  simp only [t_fits, dFldS, dMeth, dMethK, dCallK, spK, dCallO, dJoined, djCons, djNil, dFmt, dDnew, dDnewM, rdFld, rdStrO, rdStr, dSeq, dAsg, dVar, dC, dCall, dCons, dNil, dOp, dUn, dTup, dLst, dLstM, dRet, dRetN, dNext, dDrop, dIfS, dTst, dAnd, dOr, dNot, dAndV, dOrV, dNotV, dIf, dPar, dPar3, dAsgG, gNm, gTp, gsCons, gsNil, dCB, dMt, dMt0, dSl, dPart, dNoPart, dKGet, dGet2, dDisp, dDispM, dpCons, dpNil, dFrz, dYes, rdSub, rdFdiv, rdMod, rdPow, rdLt, rdLe, rdGt, rdGe, rdAbs, rdMax, rdMin, rdI, rdI1, rdI2, rdNeg, rdInt, List.set_cons_zero, List.set_cons_succ, List.getElem?_cons_zero, List.getElem?_cons_succ, true_and, if_true, if_false, Bool.false_eq_true, rdEq, Bool.bne_false, decide_eq_true_eq]
  unfold fitB at q
  split
  · rename_i e; rw [if_pos e] at q; exact ⟨d, rfl, h, sb q⟩
  · rename_i e; rw [if_neg e] at q; exact ⟨d, rfl, h, sb q⟩
theorem VOk.atom {s : Str} {d : D} (h : VOk s d) : atomD d = true ∧ fitB s d = true := by
  rcases h with ⟨rfl, w, hw, rfl⟩ | ⟨rfl, k, h1, h2, rfl⟩
  · exact ⟨decide_eq_true (by have := hw.2.1; omega), by unfold fitB; rw [if_neg wn]; exact decide_eq_true hw⟩
  · exact ⟨rfl, rfl⟩
/-- the text of a default -/
def shw : D → Str
  | .int i => toString i
  | .str x => "'" ++ x
  | _ => "none"
def valD (d : D) : Prop := (∃ w, Lw w ∧ d = .str w) ∨ ∃ k : Int, -999 ≤ k ∧ k ≤ 999 ∧ d = .int k
theorem VOk.val {s : Str} {d : D} (h : VOk s d) : valD d := by
  rcases h with ⟨_, w, hw, rfl⟩ | ⟨_, k, h1, h2, rfl⟩
  · exact .inl ⟨w, hw, rfl⟩
  · exact .inr ⟨k, h1, h2, rfl⟩
def spShown : DSp := fun ds st Q _ => ∃ d, ds = [d] ∧ valD d ∧ Q (.str (shw d)) st
theorem rd_shown {d : D} {st : Sto} {Q : QD} (h : valD d) (q : Q (.str (shw d)) st) : t_shown spIsInt (ends Q) [some d] st := by
  rcases h with ⟨w, hw, rfl⟩ | ⟨k, h1, h2, rfl⟩
  · have e : (("'" : Str)).length = 1 := rfl
    simp only [t_shown, t_shown_r1, dFldS, dMeth, dMethK, dCallK, spK, dCallO, dJoined, djCons, djNil, dFmt, dDnew, dDnewM, rdFld, rdStrO, rdStr, dSeq, dAsg, dVar, dC, dCall, dCons, dNil, dOp, dUn, dTup, dLst, dLstM, dRet, dRetN, dNext, dDrop, dIfS, dTst, dAnd, dOr, dNot, dAndV, dOrV, dNotV, dIf, dPar, dPar3, dAsgG, gNm, gTp, gsCons, gsNil, dCB, dMt, dMt0, dSl, dPart, dNoPart, dKGet, dGet2, dDisp, dDispM, dpCons, dpNil, dFrz, dYes, rdSub, rdFdiv, rdMod, rdPow, rdLt, rdLe, rdGt, rdGe, rdAbs, rdMax, rdMin, rdI, rdI1, rdI2, rdNeg, rdInt, List.set_cons_zero, List.set_cons_succ, List.getElem?_cons_zero, List.getElem?_cons_succ, true_and, if_true, if_false, Bool.false_eq_true, rdIsN]
    refine ⟨_, rfl, decide_eq_true (by have := hw.2.1; omega), ?_⟩
    simp only [intB, dFldS, dMeth, dMethK, dCallK, spK, dCallO, dJoined, djCons, djNil, dFmt, dDnew, dDnewM, rdFld, rdStrO, rdStr, dSeq, dAsg, dVar, dC, dCall, dCons, dNil, dOp, dUn, dTup, dLst, dLstM, dRet, dRetN, dNext, dDrop, dIfS, dTst, dAnd, dOr, dNot, dAndV, dOrV, dNotV, dIf, dPar, dPar3, dAsgG, gNm, gTp, gsCons, gsNil, dCB, dMt, dMt0, dSl, dPart, dNoPart, dKGet, dGet2, dDisp, dDispM, dpCons, dpNil, dFrz, dYes, rdSub, rdFdiv, rdMod, rdPow, rdLt, rdLe, rdGt, rdGe, rdAbs, rdMax, rdMin, rdI, rdI1, rdI2, rdNeg, rdInt, List.set_cons_zero, List.set_cons_succ, List.getElem?_cons_zero, List.getElem?_cons_succ, true_and, if_true, if_false, Bool.false_eq_true, rdAdd, look]
    exact ⟨le_line (by have := hw.2.1; omega), sb q⟩
  · simp only [t_shown, t_shown_r1, dFldS, dMeth, dMethK, dCallK, spK, dCallO, dJoined, djCons, djNil, dFmt, dDnew, dDnewM, rdFld, rdStrO, rdStr, dSeq, dAsg, dVar, dC, dCall, dCons, dNil, dOp, dUn, dTup, dLst, dLstM, dRet, dRetN, dNext, dDrop, dIfS, dTst, dAnd, dOr, dNot, dAndV, dOrV, dNotV, dIf, dPar, dPar3, dAsgG, gNm, gTp, gsCons, gsNil, dCB, dMt, dMt0, dSl, dPart, dNoPart, dKGet, dGet2, dDisp, dDispM, dpCons, dpNil, dFrz, dYes, rdSub, rdFdiv, rdMod, rdPow, rdLt, rdLe, rdGt, rdGe, rdAbs, rdMax, rdMin, rdI, rdI1, rdI2, rdNeg, rdInt, List.set_cons_zero, List.set_cons_succ, List.getElem?_cons_zero, List.getElem?_cons_succ, true_and, if_true, if_false, Bool.false_eq_true, rdIsN]
    refine ⟨_, rfl, rfl, ?_⟩
    simp only [intB, dFldS, dMeth, dMethK, dCallK, spK, dCallO, dJoined, djCons, djNil, dFmt, dDnew, dDnewM, rdFld, rdStrO, rdStr, dSeq, dAsg, dVar, dC, dCall, dCons, dNil, dOp, dUn, dTup, dLst, dLstM, dRet, dRetN, dNext, dDrop, dIfS, dTst, dAnd, dOr, dNot, dAndV, dOrV, dNotV, dIf, dPar, dPar3, dAsgG, gNm, gTp, gsCons, gsNil, dCB, dMt, dMt0, dSl, dPart, dNoPart, dKGet, dGet2, dDisp, dDispM, dpCons, dpNil, dFrz, dYes, rdSub, rdFdiv, rdMod, rdPow, rdLt, rdLe, rdGt, rdGe, rdAbs, rdMax, rdMin, rdI, rdI1, rdI2, rdNeg, rdInt, List.set_cons_zero, List.set_cons_succ, List.getElem?_cons_zero, List.getElem?_cons_succ, true_and, if_true, if_false, Bool.false_eq_true]
    exact ⟨(int_small (by omega)).1, sb q⟩
/-! ### parameters -/
/-- a parameter told as a triple, or as a pair where there is no default -/
def toldP (p : Prm) (d : D) : Prop := d = p.d ∨ (p.2.2 = .non ∧ d = .tup [.str p.1, .str p.2.1])
def spWhole : DSp := fun ds st Q _ => ∃ (p : Prm) (d : D), ds = [d] ∧ toldP p d ∧ Q p.d st
theorem rd_whole {p : Prm} {d : D} {st : Sto} {Q : QD} (h : toldP p d) (q : Q p.d st) : t_whole (ends Q) [some d] st := by
  rcases h with rfl | ⟨e, rfl⟩
  · simp only [t_whole, dFldS, dMeth, dMethK, dCallK, spK, dCallO, dJoined, djCons, djNil, dFmt, dDnew, dDnewM, rdFld, rdStrO, rdStr, dSeq, dAsg, dVar, dC, dCall, dCons, dNil, dOp, dUn, dTup, dLst, dLstM, dRet, dRetN, dNext, dDrop, dIfS, dTst, dAnd, dOr, dNot, dAndV, dOrV, dNotV, dIf, dPar, dPar3, dAsgG, gNm, gTp, gsCons, gsNil, dCB, dMt, dMt0, dSl, dPart, dNoPart, dKGet, dGet2, dDisp, dDispM, dpCons, dpNil, dFrz, dYes, rdSub, rdFdiv, rdMod, rdPow, rdLt, rdLe, rdGt, rdGe, rdAbs, rdMax, rdMin, rdI, rdI1, rdI2, rdNeg, rdInt, List.set_cons_zero, List.set_cons_succ, List.getElem?_cons_zero, List.getElem?_cons_succ, true_and, if_true, if_false, Bool.false_eq_true, Prm.d, rdLen, look, List.length_cons, List.length_nil, rdEq, rdTuple]
    exact sb q
  · simp only [t_whole, dFldS, dMeth, dMethK, dCallK, spK, dCallO, dJoined, djCons, djNil, dFmt, dDnew, dDnewM, rdFld, rdStrO, rdStr, dSeq, dAsg, dVar, dC, dCall, dCons, dNil, dOp, dUn, dTup, dLst, dLstM, dRet, dRetN, dNext, dDrop, dIfS, dTst, dAnd, dOr, dNot, dAndV, dOrV, dNotV, dIf, dPar, dPar3, dAsgG, gNm, gTp, gsCons, gsNil, dCB, dMt, dMt0, dSl, dPart, dNoPart, dKGet, dGet2, dDisp, dDispM, dpCons, dpNil, dFrz, dYes, rdSub, rdFdiv, rdMod, rdPow, rdLt, rdLe, rdGt, rdGe, rdAbs, rdMax, rdMin, rdI, rdI1, rdI2, rdNeg, rdInt, List.set_cons_zero, List.set_cons_succ, List.getElem?_cons_zero, List.getElem?_cons_succ, true_and, if_true, if_false, Bool.false_eq_true, rdLen, look, List.length_cons, List.length_nil, rdEq, dStar, seqL, List.cons_append, List.nil_append]
    unfold Prm.d at q
    rw [e] at q
    exact ⟨by simp [sizeLine_eq], sb q⟩
def dflT : D → Str
  | .non => ""
  | d => (" = " : Str) ++ shw d
theorem dflT_nn {d : D} (h : d ≠ .non) : dflT d = (" = " : Str) ++ shw d := by cases d <;> first | exact absurd rfl h | rfl
def prmT (p : Prm) : Str := p.1 ++ ": " ++ p.2.1 ++ dflT p.2.2
theorem sort_len {s : Str} (h : isSort s) : s.length ≤ 6 := by rcases h with rfl | rfl <;> decide
theorem shw_len {d : D} (h : valD d) : (shw d).length ≤ 10 := by
  rcases h with ⟨w, hw, rfl⟩ | ⟨k, h1, h2, rfl⟩
  · have e : (("'" : Str)).length = 1 := rfl
    show (("'" : Str) ++ w).length ≤ 10
    rw [strLen_append]; have := hw.2.1; omega
  · exact (int_small (i := k) (by omega)).2
theorem str_nil (x : Str) : x ++ (("" : String) : Str) = x := by
  have : (("" : String) : Str) = Str.empty := by decide +kernel
  rw [this, Str.append_empty]
theorem nil_str (x : Str) : Str.empty ++ x = x := by
  apply chs_ext; rw [chs_app]; rfl
theorem str_assoc (x y z : Str) : x ++ y ++ z = x ++ (y ++ z) := by apply chs_ext; simp only [chs_app, List.append_assoc]
theorem prmT_len {p : Prm} (h : p.ok) : (prmT p).length ≤ 40 := by
  have e2 : ((": " : Str)).length = 2 := rfl
  have e3 : ((" = " : Str)).length = 3 := rfl
  have s := sort_len h.2.1
  have n := h.1.2.1
  unfold prmT
  rw [strLen_append, strLen_append, strLen_append]
  rcases h.2.2 with c | c
  · rw [c]
    have : (dflT .non).length = 0 := rfl
    omega
  · rw [dflT_nn c.nn, strLen_append]
    have := shw_len c.val
    omega
def spPText : DSp := fun ds st Q _ => ∃ p : Prm, ds = [p.d] ∧ p.ok ∧ Q (.str (prmT p)) st
theorem rd_ptext {p : Prm} {st : Sto} {Q : QD} (h : p.ok) (q : Q (.str (prmT p)) st) : t_param_text spShown (ends Q) [some p.d, none, none, none] st := by
  have e2 : ((": " : Str)).length = 2 := rfl
  have e3 : ((" = " : Str)).length = 3 := rfl
  have s := sort_len h.2.1
  have n := h.1.2.1
  have e0 : (Str.empty).length = 0 := rfl
  obtain ⟨x, so, d⟩ := p
  unfold prmT at q
  simp only at s n q
  simp only [t_param_text, t_param_text_r1, dFldS, dMeth, dMethK, dCallK, spK, dCallO, dJoined, djCons, djNil, dFmt, dDnew, dDnewM, rdFld, rdStrO, rdStr, dSeq, dAsg, dVar, dC, dCall, dCons, dNil, dOp, dUn, dTup, dLst, dLstM, dRet, dRetN, dNext, dDrop, dIfS, dTst, dAnd, dOr, dNot, dAndV, dOrV, dNotV, dIf, dPar, dPar3, dAsgG, gNm, gTp, gsCons, gsNil, dCB, dMt, dMt0, dSl, dPart, dNoPart, dKGet, dGet2, dDisp, dDispM, dpCons, dpNil, dFrz, dYes, rdSub, rdFdiv, rdMod, rdPow, rdLt, rdLe, rdGt, rdGe, rdAbs, rdMax, rdMin, rdI, rdI1, rdI2, rdNeg, rdInt, List.set_cons_zero, List.set_cons_succ, List.getElem?_cons_zero, List.getElem?_cons_succ, true_and, if_true, if_false, Bool.false_eq_true, Prm.d]
  rcases h.2.2 with rfl | hv
  · simp only [rdIsN, dFldS, dMeth, dMethK, dCallK, spK, dCallO, dJoined, djCons, djNil, dFmt, dDnew, dDnewM, rdFld, rdStrO, rdStr, dSeq, dAsg, dVar, dC, dCall, dCons, dNil, dOp, dUn, dTup, dLst, dLstM, dRet, dRetN, dNext, dDrop, dIfS, dTst, dAnd, dOr, dNot, dAndV, dOrV, dNotV, dIf, dPar, dPar3, dAsgG, gNm, gTp, gsCons, gsNil, dCB, dMt, dMt0, dSl, dPart, dNoPart, dKGet, dGet2, dDisp, dDispM, dpCons, dpNil, dFrz, dYes, rdSub, rdFdiv, rdMod, rdPow, rdLt, rdLe, rdGt, rdGe, rdAbs, rdMax, rdMin, rdI, rdI1, rdI2, rdNeg, rdInt, List.set_cons_zero, List.set_cons_succ, List.getElem?_cons_zero, List.getElem?_cons_succ, true_and, if_true, if_false, Bool.false_eq_true, Bool.not_false]
    rw [show dflT .non = (("" : String) : Str) from rfl, str_nil] at q
    simp only [if_true, nil_str]
    refine ⟨by first | rfl | (refine le_line ?_; (try simp only [strLen_append]); omega), by first | rfl | (refine le_line ?_; (try simp only [strLen_append]); omega), by first | rfl | (refine le_line ?_; (try simp only [strLen_append]); omega), by first | rfl | (refine le_line ?_; (try simp only [strLen_append]); omega), by first | rfl | (refine le_line ?_; (try simp only [strLen_append]); omega), by first | rfl | (refine le_line ?_; (try simp only [strLen_append]); omega), sb q⟩
  · have hn := hv.nn
    simp only at hn
    have hs : rdIsN false d .non st = fun Q => Q (.bl false) st := by
      cases d <;> first | exact absurd rfl hn | rfl
    simp only at hv
    simp only [hs, dFldS, dMeth, dMethK, dCallK, spK, dCallO, dJoined, djCons, djNil, dFmt, dDnew, dDnewM, rdFld, rdStrO, rdStr, dSeq, dAsg, dVar, dC, dCall, dCons, dNil, dOp, dUn, dTup, dLst, dLstM, dRet, dRetN, dNext, dDrop, dIfS, dTst, dAnd, dOr, dNot, dAndV, dOrV, dNotV, dIf, dPar, dPar3, dAsgG, gNm, gTp, gsCons, gsNil, dCB, dMt, dMt0, dSl, dPart, dNoPart, dKGet, dGet2, dDisp, dDispM, dpCons, dpNil, dFrz, dYes, rdSub, rdFdiv, rdMod, rdPow, rdLt, rdLe, rdGt, rdGe, rdAbs, rdMax, rdMin, rdI, rdI1, rdI2, rdNeg, rdInt, List.set_cons_zero, List.set_cons_succ, List.getElem?_cons_zero, List.getElem?_cons_succ, true_and, if_true, if_false, Bool.false_eq_true, nil_str]
    have l := shw_len hv.val
    rw [dflT_nn hn] at q
    refine ⟨by first | rfl | (refine le_line ?_; (try simp only [strLen_append]); omega), by first | rfl | (refine le_line ?_; (try simp only [strLen_append]); omega), by first | rfl | (refine le_line ?_; (try simp only [strLen_append]); omega), by first | rfl | (refine le_line ?_; (try simp only [strLen_append]); omega), by first | rfl | (refine le_line ?_; (try simp only [strLen_append]); omega), by first | rfl | (refine le_line ?_; (try simp only [strLen_append]); omega), by first | rfl | (refine le_line ?_; (try simp only [strLen_append]); omega), _, rfl, hv.val, by first | rfl | (refine le_line ?_; (try simp only [strLen_append]); omega), by first | rfl | (refine le_line ?_; (try simp only [strLen_append]); omega), ?_⟩
    rw [← str_assoc] at q
    exact sb q
end TL
namespace TL
open PySem PySem.Spec PyProof.Rows L2
def t_Hook_look_param_r6 (Xd : XDe) (is_name : DSp) (fits : DSp) : TDS :=
  (dIfS (dAnd (dTst (dOp rdLt (dVar 1) (dCB rdLen (dCons (dUn (rdFld [0] "params") (dVar 0)) dNil)))) (dAnd (dTst (dOp (rdIsN false) (dVar 4) (dC .non))) (dTst (dOp (rdEq true) (dVar 5) (dLst dNil)))))
  (dRaise 0 ["word", "name"] Xd (dCons (dC (.str "default")) (dCons (dVar 2) dNil)))
  dNext)
def t_Hook_look_param_r5 (Xd : XDe) (is_name : DSp) (fits : DSp) : TDS :=
  (dSeq (dAsg 5 (dLc (dIt (dSl (dUn (rdFld [0] "params") (dVar 0)) dNoPart (dPart (dVar 1)))) (gNm 6) (dTst (dOp (rdIsN true) (dOp rdIx (dVar 6) (dC (.int 2))) (dC .non))) (dVar 6) [6]))
  (t_Hook_look_param_r6 Xd is_name fits))
def t_Hook_look_param_r4 (Xd : XDe) (is_name : DSp) (fits : DSp) : TDS :=
  (dSeq (dIfS (dAnd (dTst (dOp (rdIsN true) (dVar 4) (dC .non))) (dNot (dTst (dCall fits (dCons (dVar 3) (dCons (dVar 4) dNil))))))
  (dRaise 0 ["word", "name"] Xd (dCons (dC (.str "default")) (dCons (dVar 2) dNil)))
  dNext)
  (t_Hook_look_param_r5 Xd is_name fits))
def t_Hook_look_param_r3 (Xd : XDe) (is_name : DSp) (fits : DSp) : TDS :=
  (dSeq (dIfS (dTst (dOp (rdIn true) (dVar 3) (dC kSORTS)))
  (dRaise 0 ["word", "name"] Xd (dCons (dC (.str "sort")) (dCons (dVar 2) dNil)))
  dNext)
  (t_Hook_look_param_r4 Xd is_name fits))
def t_Hook_look_param_r2 (Xd : XDe) (is_name : DSp) (fits : DSp) : TDS :=
  (dSeq (dIfS (dTst (dOp (rdIn false) (dVar 2) (dSl (dUn (rdFld [0] "names") (dVar 0)) dNoPart (dPart (dVar 1)))))
  (dRaise 0 ["word", "name"] Xd (dCons (dC (.str "twice")) (dCons (dVar 2) dNil)))
  dNext)
  (t_Hook_look_param_r3 Xd is_name fits))
def t_Hook_look_param_r1 (Xd : XDe) (is_name : DSp) (fits : DSp) : TDS :=
  (dSeq (dIfS (dOr (dNot (dTst (dCall is_name (dCons (dVar 2) dNil)))) (dTst (dOp (rdIn false) (dVar 2) (dC kKEPT))))
  (dRaise 0 ["word", "name"] Xd (dCons (dC (.str "param")) (dCons (dVar 2) dNil)))
  dNext)
  (t_Hook_look_param_r2 Xd is_name fits))
def t_Hook_look_param (Xd : XDe) (is_name : DSp) (fits : DSp) : TDS :=
  (dSeq (dAsgG (dOp rdIx (dTup (dStar (dUn (rdFld [0] "params") (dVar 0)) (dStar (dUn (rdFld [0] "only") (dVar 0)) dNil))) (dVar 1)) (gTp 3 (gsCons (gNm 2) (gsCons (gNm 3) (gsCons (gNm 4) gsNil)))))
  (t_Hook_look_param_r1 Xd is_name fits))
theorem st_Hook_look_param (ds : List D) : startD ["self", "at", "name", "sort", "default", "elder", "param"] ds = ds.map some ++ List.replicate (7 - ds.length) none := rfl
def t_Hook_look_b1 (Xd : XDe) (is_name : DSp) (m_look_param : Nat → DSp) : TDS :=
  (dDrop (dMethX [0] "look_param" m_look_param Xd (dVar 0) (dCons (dVar 1) dNil)))
def t_Hook_look_r5 (Xd : XDe) (is_name : DSp) (m_look_param : Nat → DSp) : TDS :=
  (dIfS (dOr (dTst (dOp (rdIn true) (dUn (rdFld [0] "gives") (dVar 0)) (dC kSORTS))) (dAnd (dTst (dOp (rdEq false) (dUn (rdFld [0] "kind") (dVar 0)) (dC (.str "through")))) (dTst (dOp (rdEq true) (dUn (rdFld [0] "gives") (dVar 0)) (dOp rdIx (dOp rdIx (dUn (rdFld [0] "params") (dVar 0)) (dC (.int 0))) (dC (.int 1)))))))
  (dRaise 0 ["word", "name"] Xd (dCons (dC (.str "gives")) (dCons (dUn (rdFld [0] "name") (dVar 0)) dNil)))
  dNext)
def t_Hook_look_r4 (Xd : XDe) (is_name : DSp) (m_look_param : Nat → DSp) : TDS :=
  (dSeq (dIfS (dAnd (dTst (dOp (rdEq false) (dUn (rdFld [0] "kind") (dVar 0)) (dC (.str "through")))) (dOr (dTst (dOp (rdEq false) (dCB rdLen (dCons (dUn (rdFld [0] "params") (dVar 0)) dNil)) (dC (.int 0)))) (dTst (dOp (rdIsN true) (dOp rdIx (dOp rdIx (dUn (rdFld [0] "params") (dVar 0)) (dC (.int 0))) (dC (.int 2))) (dC .non)))))
  (dRaise 0 ["word", "name"] Xd (dCons (dC (.str "through")) (dCons (dUn (rdFld [0] "name") (dVar 0)) dNil)))
  dNext)
  (t_Hook_look_r5 Xd is_name m_look_param))
def t_Hook_look_r3 (Xd : XDe) (is_name : DSp) (m_look_param : Nat → DSp) : TDS :=
  (dSeq (dIfS (dTst (dOp rdGt (dCB rdLen (dCons (dUn (rdFld [0] "names") (dVar 0)) dNil)) (dC (.int 3))))
  (dRaise 0 ["word", "name"] Xd (dCons (dC (.str "many")) (dCons (dUn (rdFld [0] "name") (dVar 0)) dNil)))
  dNext)
  (t_Hook_look_r4 Xd is_name m_look_param))
def t_Hook_look_r2 (Xd : XDe) (is_name : DSp) (m_look_param : Nat → DSp) : TDS :=
  (dSeq (dFor (dRg1 (dCB rdLen (dCons (dUn (rdFld [0] "names") (dVar 0)) dNil))) (gNm 1)
  (t_Hook_look_b1 Xd is_name m_look_param))
  (t_Hook_look_r3 Xd is_name m_look_param))
def t_Hook_look_r1 (Xd : XDe) (is_name : DSp) (m_look_param : Nat → DSp) : TDS :=
  (dSeq (dIfS (dTst (dOp (rdIn true) (dUn (rdFld [0] "kind") (dVar 0)) (dC kKINDS)))
  (dRaise 0 ["word", "name"] Xd (dCons (dC (.str "kind")) (dCons (dUn (rdFld [0] "name") (dVar 0)) dNil)))
  dNext)
  (t_Hook_look_r2 Xd is_name m_look_param))
def t_Hook_look (Xd : XDe) (is_name : DSp) (m_look_param : Nat → DSp) : TDS :=
  (dSeq (dIfS (dNot (dTst (dCall is_name (dCons (dUn (rdFld [0] "name") (dVar 0)) dNil))))
  (dRaise 0 ["word", "name"] Xd (dCons (dC (.str "name")) (dCons (dUn (rdFld [0] "name") (dVar 0)) dNil)))
  dNext)
  (t_Hook_look_r1 Xd is_name m_look_param))
theorem st_Hook_look (ds : List D) : startD ["self", "at"] ds = ds.map some ++ List.replicate (2 - ds.length) none := rfl
def t_Hook___init___r6 (Xd : XDe) (whole : DSp) (m_look : Nat → DSp) : TDS :=
  (dDrop (dMethX [0] "look" m_look Xd (dVar 0) dNil))
def t_Hook___init___r5 (Xd : XDe) (whole : DSp) (m_look : Nat → DSp) : TDS :=
  (dSeq (dFldS [0] "names" (dVar 0) (dCB rdTuple (dCons (dLc (dIt (dTup (dStar (dUn (rdFld [0] "params") (dVar 0)) (dStar (dUn (rdFld [0] "only") (dVar 0)) dNil)))) (gNm 6) dYes (dOp rdIx (dVar 6) (dC (.int 0))) [6]) dNil)))
  (t_Hook___init___r6 Xd whole m_look))
def t_Hook___init___r4 (Xd : XDe) (whole : DSp) (m_look : Nat → DSp) : TDS :=
  (dSeq (dFldS [0] "only" (dVar 0) (dCB rdTuple (dCons (dLcC (dVar 4) (gNm 6) dYes (dCall whole (dCons (dVar 6) dNil)) [6]) dNil)))
  (t_Hook___init___r5 Xd whole m_look))
def t_Hook___init___r3 (Xd : XDe) (whole : DSp) (m_look : Nat → DSp) : TDS :=
  (dSeq (dFldS [0] "params" (dVar 0) (dCB rdTuple (dCons (dLcC (dVar 3) (gNm 6) dYes (dCall whole (dCons (dVar 6) dNil)) [6]) dNil)))
  (t_Hook___init___r4 Xd whole m_look))
def t_Hook___init___r2 (Xd : XDe) (whole : DSp) (m_look : Nat → DSp) : TDS :=
  (dSeq (dFldS [0] "gives" (dVar 0) (dVar 5))
  (t_Hook___init___r3 Xd whole m_look))
def t_Hook___init___r1 (Xd : XDe) (whole : DSp) (m_look : Nat → DSp) : TDS :=
  (dSeq (dFldS [0] "kind" (dVar 0) (dVar 2))
  (t_Hook___init___r2 Xd whole m_look))
def t_Hook___init__ (Xd : XDe) (whole : DSp) (m_look : Nat → DSp) : TDS :=
  (dSeq (dFldS [0] "name" (dVar 0) (dVar 1))
  (t_Hook___init___r1 Xd whole m_look))
theorem st_Hook___init__ (ds : List D) : startD ["self", "name", "kind", "params", "only", "gives", "param"] ds = ds.map some ++ List.replicate (7 - ds.length) none := rfl
theorem in_tup {neg : Bool} {x : Str} {ys : List Str} {st : Sto} {Q : QD} (hx : okS x = true) (hy : ∀ y ∈ ys, okS y = true) (q : Q (.bl (decide (x ∈ ys) != neg)) st) : rdIn neg (.str x) (.tup (ys.map D.str)) st Q := by
  obtain ⟨h1, h2, h3⟩ := strs_pys ys hy
  obtain ⟨ps, b1, b2, b3, b4, b5⟩ := oks_py _ h1
  rw [h3] at b1; cases b1
  have hs : ∀ p : PyData, p.canLay0 = true → p.depth ≤ 64 → SeqAt.shaped p = true := fun p a b => by unfold SeqAt.shaped; rw [a, Bool.true_and]; exact decide_eq_true b
  exact ⟨.str x, .tuple (ys.map PyData.str), by unfold pyv; simp [look, D.py], by unfold pyv; simp [look, D.py, h3], hs _ (by simp [PyData.canLay0, okS_strOk hx]) (by simp [PyData.depth]), hs _ (by simp [PyData.canLay0, b2]) (by simp only [PyData.depth]; omega), .inr ⟨_, rfl, by rw [any_eqv]; exact q⟩⟩
theorem in_lst {neg : Bool} {x : Str} {ys : List Str} {st : Sto} {Q : QD} (hx : okS x = true) (hy : ∀ y ∈ ys, okS y = true) (q : Q (.bl (decide (x ∈ ys) != neg)) st) : rdIn neg (.str x) (.lst (ys.map D.str)) st Q := by
  obtain ⟨h1, h2, h3⟩ := strs_pys ys hy
  obtain ⟨ps, b1, b2, b3, b4, b5⟩ := oks_py _ h1
  rw [h3] at b1; cases b1
  have hs : ∀ p : PyData, p.canLay0 = true → p.depth ≤ 64 → SeqAt.shaped p = true := fun p a b => by unfold SeqAt.shaped; rw [a, Bool.true_and]; exact decide_eq_true b
  exact ⟨.str x, .list (ys.map PyData.str), by unfold pyv; simp [look, D.py], by unfold pyv; simp [look, D.py, h3], hs _ (by simp [PyData.canLay0, okS_strOk hx]) (by simp [PyData.depth]), hs _ (by simp [PyData.canLay0, b2]) (by simp only [PyData.depth]; omega), .inl ⟨_, rfl, by rw [any_eqv]; exact q⟩⟩
theorem eq_str {neg : Bool} {a b : Str} {st : Sto} : rdEq neg (.str a) (.str b) st = fun Q => Q (.bl (decide (a = b) != neg)) st := rfl
/-! ### hooks told in any way -/
abbrev G3 := D × Str × D
def G3.d (p : G3) : D := .tup [p.1, .str p.2.1, p.2.2]
structure HG where
  name : D
  kind : Str
  es : List G3
  ls : List G3
  outs : Str
structure Gk (d : D) : Prop where
  at1 : atomD d = true
  ok : d.ok = true
  dp : d.dp ≤ 1
  wt : d.wt ≤ 300
def Kw (x : Str) : Prop := okS x = true ∧ x.length ≤ 20
structure G3.ok (p : G3) : Prop where
  nm : Gk p.1
  so : Kw p.2.1
  df : Gk p.2.2
structure HG.ok (h : HG) : Prop where
  nm : Gk h.name
  kd : Kw h.kind
  ou : Kw h.outs
  ps : ∀ p ∈ h.es ++ h.ls, p.ok
  few : (h.es ++ h.ls).length ≤ 8
def HG.d (h : HG) : D := .tup [h.name, .str h.kind, .lst (h.es.map G3.d), .lst (h.ls.map G3.d), .str h.outs]
def hookF (a b c d e f : D) : List (Str × D) := [("name", a), ("kind", b), ("gives", c), ("params", d), ("only", e), ("names", f)]
def HG.nms (h : HG) : List D := (h.es ++ h.ls).map (·.1)
def HG.o (h : HG) : D := .obj 0 (hookF h.name (.str h.kind) (.str h.outs) (.tup (h.es.map G3.d)) (.tup (h.ls.map G3.d)) (.tup h.nms))
def kindsW : List Str := ["first", "through", "each"]
def sortsW : List Str := ["number", "word"]
section
variable {a b c d e f : D}
theorem hf_name : List.lookup ("name" : Str) (hookF a b c d e f) = some a := by rfl
theorem hf_kind : List.lookup ("kind" : Str) (hookF a b c d e f) = some b := by rfl
theorem hf_gives : List.lookup ("gives" : Str) (hookF a b c d e f) = some c := by rfl
theorem hf_params : List.lookup ("params" : Str) (hookF a b c d e f) = some d := by rfl
theorem hf_only : List.lookup ("only" : Str) (hookF a b c d e f) = some e := by rfl
theorem hf_names : List.lookup ("names" : Str) (hookF a b c d e f) = some f := by rfl
theorem hf_look : List.lookup ("look" : Str) (hookF a b c d e f) = none := by rfl
theorem hf_lookp : List.lookup ("look_param" : Str) (hookF a b c d e f) = none := by rfl
end
theorem rf_of {f : Str} {o v : D} {fd : List (Str × D)} {st : Sto} (ho : look st o = .obj 0 fd) (hl : fd.lookup f = some v) : rdFld [0] f o st = fun Q => Q v st := by
  funext Q
  unfold rdFld
  simp only [ho, hl, List.mem_singleton, true_and]
section
variable {m : HG} {o : D} {st : Sto} (ho : look st o = m.o)
include ho
theorem rf_name : rdFld [0] "name" o st = fun Q => Q m.name st := rf_of ho hf_name
theorem rf_kind : rdFld [0] "kind" o st = fun Q => Q (.str m.kind) st := rf_of ho hf_kind
theorem rf_gives : rdFld [0] "gives" o st = fun Q => Q (.str m.outs) st := rf_of ho hf_gives
theorem rf_params : rdFld [0] "params" o st = fun Q => Q (.tup (m.es.map G3.d)) st := rf_of ho hf_params
theorem rf_only : rdFld [0] "only" o st = fun Q => Q (.tup (m.ls.map G3.d)) st := rf_of ho hf_only
theorem rf_names : rdFld [0] "names" o st = fun Q => Q (.tup m.nms) st := rf_of ho hf_names
end
theorem sorts_ok : ∀ y ∈ sortsW, okS y = true := by decide +kernel
theorem kept_ok : ∀ y ∈ keptW, okS y = true := by decide +kernel
theorem kinds_ok : ∀ y ∈ kindsW, okS y = true := by decide +kernel
theorem Lw.okS {x : Str} (h : Lw x) : okS x = true := low_okS h.2.2
/-! ### what is wrong -/
def isNon : D → Bool
  | .non => true
  | _ => false
theorem isN_of {d : D} {st : Sto} {Q : QD} (q : Q (.bl (isNon d)) st) : rdIsN false d .non st Q := by
  cases d <;> exact q
theorem isNt_of {d : D} {st : Sto} {Q : QD} (q : Q (.bl (!isNon d)) st) : rdIsN true d .non st Q := by
  cases d <;> exact q
def badN : D → Bool
  | .str x => !decide (Lw x) || decide (x ∈ keptW)
  | _ => true
def strN : D → Str
  | .str x => x
  | _ => ""
theorem badN_str {d : D} (h : badN d = false) : ∃ x, d = .str x ∧ Lw x ∧ x ∉ keptW := by
  cases d with
  | str x =>
    simp only [badN, Bool.or_eq_false_iff, Bool.not_eq_false', decide_eq_true_eq, decide_eq_false_iff_not] at h
    exact ⟨x, rfl, h.1, h.2⟩
  | _ => simp [badN] at h
def pwrong (lots : List G3) (w k : Nat) (p : G3) : Option Str :=
  if badN p.1 = true then some "param"
  else if strN p.1 ∈ (lots.take k).map (fun q => strN q.1) then some "twice"
  else if p.2.1 ∉ sortsW then some "sort"
  else if (!isNon p.2.2 && !fitB p.2.1 p.2.2) = true then some "default"
  else if (decide (k < w) && (isNon p.2.2 && (lots.take k).any fun q => !isNon q.2.2)) = true then some "default"
  else none
def pscan (lots : List G3) (w : Nat) : Nat → List G3 → Option (Str × D)
  | _, [] => none
  | k, p :: rest => match pwrong lots w k p with
    | some s => some (s, p.1)
    | none => pscan lots w (k + 1) rest
def thrBad : List G3 → Bool
  | [] => true
  | p :: _ => !isNon p.2.2
def givBad (outs : Str) : List G3 → Bool
  | [] => false
  | p :: _ => !decide (outs = p.2.1)
def wrongE (h : HG) : Option (Str × D) :=
  if 3 < (h.es ++ h.ls).length then some ("many", h.name)
  else if (decide (h.kind = "through") && thrBad h.es) = true then some ("through", h.name)
  else if (!decide (h.outs ∈ sortsW) || (decide (h.kind = "through") && givBad h.outs h.es)) = true then some ("gives", h.name)
  else none
def wrongH (h : HG) : Option (Str × D) :=
  if nmB h.name = false then some ("name", h.name)
  else if h.kind ∉ kindsW then some ("kind", h.name)
  else match pscan (h.es ++ h.ls) h.es.length 0 (h.es ++ h.ls) with
    | some r => some r
    | none => wrongE h
def badF (w : Str) (d : D) : List (Str × D) := [("name", d), ("word", .str w)]
theorem le_app {k : Nat} {es ls : List G3} (h : k ≤ es.length) : (es ++ ls).take k = es.take k := by rw [List.take_append_of_le_length h]
theorem names_str {lots : List G3} (h : ∀ q ∈ lots, badN q.1 = false) : lots.map (·.1) = (lots.map fun q => strN q.1).map D.str := by
  rw [List.map_map]
  refine List.map_congr_left fun q hq => ?_
  obtain ⟨x, e, _⟩ := badN_str (h q hq)
  show q.1 = D.str (strN q.1)
  rw [e]; rfl
theorem names_ok {lots : List G3} (h : ∀ q ∈ lots, badN q.1 = false) : ∀ y ∈ lots.map (fun q => strN q.1), okS y = true := fun y hy => by
  obtain ⟨q, hq, rfl⟩ := List.mem_map.mp hy
  obtain ⟨x, e, lw, _⟩ := badN_str (h q hq)
  show okS (strN q.1) = true
  rw [e]; exact lw.okS
theorem elder_comp {env : DSt} {st : Sto} {Q : List D → Sto → Prop} (hl : env.length = 7) : ∀ (ps : List G3) (acc : List D), acc.length + ps.length < 1000 → Q (acc ++ (ps.filter fun p => !isNon p.2.2).map G3.d) st →
    dLcGo (gNm 6) (dTst (dOp (rdIsN true) (dOp rdIx (dVar 6) (dC (.int 2))) (dC .non))) (dVar 6) env (ps.map G3.d) acc st Q
  | [], acc, _, h => by simpa [dLcGo] using h
  | p :: ps, acc, hz, h => by
    have e6 : ∀ d : D, (env.set 6 (some d))[6]? = some (some d) := fun d => by rw [List.getElem?_set_self (by omega)]
    rw [List.length_cons] at hz
    simp only [List.map_cons, dLcGo, dFldS, dMethK, dCallK, spK, dCallO, dJoined, djCons, djNil, dFmt, dDnew, dDnewM, rdStr, dSeq, dAsg, dVar, dC, dCall, dCons, dNil, dOp, dUn, dTup, dLst, dLstM, dRet, dRetN, dNext, dDrop, dIfS, dTst, dAnd, dOr, dNot, dAndV, dOrV, dNotV, dIf, dPar, dPar3, dAsgG, gNm, gTp, gsCons, gsNil, dCB, dMt, dMt0, dSl, dPart, dNoPart, dKGet, dDisp, dDispM, dpCons, dpNil, dFrz, dYes, rdSub, rdFdiv, rdMod, rdPow, rdLt, rdLe, rdGt, rdGe, rdAbs, rdMax, rdMin, rdI, rdI1, rdI2, rdNeg, rdInt, List.set_cons_zero, List.set_cons_succ, List.getElem?_cons_zero, List.getElem?_cons_succ, true_and, if_true, if_false, Bool.false_eq_true, e6, G3.d]
    refine ix_tup ?_
    rw [atL2, onS_some]
    refine isNt_of ?_
    cases c : isNon p.2.2 with
    | true =>
      simp only [dFldS, dMethK, dCallK, spK, dCallO, dJoined, djCons, djNil, dFmt, dDnew, dDnewM, rdStr, dSeq, dAsg, dVar, dC, dCall, dCons, dNil, dOp, dUn, dTup, dLst, dLstM, dRet, dRetN, dNext, dDrop, dIfS, dTst, dAnd, dOr, dNot, dAndV, dOrV, dNotV, dIf, dPar, dPar3, dAsgG, gNm, gTp, gsCons, gsNil, dCB, dMt, dMt0, dSl, dPart, dNoPart, dKGet, dDisp, dDispM, dpCons, dpNil, dFrz, dYes, rdSub, rdFdiv, rdMod, rdPow, rdLt, rdLe, rdGt, rdGe, rdAbs, rdMax, rdMin, rdI, rdI1, rdI2, rdNeg, rdInt, List.set_cons_zero, List.set_cons_succ, List.getElem?_cons_zero, List.getElem?_cons_succ, true_and, if_true, if_false, Bool.false_eq_true, Bool.not_true]
      refine elder_comp hl ps acc (by omega) ?_
      rw [List.filter_cons_of_neg (by simp [c])] at h
      exact h
    | false =>
      simp only [dFldS, dMethK, dCallK, spK, dCallO, dJoined, djCons, djNil, dFmt, dDnew, dDnewM, rdStr, dSeq, dAsg, dVar, dC, dCall, dCons, dNil, dOp, dUn, dTup, dLst, dLstM, dRet, dRetN, dNext, dDrop, dIfS, dTst, dAnd, dOr, dNot, dAndV, dOrV, dNotV, dIf, dPar, dPar3, dAsgG, gNm, gTp, gsCons, gsNil, dCB, dMt, dMt0, dSl, dPart, dNoPart, dKGet, dDisp, dDispM, dpCons, dpNil, dFrz, dYes, rdSub, rdFdiv, rdMod, rdPow, rdLt, rdLe, rdGt, rdGe, rdAbs, rdMax, rdMin, rdI, rdI1, rdI2, rdNeg, rdInt, List.set_cons_zero, List.set_cons_succ, List.getElem?_cons_zero, List.getElem?_cons_succ, true_and, if_true, if_false, Bool.false_eq_true, Bool.not_false]
      refine ⟨by rw [sizeLine_eq]; omega, ?_⟩
      refine elder_comp hl ps (acc ++ [G3.d p]) (by rw [List.length_append, List.length_singleton]; omega) ?_
      rw [List.filter_cons_of_pos (by simp [c])] at h
      simpa using h
theorem g3_ok {p : G3} (h : p.ok) : (G3.d p).ok = true ∧ (G3.d p).dp ≤ 2 := by
  have a := h.nm.dp
  have b := h.df.dp
  refine ⟨by simp only [G3.d, D.ok, D.oks, h.nm.ok, h.so.1, h.df.ok, Bool.and_self], ?_⟩
  simp only [G3.d, D.dp, D.dps]
  omega
theorem g3s_ok : ∀ {ps : List G3}, (∀ p ∈ ps, p.ok) → D.oks (ps.map G3.d) = true ∧ D.dps (ps.map G3.d) ≤ 2
  | [], _ => ⟨by simp [D.oks], by simp [D.dps]⟩
  | p :: ps, h => by
    obtain ⟨a, b⟩ := g3s_ok fun q hq => h q (List.mem_cons_of_mem _ hq)
    obtain ⟨c, d⟩ := g3_ok (h p (List.mem_cons_self ..))
    exact ⟨by simp only [List.map_cons, D.oks, a, c, Bool.and_self], by simp only [List.map_cons, D.dps]; omega⟩
theorem ends_nx {Q : QD} {env : DSt} {st : Sto} (h : Q .non st) : (ends Q).nx env st := ⟨st, Sub.refl st, h⟩
/-- how it ends -/
def endE (r : Option (Str × D)) (N : Prop) (Xf : Nat → List (Str × D) → Prop) : Prop := match r with
  | none => N
  | some (w, d) => Xf 0 (badF w d)
def spLookPs : Nat → DSp := fun _ ds st Q Xd => ∃ (o : D) (k : Nat) (m : HG) (p : G3), ds = [o, .int (k : Int)] ∧ look st o = HG.o m ∧ m.ok ∧ (m.es ++ m.ls)[k]? = some p ∧ (∀ q ∈ (m.es ++ m.ls).take k, badN q.1 = false) ∧ endE ((pwrong (m.es ++ m.ls) m.es.length k p).map fun s => (s, p.1)) (Q .non st) fun c f => Xd c f st
theorem rd_lookp {o : D} {m : HG} {k : Nat} {p : G3} {st : Sto} {Q : QD} {Xd : XD} (ho : look st o = m.o) (hm : m.ok) (hk : (m.es ++ m.ls)[k]? = some p) (hg : ∀ q ∈ (m.es ++ m.ls).take k, badN q.1 = false)
    (q : endE ((pwrong (m.es ++ m.ls) m.es.length k p).map fun s => (s, p.1)) (Q .non st) fun c f => Xd c f st) : t_Hook_look_param (endX Xd) spIsName spFits (ends Q) [some o, some (.int (k : Int)), none, none, none, none, none] st := by
  have hp := hm.ps p (List.mem_of_getElem? hk)
  have few := hm.few
  have kl := (List.getElem?_eq_some_iff.mp hk).1
  have xin : ∀ w d env, Xd 0 (badF w d) st → endX Xd 0 (badF w d) env st := fun w d env h => ⟨st, Sub.refl st, h⟩
  have ei : atI ((m.es ++ m.ls).map G3.d) (k : Int) = some p.d := by
    unfold atI ixN
    rw [if_pos (Int.natCast_nonneg k), if_pos (by rw [List.length_map]; omega)]
    show ((m.es ++ m.ls).map G3.d)[(k : Int).toNat]? = _
    rw [show (k : Int).toNat = k from rfl, List.getElem?_map, hk]; rfl
  simp only [t_Hook_look_param, dFldS, dMethK, dCallK, spK, dCallO, dJoined, djCons, djNil, dFmt, dDnew, dDnewM, rdStr, dSeq, dAsg, dVar, dC, dCall, dCons, dNil, dOp, dUn, dTup, dLst, dLstM, dRet, dRetN, dNext, dDrop, dIfS, dTst, dAnd, dOr, dNot, dAndV, dOrV, dNotV, dIf, dPar, dPar3, dAsgG, gNm, gTp, gsCons, gsNil, dCB, dMt, dMt0, dSl, dPart, dNoPart, dKGet, dDisp, dDispM, dpCons, dpNil, dFrz, dYes, rdSub, rdFdiv, rdMod, rdPow, rdLt, rdLe, rdGt, rdGe, rdAbs, rdMax, rdMin, rdI, rdI1, rdI2, rdNeg, rdInt, List.set_cons_zero, List.set_cons_succ, List.getElem?_cons_zero, List.getElem?_cons_succ, true_and, if_true, if_false, Bool.false_eq_true, dStar, rf_params ho, rf_only ho, seqL, look_int, look_str, look_tup, look_l, look_obj, look_bl, look_non, look_d, List.append_nil]
  refine ⟨by rw [List.length_append, List.length_map, List.length_map, ← List.length_append]; exact le_line (by omega), ?_⟩
  rw [← List.map_append]
  refine ix_tup ?_
  rw [ei, onS_some]
  simp only [G3.d, t_Hook_look_param_r1, dFldS, dMethK, dCallK, spK, dCallO, dJoined, djCons, djNil, dFmt, dDnew, dDnewM, rdStr, dSeq, dAsg, dVar, dC, dCall, dCons, dNil, dOp, dUn, dTup, dLst, dLstM, dRet, dRetN, dNext, dDrop, dIfS, dTst, dAnd, dOr, dNot, dAndV, dOrV, dNotV, dIf, dPar, dPar3, dAsgG, gNm, gTp, gsCons, gsNil, dCB, dMt, dMt0, dSl, dPart, dNoPart, dKGet, dDisp, dDispM, dpCons, dpNil, dFrz, dYes, rdSub, rdFdiv, rdMod, rdPow, rdLt, rdLe, rdGt, rdGe, rdAbs, rdMax, rdMin, rdI, rdI1, rdI2, rdNeg, rdInt, List.set_cons_zero, List.set_cons_succ, List.getElem?_cons_zero, List.getElem?_cons_succ, true_and, if_true, if_false, Bool.false_eq_true]
  refine ⟨by rfl, _, rfl, hp.nm.at1, ?_⟩
  unfold pwrong at q
  cases eb : badN p.1 with
  | true =>
    rw [if_pos eb] at q
    have go : endX Xd 0 (badF "param" p.1) [some o, some (.int (k : Int)), some p.1, some (.str p.2.1), some p.2.2, none, none] st := xin _ _ _ q
    cases en : nmB p.1 with
    | false =>
      simp only [en, dFldS, dMethK, dCallK, spK, dCallO, dJoined, djCons, djNil, dFmt, dDnew, dDnewM, rdStr, dSeq, dAsg, dVar, dC, dCall, dCons, dNil, dOp, dUn, dTup, dLst, dLstM, dRet, dRetN, dNext, dDrop, dIfS, dTst, dAnd, dOr, dNot, dAndV, dOrV, dNotV, dIf, dPar, dPar3, dAsgG, gNm, gTp, gsCons, gsNil, dCB, dMt, dMt0, dSl, dPart, dNoPart, dKGet, dDisp, dDispM, dpCons, dpNil, dFrz, dYes, rdSub, rdFdiv, rdMod, rdPow, rdLt, rdLe, rdGt, rdGe, rdAbs, rdMax, rdMin, rdI, rdI1, rdI2, rdNeg, rdInt, List.set_cons_zero, List.set_cons_succ, List.getElem?_cons_zero, List.getElem?_cons_succ, true_and, if_true, if_false, Bool.false_eq_true, Bool.not_false, dRaise]
      exact ⟨rfl, go⟩
    | true =>
      simp only [en, dFldS, dMethK, dCallK, spK, dCallO, dJoined, djCons, djNil, dFmt, dDnew, dDnewM, rdStr, dSeq, dAsg, dVar, dC, dCall, dCons, dNil, dOp, dUn, dTup, dLst, dLstM, dRet, dRetN, dNext, dDrop, dIfS, dTst, dAnd, dOr, dNot, dAndV, dOrV, dNotV, dIf, dPar, dPar3, dAsgG, gNm, gTp, gsCons, gsNil, dCB, dMt, dMt0, dSl, dPart, dNoPart, dKGet, dDisp, dDispM, dpCons, dpNil, dFrz, dYes, rdSub, rdFdiv, rdMod, rdPow, rdLt, rdLe, rdGt, rdGe, rdAbs, rdMax, rdMin, rdI, rdI1, rdI2, rdNeg, rdInt, List.set_cons_zero, List.set_cons_succ, List.getElem?_cons_zero, List.getElem?_cons_succ, true_and, if_true, if_false, Bool.false_eq_true, Bool.not_true]
      cases ed : p.1 with
      | str x =>
        rw [ed] at eb en
        have lw : Lw x := of_decide_eq_true en
        have hx : x ∈ keptW := by
          simp only [badN, decide_eq_true lw, Bool.not_true, Bool.false_or, decide_eq_true_eq] at eb
          exact eb
        refine in_tup (ys := keptW) lw.okS kept_ok ?_
        simp only [hx, decide_true, Bool.bne_false, dFldS, dMethK, dCallK, spK, dCallO, dJoined, djCons, djNil, dFmt, dDnew, dDnewM, rdStr, dSeq, dAsg, dVar, dC, dCall, dCons, dNil, dOp, dUn, dTup, dLst, dLstM, dRet, dRetN, dNext, dDrop, dIfS, dTst, dAnd, dOr, dNot, dAndV, dOrV, dNotV, dIf, dPar, dPar3, dAsgG, gNm, gTp, gsCons, gsNil, dCB, dMt, dMt0, dSl, dPart, dNoPart, dKGet, dDisp, dDispM, dpCons, dpNil, dFrz, dYes, rdSub, rdFdiv, rdMod, rdPow, rdLt, rdLe, rdGt, rdGe, rdAbs, rdMax, rdMin, rdI, rdI1, rdI2, rdNeg, rdInt, List.set_cons_zero, List.set_cons_succ, List.getElem?_cons_zero, List.getElem?_cons_succ, true_and, if_true, if_false, Bool.false_eq_true, dRaise]
        rw [ed] at go
        exact ⟨rfl, go⟩
      | _ => rw [ed] at en; simp [nmB] at en
  | false =>
    rw [if_neg (by rw [eb]; simp)] at q
    obtain ⟨x, ex, lw, nk⟩ := badN_str eb
    have nb : nmB p.1 = true := by rw [ex]; exact decide_eq_true lw
    simp only [nb, dFldS, dMethK, dCallK, spK, dCallO, dJoined, djCons, djNil, dFmt, dDnew, dDnewM, rdStr, dSeq, dAsg, dVar, dC, dCall, dCons, dNil, dOp, dUn, dTup, dLst, dLstM, dRet, dRetN, dNext, dDrop, dIfS, dTst, dAnd, dOr, dNot, dAndV, dOrV, dNotV, dIf, dPar, dPar3, dAsgG, gNm, gTp, gsCons, gsNil, dCB, dMt, dMt0, dSl, dPart, dNoPart, dKGet, dDisp, dDispM, dpCons, dpNil, dFrz, dYes, rdSub, rdFdiv, rdMod, rdPow, rdLt, rdLe, rdGt, rdGe, rdAbs, rdMax, rdMin, rdI, rdI1, rdI2, rdNeg, rdInt, List.set_cons_zero, List.set_cons_succ, List.getElem?_cons_zero, List.getElem?_cons_succ, true_and, if_true, if_false, Bool.false_eq_true, Bool.not_true]
    rw [ex]
    refine in_tup (ys := keptW) lw.okS kept_ok ?_
    simp only [nk, decide_false, bne_self_eq_false, dFldS, dMethK, dCallK, spK, dCallO, dJoined, djCons, djNil, dFmt, dDnew, dDnewM, rdStr, dSeq, dAsg, dVar, dC, dCall, dCons, dNil, dOp, dUn, dTup, dLst, dLstM, dRet, dRetN, dNext, dDrop, dIfS, dTst, dAnd, dOr, dNot, dAndV, dOrV, dNotV, dIf, dPar, dPar3, dAsgG, gNm, gTp, gsCons, gsNil, dCB, dMt, dMt0, dSl, dPart, dNoPart, dKGet, dDisp, dDispM, dpCons, dpNil, dFrz, dYes, rdSub, rdFdiv, rdMod, rdPow, rdLt, rdLe, rdGt, rdGe, rdAbs, rdMax, rdMin, rdI, rdI1, rdI2, rdNeg, rdInt, List.set_cons_zero, List.set_cons_succ, List.getElem?_cons_zero, List.getElem?_cons_succ, true_and, if_true, if_false, Bool.false_eq_true, t_Hook_look_param_r2, rf_names ho, rdSl, look_int, look_str, look_tup, look_l, look_obj, look_bl, look_non, look_d]
    rw [cutD_lo' _ _ (Int.natCast_nonneg k), show (k : Int).toNat = k from rfl, show m.nms = (m.es ++ m.ls).map (·.1) from rfl, ← List.map_take, names_str hg]
    refine in_tup lw.okS (names_ok hg) ?_
    have sx : strN p.1 = x := by rw [ex]; rfl
    rw [sx] at q
    by_cases ct : x ∈ ((m.es ++ m.ls).take k).map fun q => strN q.1
    · rw [if_pos ct] at q
      simp only [ct, decide_true, Bool.bne_false, dFldS, dMethK, dCallK, spK, dCallO, dJoined, djCons, djNil, dFmt, dDnew, dDnewM, rdStr, dSeq, dAsg, dVar, dC, dCall, dCons, dNil, dOp, dUn, dTup, dLst, dLstM, dRet, dRetN, dNext, dDrop, dIfS, dTst, dAnd, dOr, dNot, dAndV, dOrV, dNotV, dIf, dPar, dPar3, dAsgG, gNm, gTp, gsCons, gsNil, dCB, dMt, dMt0, dSl, dPart, dNoPart, dKGet, dDisp, dDispM, dpCons, dpNil, dFrz, dYes, rdSub, rdFdiv, rdMod, rdPow, rdLt, rdLe, rdGt, rdGe, rdAbs, rdMax, rdMin, rdI, rdI1, rdI2, rdNeg, rdInt, List.set_cons_zero, List.set_cons_succ, List.getElem?_cons_zero, List.getElem?_cons_succ, true_and, if_true, if_false, Bool.false_eq_true, dRaise]
      rw [ex] at q
      exact ⟨rfl, xin _ _ _ q⟩
    rw [if_neg ct] at q
    simp only [ct, decide_false, bne_self_eq_false, dFldS, dMethK, dCallK, spK, dCallO, dJoined, djCons, djNil, dFmt, dDnew, dDnewM, rdStr, dSeq, dAsg, dVar, dC, dCall, dCons, dNil, dOp, dUn, dTup, dLst, dLstM, dRet, dRetN, dNext, dDrop, dIfS, dTst, dAnd, dOr, dNot, dAndV, dOrV, dNotV, dIf, dPar, dPar3, dAsgG, gNm, gTp, gsCons, gsNil, dCB, dMt, dMt0, dSl, dPart, dNoPart, dKGet, dDisp, dDispM, dpCons, dpNil, dFrz, dYes, rdSub, rdFdiv, rdMod, rdPow, rdLt, rdLe, rdGt, rdGe, rdAbs, rdMax, rdMin, rdI, rdI1, rdI2, rdNeg, rdInt, List.set_cons_zero, List.set_cons_succ, List.getElem?_cons_zero, List.getElem?_cons_succ, true_and, if_true, if_false, Bool.false_eq_true, t_Hook_look_param_r3]
    refine in_tup (ys := sortsW) hp.so.1 sorts_ok ?_
    by_cases cs : p.2.1 ∈ sortsW
    · rw [if_neg (fun z => z cs)] at q
      simp only [cs, decide_true, bne_self_eq_false, dFldS, dMethK, dCallK, spK, dCallO, dJoined, djCons, djNil, dFmt, dDnew, dDnewM, rdStr, dSeq, dAsg, dVar, dC, dCall, dCons, dNil, dOp, dUn, dTup, dLst, dLstM, dRet, dRetN, dNext, dDrop, dIfS, dTst, dAnd, dOr, dNot, dAndV, dOrV, dNotV, dIf, dPar, dPar3, dAsgG, gNm, gTp, gsCons, gsNil, dCB, dMt, dMt0, dSl, dPart, dNoPart, dKGet, dDisp, dDispM, dpCons, dpNil, dFrz, dYes, rdSub, rdFdiv, rdMod, rdPow, rdLt, rdLe, rdGt, rdGe, rdAbs, rdMax, rdMin, rdI, rdI1, rdI2, rdNeg, rdInt, List.set_cons_zero, List.set_cons_succ, List.getElem?_cons_zero, List.getElem?_cons_succ, true_and, if_true, if_false, Bool.false_eq_true, t_Hook_look_param_r4]
      -- behind the default
      have rest : (!isNon p.2.2 && !fitB p.2.1 p.2.2) = false → t_Hook_look_param_r5 (endX Xd) spIsName spFits (ends Q) [some o, some (.int (k : Int)), some (.str x), some (.str p.2.1), some p.2.2, none, none] st := fun ed => by
        rw [if_neg (by rw [ed]; simp)] at q
        simp only [t_Hook_look_param_r5, dFldS, dMethK, dCallK, spK, dCallO, dJoined, djCons, djNil, dFmt, dDnew, dDnewM, rdStr, dSeq, dAsg, dVar, dC, dCall, dCons, dNil, dOp, dUn, dTup, dLst, dLstM, dRet, dRetN, dNext, dDrop, dIfS, dTst, dAnd, dOr, dNot, dAndV, dOrV, dNotV, dIf, dPar, dPar3, dAsgG, gNm, gTp, gsCons, gsNil, dCB, dMt, dMt0, dSl, dPart, dNoPart, dKGet, dDisp, dDispM, dpCons, dpNil, dFrz, dYes, rdSub, rdFdiv, rdMod, rdPow, rdLt, rdLe, rdGt, rdGe, rdAbs, rdMax, rdMin, rdI, rdI1, rdI2, rdNeg, rdInt, List.set_cons_zero, List.set_cons_succ, List.getElem?_cons_zero, List.getElem?_cons_succ, true_and, if_true, if_false, Bool.false_eq_true, dLc, dIt, rf_params ho, rdSl, look_int, look_str, look_tup, look_l, look_obj, look_bl, look_non, look_d]
        rw [cutD_lo' _ _ (Int.natCast_nonneg k), show (k : Int).toNat = k from rfl, ← List.map_take]
        simp only [itemsOf]
        refine elder_comp (wipeD_len _ _) (m.es.take k) [] (by rw [List.length_nil, List.length_take]; rw [List.length_append] at few; omega) ?_
        simp only [t_Hook_look_param_r6, dFldS, dMethK, dCallK, spK, dCallO, dJoined, djCons, djNil, dFmt, dDnew, dDnewM, rdStr, dSeq, dAsg, dVar, dC, dCall, dCons, dNil, dOp, dUn, dTup, dLst, dLstM, dRet, dRetN, dNext, dDrop, dIfS, dTst, dAnd, dOr, dNot, dAndV, dOrV, dNotV, dIf, dPar, dPar3, dAsgG, gNm, gTp, gsCons, gsNil, dCB, dMt, dMt0, dSl, dPart, dNoPart, dKGet, dDisp, dDispM, dpCons, dpNil, dFrz, dYes, rdSub, rdFdiv, rdMod, rdPow, rdLt, rdLe, rdGt, rdGe, rdAbs, rdMax, rdMin, rdI, rdI1, rdI2, rdNeg, rdInt, List.set_cons_zero, List.set_cons_succ, List.getElem?_cons_zero, List.getElem?_cons_succ, true_and, if_true, if_false, Bool.false_eq_true, rf_params ho, rdLen, look_int, look_str, look_tup, look_l, look_obj, look_bl, look_non, look_d, decide_eq_true_eq, List.nil_append, List.length_map]
        by_cases c : k < m.es.length
        · rw [if_pos (by omega)]
          refine isN_of ?_
          rw [decide_eq_true c, Bool.true_and] at q
          cases en : isNon p.2.2 with
          | false =>
            simp only [dFldS, dMethK, dCallK, spK, dCallO, dJoined, djCons, djNil, dFmt, dDnew, dDnewM, rdStr, dSeq, dAsg, dVar, dC, dCall, dCons, dNil, dOp, dUn, dTup, dLst, dLstM, dRet, dRetN, dNext, dDrop, dIfS, dTst, dAnd, dOr, dNot, dAndV, dOrV, dNotV, dIf, dPar, dPar3, dAsgG, gNm, gTp, gsCons, gsNil, dCB, dMt, dMt0, dSl, dPart, dNoPart, dKGet, dDisp, dDispM, dpCons, dpNil, dFrz, dYes, rdSub, rdFdiv, rdMod, rdPow, rdLt, rdLe, rdGt, rdGe, rdAbs, rdMax, rdMin, rdI, rdI1, rdI2, rdNeg, rdInt, List.set_cons_zero, List.set_cons_succ, List.getElem?_cons_zero, List.getElem?_cons_succ, true_and, if_true, if_false, Bool.false_eq_true]
            rw [en, Bool.false_and, if_neg (by simp)] at q
            exact ends_nx q
          | true =>
            simp only [dFldS, dMethK, dCallK, spK, dCallO, dJoined, djCons, djNil, dFmt, dDnew, dDnewM, rdStr, dSeq, dAsg, dVar, dC, dCall, dCons, dNil, dOp, dUn, dTup, dLst, dLstM, dRet, dRetN, dNext, dDrop, dIfS, dTst, dAnd, dOr, dNot, dAndV, dOrV, dNotV, dIf, dPar, dPar3, dAsgG, gNm, gTp, gsCons, gsNil, dCB, dMt, dMt0, dSl, dPart, dNoPart, dKGet, dDisp, dDispM, dpCons, dpNil, dFrz, dYes, rdSub, rdFdiv, rdMod, rdPow, rdLt, rdLe, rdGt, rdGe, rdAbs, rdMax, rdMin, rdI, rdI1, rdI2, rdNeg, rdInt, List.set_cons_zero, List.set_cons_succ, List.getElem?_cons_zero, List.getElem?_cons_succ, true_and, if_true, if_false, Bool.false_eq_true]
            rw [en, Bool.true_and, le_app (by omega)] at q
            have ok2 : ∀ r ∈ (m.es.take k).filter (fun p => !isNon p.2.2), G3.ok r := fun r hr => hm.ps r (List.mem_append_left _ (List.mem_of_mem_take (List.mem_filter.mp hr).1))
            obtain ⟨g1, g2⟩ := g3s_ok ok2
            refine ⟨by simp [sizeLine_eq], eq_nil g1 (by omega) ?_⟩
            have e : (decide (((m.es.take k).filter fun p => !isNon p.2.2).map G3.d = []) != true) = (m.es.take k).any fun q => !isNon q.2.2 := by
              rw [Bool.eq_iff_iff]
              simp
            rw [e]
            cases ea : (m.es.take k).any fun q => !isNon q.2.2 with
            | true =>
              rw [if_pos ea] at q
              simp only [dFldS, dMethK, dCallK, spK, dCallO, dJoined, djCons, djNil, dFmt, dDnew, dDnewM, rdStr, dSeq, dAsg, dVar, dC, dCall, dCons, dNil, dOp, dUn, dTup, dLst, dLstM, dRet, dRetN, dNext, dDrop, dIfS, dTst, dAnd, dOr, dNot, dAndV, dOrV, dNotV, dIf, dPar, dPar3, dAsgG, gNm, gTp, gsCons, gsNil, dCB, dMt, dMt0, dSl, dPart, dNoPart, dKGet, dDisp, dDispM, dpCons, dpNil, dFrz, dYes, rdSub, rdFdiv, rdMod, rdPow, rdLt, rdLe, rdGt, rdGe, rdAbs, rdMax, rdMin, rdI, rdI1, rdI2, rdNeg, rdInt, List.set_cons_zero, List.set_cons_succ, List.getElem?_cons_zero, List.getElem?_cons_succ, true_and, if_true, if_false, Bool.false_eq_true, dRaise]
              rw [ex] at q
              exact ⟨rfl, xin _ _ _ q⟩
            | false =>
              rw [if_neg (by rw [ea]; simp)] at q
              simp only [dFldS, dMethK, dCallK, spK, dCallO, dJoined, djCons, djNil, dFmt, dDnew, dDnewM, rdStr, dSeq, dAsg, dVar, dC, dCall, dCons, dNil, dOp, dUn, dTup, dLst, dLstM, dRet, dRetN, dNext, dDrop, dIfS, dTst, dAnd, dOr, dNot, dAndV, dOrV, dNotV, dIf, dPar, dPar3, dAsgG, gNm, gTp, gsCons, gsNil, dCB, dMt, dMt0, dSl, dPart, dNoPart, dKGet, dDisp, dDispM, dpCons, dpNil, dFrz, dYes, rdSub, rdFdiv, rdMod, rdPow, rdLt, rdLe, rdGt, rdGe, rdAbs, rdMax, rdMin, rdI, rdI1, rdI2, rdNeg, rdInt, List.set_cons_zero, List.set_cons_succ, List.getElem?_cons_zero, List.getElem?_cons_succ, true_and, if_true, if_false, Bool.false_eq_true]
              exact ends_nx q
        · rw [if_neg (by omega)]
          rw [decide_eq_false c, Bool.false_and, if_neg (by simp)] at q
          exact ends_nx q
      refine isNt_of ?_
      cases en : isNon p.2.2 with
      | true =>
        simp only [dFldS, dMethK, dCallK, spK, dCallO, dJoined, djCons, djNil, dFmt, dDnew, dDnewM, rdStr, dSeq, dAsg, dVar, dC, dCall, dCons, dNil, dOp, dUn, dTup, dLst, dLstM, dRet, dRetN, dNext, dDrop, dIfS, dTst, dAnd, dOr, dNot, dAndV, dOrV, dNotV, dIf, dPar, dPar3, dAsgG, gNm, gTp, gsCons, gsNil, dCB, dMt, dMt0, dSl, dPart, dNoPart, dKGet, dDisp, dDispM, dpCons, dpNil, dFrz, dYes, rdSub, rdFdiv, rdMod, rdPow, rdLt, rdLe, rdGt, rdGe, rdAbs, rdMax, rdMin, rdI, rdI1, rdI2, rdNeg, rdInt, List.set_cons_zero, List.set_cons_succ, List.getElem?_cons_zero, List.getElem?_cons_succ, true_and, if_true, if_false, Bool.false_eq_true, Bool.not_true]
        exact rest (by rw [en]; rfl)
      | false =>
        simp only [dFldS, dMethK, dCallK, spK, dCallO, dJoined, djCons, djNil, dFmt, dDnew, dDnewM, rdStr, dSeq, dAsg, dVar, dC, dCall, dCons, dNil, dOp, dUn, dTup, dLst, dLstM, dRet, dRetN, dNext, dDrop, dIfS, dTst, dAnd, dOr, dNot, dAndV, dOrV, dNotV, dIf, dPar, dPar3, dAsgG, gNm, gTp, gsCons, gsNil, dCB, dMt, dMt0, dSl, dPart, dNoPart, dKGet, dDisp, dDispM, dpCons, dpNil, dFrz, dYes, rdSub, rdFdiv, rdMod, rdPow, rdLt, rdLe, rdGt, rdGe, rdAbs, rdMax, rdMin, rdI, rdI1, rdI2, rdNeg, rdInt, List.set_cons_zero, List.set_cons_succ, List.getElem?_cons_zero, List.getElem?_cons_succ, true_and, if_true, if_false, Bool.false_eq_true, Bool.not_false]
        refine ⟨_, _, rfl, hp.df.at1, ?_⟩
        cases ef : fitB p.2.1 p.2.2 with
        | true =>
          simp only [dFldS, dMethK, dCallK, spK, dCallO, dJoined, djCons, djNil, dFmt, dDnew, dDnewM, rdStr, dSeq, dAsg, dVar, dC, dCall, dCons, dNil, dOp, dUn, dTup, dLst, dLstM, dRet, dRetN, dNext, dDrop, dIfS, dTst, dAnd, dOr, dNot, dAndV, dOrV, dNotV, dIf, dPar, dPar3, dAsgG, gNm, gTp, gsCons, gsNil, dCB, dMt, dMt0, dSl, dPart, dNoPart, dKGet, dDisp, dDispM, dpCons, dpNil, dFrz, dYes, rdSub, rdFdiv, rdMod, rdPow, rdLt, rdLe, rdGt, rdGe, rdAbs, rdMax, rdMin, rdI, rdI1, rdI2, rdNeg, rdInt, List.set_cons_zero, List.set_cons_succ, List.getElem?_cons_zero, List.getElem?_cons_succ, true_and, if_true, if_false, Bool.false_eq_true, Bool.not_true]
          exact rest (by rw [ef, Bool.not_true, Bool.and_false])
        | false =>
          simp only [dFldS, dMethK, dCallK, spK, dCallO, dJoined, djCons, djNil, dFmt, dDnew, dDnewM, rdStr, dSeq, dAsg, dVar, dC, dCall, dCons, dNil, dOp, dUn, dTup, dLst, dLstM, dRet, dRetN, dNext, dDrop, dIfS, dTst, dAnd, dOr, dNot, dAndV, dOrV, dNotV, dIf, dPar, dPar3, dAsgG, gNm, gTp, gsCons, gsNil, dCB, dMt, dMt0, dSl, dPart, dNoPart, dKGet, dDisp, dDispM, dpCons, dpNil, dFrz, dYes, rdSub, rdFdiv, rdMod, rdPow, rdLt, rdLe, rdGt, rdGe, rdAbs, rdMax, rdMin, rdI, rdI1, rdI2, rdNeg, rdInt, List.set_cons_zero, List.set_cons_succ, List.getElem?_cons_zero, List.getElem?_cons_succ, true_and, if_true, if_false, Bool.false_eq_true, Bool.not_false, dRaise]
          rw [if_pos (by rw [en, ef]; rfl), ex] at q
          exact ⟨rfl, xin _ _ _ q⟩
    · rw [if_pos cs] at q
      simp only [cs, decide_false, Bool.bne_true, Bool.not_false, dFldS, dMethK, dCallK, spK, dCallO, dJoined, djCons, djNil, dFmt, dDnew, dDnewM, rdStr, dSeq, dAsg, dVar, dC, dCall, dCons, dNil, dOp, dUn, dTup, dLst, dLstM, dRet, dRetN, dNext, dDrop, dIfS, dTst, dAnd, dOr, dNot, dAndV, dOrV, dNotV, dIf, dPar, dPar3, dAsgG, gNm, gTp, gsCons, gsNil, dCB, dMt, dMt0, dSl, dPart, dNoPart, dKGet, dDisp, dDispM, dpCons, dpNil, dFrz, dYes, rdSub, rdFdiv, rdMod, rdPow, rdLt, rdLe, rdGt, rdGe, rdAbs, rdMax, rdMin, rdI, rdI1, rdI2, rdNeg, rdInt, List.set_cons_zero, List.set_cons_succ, List.getElem?_cons_zero, List.getElem?_cons_succ, true_and, if_true, if_false, Bool.false_eq_true, dRaise]
      rw [ex] at q
      exact ⟨rfl, xin _ _ _ q⟩
end TL
namespace TL
open PySem PySem.Spec PyProof.Rows L2
/-! ### look -/
theorem endE_none {N : Prop} {Xf : Nat → List (Str × D) → Prop} (h : endE none N Xf) : N := h
theorem pscan_cons {lots : List G3} {w k : Nat} {p : G3} {rest : List G3} : pscan lots w k (p :: rest) = match pwrong lots w k p with
    | some s => some (s, p.1)
    | none => pscan lots w (k + 1) rest := rfl
theorem pwrong_bad {lots : List G3} {w k : Nat} {p : G3} (h : pwrong lots w k p = none) : badN p.1 = false ∧ p.2.1 ∈ sortsW := by
  unfold pwrong at h
  cases e : badN p.1 with
  | true => rw [if_pos e] at h; cases h
  | false =>
    rw [if_neg (by rw [e]; simp)] at h
    split at h
    · cases h
    · by_cases c : p.2.1 ∈ sortsW
      · exact ⟨rfl, c⟩
      · rw [if_pos c] at h; cases h
def spLooks : Nat → DSp := fun _ ds st Q Xd => ∃ (o : D) (m : HG), ds = [o] ∧ look st o = HG.o m ∧ m.ok ∧ endE (wrongH m) (Q .non st) fun c f => Xd c f st
theorem look_loop {o : D} {m : HG} {st : Sto} {R : DEnds} {Xd : XDe} (ho : look st o = m.o) (hm : m.ok) : ∀ (rest done : List G3) (x1 : Option D), m.es ++ m.ls = done ++ rest → (∀ q ∈ done, badN q.1 = false) → (∀ s d env, pscan (m.es ++ m.ls) m.es.length done.length rest = some (s, d) → Xd 0 (badF s d) env st) → (pscan (m.es ++ m.ls) m.es.length done.length rest = none → (∀ q ∈ m.es ++ m.ls, badN q.1 = false) → ∀ x1, R.nx [some o, x1] st) →
    dLoop (gNm 1) (t_Hook_look_b1 Xd spIsName spLookPs) R (rangeD (done.length : Int) rest.length) [some o, x1] st
  | [], done, x1, e, hd, hx, h => h rfl (by rw [e, List.append_nil]; exact hd) x1
  | p :: rest, done, x1, e, hd, hx, h => by
    rw [List.length_cons, rangeD_succ]
    simp only [dLoop, t_Hook_look_b1, dFldS, dMethK, dCallK, spK, dCallO, dJoined, djCons, djNil, dFmt, dDnew, dDnewM, rdStr, dSeq, dAsg, dVar, dC, dCall, dCons, dNil, dOp, dUn, dTup, dLst, dLstM, dRet, dRetN, dNext, dDrop, dIfS, dTst, dAnd, dOr, dNot, dAndV, dOrV, dNotV, dIf, dPar, dPar3, dAsgG, gNm, gTp, gsCons, gsNil, dCB, dMt, dMt0, dSl, dPart, dNoPart, dKGet, dDisp, dDispM, dpCons, dpNil, dFrz, dYes, rdSub, rdFdiv, rdMod, rdPow, rdLt, rdLe, rdGt, rdGe, rdAbs, rdMax, rdMin, rdI, rdI1, rdI2, rdNeg, rdInt, List.set_cons_zero, List.set_cons_succ, List.getElem?_cons_zero, List.getElem?_cons_succ, true_and, if_true, if_false, Bool.false_eq_true, dMethX, ho, HG.o]
    have ip : (m.es ++ m.ls)[done.length]? = some p := by rw [e, List.getElem?_append_right (Nat.le_refl _)]; simp
    have tk : (m.es ++ m.ls).take done.length = done := by rw [e, List.take_left']; rfl
    refine ⟨by decide, hf_lookp, o, done.length, m, p, rfl, ho, hm, ip, by rw [tk]; exact hd, ?_⟩
    cases ew : pwrong (m.es ++ m.ls) m.es.length done.length p with
    | some s => exact hx s p.1 _ (by rw [pscan_cons, ew])
    | none =>
      have e2 : m.es ++ m.ls = (done ++ [p]) ++ rest := by rw [e]; simp
      rw [pscan_cons, ew] at hx h
      have l : (done ++ [p]).length = done.length + 1 := by rw [List.length_append, List.length_singleton]
      have go := look_loop (R := R) (Xd := Xd) ho hm rest (done ++ [p]) (some (.int (done.length : Int))) e2 (fun q hq => by
        rcases List.mem_append.mp hq with hq | hq
        · exact hd q hq
        · rw [List.mem_singleton.mp hq]; exact (pwrong_bad ew).1) (by rw [l]; exact hx) (by rw [l]; exact h)
      rw [l] at go
      exact go
theorem gives_first {m : HG} {st : Sto} {p : G3} {r : List G3} {i : Nat} {v : D} {Q : QD} (he : m.es = p :: r) (hv : atI [p.1, .str p.2.1, p.2.2] (i : Int) = some v) (q : Q v st) : rdIx (.tup (m.es.map G3.d)) (.int 0) st fun d st1 => rdIx d (.int (i : Int)) st1 Q := by
  rw [he, List.map_cons]
  refine ix_tup ?_
  rw [atL0, onS_some]
  refine ix_tup ?_
  rw [hv, onS_some]
  exact q
theorem rd_look {o : D} {m : HG} {st : Sto} {Q : QD} {Xd : XD} (ho : look st o = m.o) (hm : m.ok) (q : endE (wrongH m) (Q .non st) fun c f => Xd c f st) : t_Hook_look (endX Xd) spIsName spLookPs (ends Q) [some o, none] st := by
  have few := hm.few
  have xin : ∀ w d env, Xd 0 (badF w d) st → endX Xd 0 (badF w d) env st := fun w d env h => ⟨st, Sub.refl st, h⟩
  simp only [t_Hook_look, dFldS, dMethK, dCallK, spK, dCallO, dJoined, djCons, djNil, dFmt, dDnew, dDnewM, rdStr, dSeq, dAsg, dVar, dC, dCall, dCons, dNil, dOp, dUn, dTup, dLst, dLstM, dRet, dRetN, dNext, dDrop, dIfS, dTst, dAnd, dOr, dNot, dAndV, dOrV, dNotV, dIf, dPar, dPar3, dAsgG, gNm, gTp, gsCons, gsNil, dCB, dMt, dMt0, dSl, dPart, dNoPart, dKGet, dDisp, dDispM, dpCons, dpNil, dFrz, dYes, rdSub, rdFdiv, rdMod, rdPow, rdLt, rdLe, rdGt, rdGe, rdAbs, rdMax, rdMin, rdI, rdI1, rdI2, rdNeg, rdInt, List.set_cons_zero, List.set_cons_succ, List.getElem?_cons_zero, List.getElem?_cons_succ, true_and, if_true, if_false, Bool.false_eq_true, rf_name ho]
  refine ⟨_, rfl, hm.nm.at1, ?_⟩
  unfold wrongH at q
  cases en : nmB m.name with
  | false =>
    rw [if_pos en] at q
    simp only [dFldS, dMethK, dCallK, spK, dCallO, dJoined, djCons, djNil, dFmt, dDnew, dDnewM, rdStr, dSeq, dAsg, dVar, dC, dCall, dCons, dNil, dOp, dUn, dTup, dLst, dLstM, dRet, dRetN, dNext, dDrop, dIfS, dTst, dAnd, dOr, dNot, dAndV, dOrV, dNotV, dIf, dPar, dPar3, dAsgG, gNm, gTp, gsCons, gsNil, dCB, dMt, dMt0, dSl, dPart, dNoPart, dKGet, dDisp, dDispM, dpCons, dpNil, dFrz, dYes, rdSub, rdFdiv, rdMod, rdPow, rdLt, rdLe, rdGt, rdGe, rdAbs, rdMax, rdMin, rdI, rdI1, rdI2, rdNeg, rdInt, List.set_cons_zero, List.set_cons_succ, List.getElem?_cons_zero, List.getElem?_cons_succ, true_and, if_true, if_false, Bool.false_eq_true, Bool.not_false, dRaise, rf_name ho]
    exact ⟨rfl, xin _ _ _ q⟩
  | true =>
  rw [if_neg (by rw [en]; simp)] at q
  simp only [dFldS, dMethK, dCallK, spK, dCallO, dJoined, djCons, djNil, dFmt, dDnew, dDnewM, rdStr, dSeq, dAsg, dVar, dC, dCall, dCons, dNil, dOp, dUn, dTup, dLst, dLstM, dRet, dRetN, dNext, dDrop, dIfS, dTst, dAnd, dOr, dNot, dAndV, dOrV, dNotV, dIf, dPar, dPar3, dAsgG, gNm, gTp, gsCons, gsNil, dCB, dMt, dMt0, dSl, dPart, dNoPart, dKGet, dDisp, dDispM, dpCons, dpNil, dFrz, dYes, rdSub, rdFdiv, rdMod, rdPow, rdLt, rdLe, rdGt, rdGe, rdAbs, rdMax, rdMin, rdI, rdI1, rdI2, rdNeg, rdInt, List.set_cons_zero, List.set_cons_succ, List.getElem?_cons_zero, List.getElem?_cons_succ, true_and, if_true, if_false, Bool.false_eq_true, Bool.not_true, t_Hook_look_r1, rf_kind ho]
  refine in_tup (ys := kindsW) hm.kd.1 kinds_ok ?_
  by_cases ck : m.kind ∈ kindsW
  case neg =>
    rw [if_pos ck] at q
    simp only [ck, decide_false, Bool.bne_true, Bool.not_false, dFldS, dMethK, dCallK, spK, dCallO, dJoined, djCons, djNil, dFmt, dDnew, dDnewM, rdStr, dSeq, dAsg, dVar, dC, dCall, dCons, dNil, dOp, dUn, dTup, dLst, dLstM, dRet, dRetN, dNext, dDrop, dIfS, dTst, dAnd, dOr, dNot, dAndV, dOrV, dNotV, dIf, dPar, dPar3, dAsgG, gNm, gTp, gsCons, gsNil, dCB, dMt, dMt0, dSl, dPart, dNoPart, dKGet, dDisp, dDispM, dpCons, dpNil, dFrz, dYes, rdSub, rdFdiv, rdMod, rdPow, rdLt, rdLe, rdGt, rdGe, rdAbs, rdMax, rdMin, rdI, rdI1, rdI2, rdNeg, rdInt, List.set_cons_zero, List.set_cons_succ, List.getElem?_cons_zero, List.getElem?_cons_succ, true_and, if_true, if_false, Bool.false_eq_true, dRaise, rf_name ho]
    exact ⟨rfl, xin _ _ _ q⟩
  rw [if_neg (fun z => z ck)] at q
  simp only [ck, decide_true, bne_self_eq_false, dFldS, dMethK, dCallK, spK, dCallO, dJoined, djCons, djNil, dFmt, dDnew, dDnewM, rdStr, dSeq, dAsg, dVar, dC, dCall, dCons, dNil, dOp, dUn, dTup, dLst, dLstM, dRet, dRetN, dNext, dDrop, dIfS, dTst, dAnd, dOr, dNot, dAndV, dOrV, dNotV, dIf, dPar, dPar3, dAsgG, gNm, gTp, gsCons, gsNil, dCB, dMt, dMt0, dSl, dPart, dNoPart, dKGet, dDisp, dDispM, dpCons, dpNil, dFrz, dYes, rdSub, rdFdiv, rdMod, rdPow, rdLt, rdLe, rdGt, rdGe, rdAbs, rdMax, rdMin, rdI, rdI1, rdI2, rdNeg, rdInt, List.set_cons_zero, List.set_cons_succ, List.getElem?_cons_zero, List.getElem?_cons_succ, true_and, if_true, if_false, Bool.false_eq_true, t_Hook_look_r2, dFor, dRg1, rf_names ho, rdLen, look_int, look_str, look_tup, look_l, look_obj, look_bl, look_non, look_d]
  have ln : m.nms.length = (m.es ++ m.ls).length := List.length_map ..
  refine ⟨⟨by omega, by omega⟩, ?_⟩
  rw [Int.toNat_natCast, ln]
  refine look_loop ho hm (m.es ++ m.ls) [] none rfl (fun q hq => absurd hq List.not_mem_nil) (fun s d env e => ?_) fun e good x1 => ?_
  · rw [List.length_nil] at e
    rw [e] at q
    exact xin _ _ _ q
  rw [List.length_nil] at e
  rw [e] at q
  simp only [] at q
  unfold wrongE at q
  simp only [t_Hook_look_r3, dFldS, dMethK, dCallK, spK, dCallO, dJoined, djCons, djNil, dFmt, dDnew, dDnewM, rdStr, dSeq, dAsg, dVar, dC, dCall, dCons, dNil, dOp, dUn, dTup, dLst, dLstM, dRet, dRetN, dNext, dDrop, dIfS, dTst, dAnd, dOr, dNot, dAndV, dOrV, dNotV, dIf, dPar, dPar3, dAsgG, gNm, gTp, gsCons, gsNil, dCB, dMt, dMt0, dSl, dPart, dNoPart, dKGet, dDisp, dDispM, dpCons, dpNil, dFrz, dYes, rdSub, rdFdiv, rdMod, rdPow, rdLt, rdLe, rdGt, rdGe, rdAbs, rdMax, rdMin, rdI, rdI1, rdI2, rdNeg, rdInt, List.set_cons_zero, List.set_cons_succ, List.getElem?_cons_zero, List.getElem?_cons_succ, true_and, if_true, if_false, Bool.false_eq_true, rf_names ho, rdLen, look_int, look_str, look_tup, look_l, look_obj, look_bl, look_non, look_d]
  by_cases c3 : 3 < (m.es ++ m.ls).length
  · rw [if_pos c3] at q
    rw [if_pos (by rw [decide_eq_true_eq]; omega)]
    simp only [dFldS, dMethK, dCallK, spK, dCallO, dJoined, djCons, djNil, dFmt, dDnew, dDnewM, rdStr, dSeq, dAsg, dVar, dC, dCall, dCons, dNil, dOp, dUn, dTup, dLst, dLstM, dRet, dRetN, dNext, dDrop, dIfS, dTst, dAnd, dOr, dNot, dAndV, dOrV, dNotV, dIf, dPar, dPar3, dAsgG, gNm, gTp, gsCons, gsNil, dCB, dMt, dMt0, dSl, dPart, dNoPart, dKGet, dDisp, dDispM, dpCons, dpNil, dFrz, dYes, rdSub, rdFdiv, rdMod, rdPow, rdLt, rdLe, rdGt, rdGe, rdAbs, rdMax, rdMin, rdI, rdI1, rdI2, rdNeg, rdInt, List.set_cons_zero, List.set_cons_succ, List.getElem?_cons_zero, List.getElem?_cons_succ, true_and, if_true, if_false, Bool.false_eq_true, dRaise, rf_name ho]
    exact ⟨rfl, xin _ _ _ q⟩
  rw [if_neg c3] at q
  rw [if_neg (by rw [decide_eq_true_eq]; omega)]
  -- what it gives
  have r5 : (decide (m.kind = "through") && thrBad m.es) = false → t_Hook_look_r5 (endX Xd) spIsName spLookPs (ends Q) [some o, x1] st := fun et => by
    rw [if_neg (by rw [et]; simp)] at q
    simp only [t_Hook_look_r5, dFldS, dMethK, dCallK, spK, dCallO, dJoined, djCons, djNil, dFmt, dDnew, dDnewM, rdStr, dSeq, dAsg, dVar, dC, dCall, dCons, dNil, dOp, dUn, dTup, dLst, dLstM, dRet, dRetN, dNext, dDrop, dIfS, dTst, dAnd, dOr, dNot, dAndV, dOrV, dNotV, dIf, dPar, dPar3, dAsgG, gNm, gTp, gsCons, gsNil, dCB, dMt, dMt0, dSl, dPart, dNoPart, dKGet, dDisp, dDispM, dpCons, dpNil, dFrz, dYes, rdSub, rdFdiv, rdMod, rdPow, rdLt, rdLe, rdGt, rdGe, rdAbs, rdMax, rdMin, rdI, rdI1, rdI2, rdNeg, rdInt, List.set_cons_zero, List.set_cons_succ, List.getElem?_cons_zero, List.getElem?_cons_succ, true_and, if_true, if_false, Bool.false_eq_true, rf_gives ho]
    refine in_tup (ys := sortsW) hm.ou.1 sorts_ok ?_
    by_cases co : m.outs ∈ sortsW
    · simp only [co, decide_true, bne_self_eq_false, dFldS, dMethK, dCallK, spK, dCallO, dJoined, djCons, djNil, dFmt, dDnew, dDnewM, rdStr, dSeq, dAsg, dVar, dC, dCall, dCons, dNil, dOp, dUn, dTup, dLst, dLstM, dRet, dRetN, dNext, dDrop, dIfS, dTst, dAnd, dOr, dNot, dAndV, dOrV, dNotV, dIf, dPar, dPar3, dAsgG, gNm, gTp, gsCons, gsNil, dCB, dMt, dMt0, dSl, dPart, dNoPart, dKGet, dDisp, dDispM, dpCons, dpNil, dFrz, dYes, rdSub, rdFdiv, rdMod, rdPow, rdLt, rdLe, rdGt, rdGe, rdAbs, rdMax, rdMin, rdI, rdI1, rdI2, rdNeg, rdInt, List.set_cons_zero, List.set_cons_succ, List.getElem?_cons_zero, List.getElem?_cons_succ, true_and, if_true, if_false, Bool.false_eq_true, rf_kind ho, eq_str, Bool.bne_false, decide_eq_true_eq]
      rw [decide_eq_true co, Bool.not_true, Bool.false_or] at q
      by_cases c : m.kind = "through"
      · rw [if_pos c]
        rw [decide_eq_true c, Bool.true_and] at et q
        simp only [rf_gives ho, rf_params ho]
        cases ee : m.es with
        | nil => rw [ee] at et; simp [thrBad] at et
        | cons p r =>
          rw [← ee]
          refine gives_first (i := 1) ee atL1 ?_
          rw [ee] at q
          simp only [givBad, Bool.not_eq_true', decide_eq_false_iff_not] at q
          simp only [eq_str]
          by_cases c5 : m.outs = p.2.1
          · rw [if_neg (fun z => z c5)] at q
            simp only [c5, decide_true, bne_self_eq_false, dFldS, dMethK, dCallK, spK, dCallO, dJoined, djCons, djNil, dFmt, dDnew, dDnewM, rdStr, dSeq, dAsg, dVar, dC, dCall, dCons, dNil, dOp, dUn, dTup, dLst, dLstM, dRet, dRetN, dNext, dDrop, dIfS, dTst, dAnd, dOr, dNot, dAndV, dOrV, dNotV, dIf, dPar, dPar3, dAsgG, gNm, gTp, gsCons, gsNil, dCB, dMt, dMt0, dSl, dPart, dNoPart, dKGet, dDisp, dDispM, dpCons, dpNil, dFrz, dYes, rdSub, rdFdiv, rdMod, rdPow, rdLt, rdLe, rdGt, rdGe, rdAbs, rdMax, rdMin, rdI, rdI1, rdI2, rdNeg, rdInt, List.set_cons_zero, List.set_cons_succ, List.getElem?_cons_zero, List.getElem?_cons_succ, true_and, if_true, if_false, Bool.false_eq_true]
            exact ends_nx q
          · rw [if_pos c5] at q
            simp only [c5, decide_false, Bool.bne_true, Bool.not_false, dFldS, dMethK, dCallK, spK, dCallO, dJoined, djCons, djNil, dFmt, dDnew, dDnewM, rdStr, dSeq, dAsg, dVar, dC, dCall, dCons, dNil, dOp, dUn, dTup, dLst, dLstM, dRet, dRetN, dNext, dDrop, dIfS, dTst, dAnd, dOr, dNot, dAndV, dOrV, dNotV, dIf, dPar, dPar3, dAsgG, gNm, gTp, gsCons, gsNil, dCB, dMt, dMt0, dSl, dPart, dNoPart, dKGet, dDisp, dDispM, dpCons, dpNil, dFrz, dYes, rdSub, rdFdiv, rdMod, rdPow, rdLt, rdLe, rdGt, rdGe, rdAbs, rdMax, rdMin, rdI, rdI1, rdI2, rdNeg, rdInt, List.set_cons_zero, List.set_cons_succ, List.getElem?_cons_zero, List.getElem?_cons_succ, true_and, if_true, if_false, Bool.false_eq_true, dRaise, rf_name ho]
            exact ⟨rfl, xin _ _ _ q⟩
      · rw [if_neg c]
        rw [decide_eq_false c, Bool.false_and, if_neg (by simp)] at q
        exact ends_nx q
    · rw [decide_eq_false co, Bool.not_false, Bool.true_or, if_pos rfl] at q
      simp only [co, decide_false, Bool.bne_true, Bool.not_false, dFldS, dMethK, dCallK, spK, dCallO, dJoined, djCons, djNil, dFmt, dDnew, dDnewM, rdStr, dSeq, dAsg, dVar, dC, dCall, dCons, dNil, dOp, dUn, dTup, dLst, dLstM, dRet, dRetN, dNext, dDrop, dIfS, dTst, dAnd, dOr, dNot, dAndV, dOrV, dNotV, dIf, dPar, dPar3, dAsgG, gNm, gTp, gsCons, gsNil, dCB, dMt, dMt0, dSl, dPart, dNoPart, dKGet, dDisp, dDispM, dpCons, dpNil, dFrz, dYes, rdSub, rdFdiv, rdMod, rdPow, rdLt, rdLe, rdGt, rdGe, rdAbs, rdMax, rdMin, rdI, rdI1, rdI2, rdNeg, rdInt, List.set_cons_zero, List.set_cons_succ, List.getElem?_cons_zero, List.getElem?_cons_succ, true_and, if_true, if_false, Bool.false_eq_true, dRaise, rf_name ho]
      exact ⟨rfl, xin _ _ _ q⟩
  simp only [t_Hook_look_r4, dFldS, dMethK, dCallK, spK, dCallO, dJoined, djCons, djNil, dFmt, dDnew, dDnewM, rdStr, dSeq, dAsg, dVar, dC, dCall, dCons, dNil, dOp, dUn, dTup, dLst, dLstM, dRet, dRetN, dNext, dDrop, dIfS, dTst, dAnd, dOr, dNot, dAndV, dOrV, dNotV, dIf, dPar, dPar3, dAsgG, gNm, gTp, gsCons, gsNil, dCB, dMt, dMt0, dSl, dPart, dNoPart, dKGet, dDisp, dDispM, dpCons, dpNil, dFrz, dYes, rdSub, rdFdiv, rdMod, rdPow, rdLt, rdLe, rdGt, rdGe, rdAbs, rdMax, rdMin, rdI, rdI1, rdI2, rdNeg, rdInt, List.set_cons_zero, List.set_cons_succ, List.getElem?_cons_zero, List.getElem?_cons_succ, true_and, if_true, if_false, Bool.false_eq_true, rf_kind ho, eq_str, Bool.bne_false, decide_eq_true_eq]
  by_cases c : m.kind = "through"
  · rw [if_pos c]
    rw [decide_eq_true c, Bool.true_and] at q r5
    simp only [rf_params ho, rdLen, look_int, look_str, look_tup, look_l, look_obj, look_bl, look_non, look_d, rdEq, Bool.bne_false, decide_eq_true_eq, List.length_map]
    cases ee : m.es with
    | nil =>
      rw [ee] at q
      rw [if_pos (by simp [thrBad])] at q
      simp only [List.length_nil, dFldS, dMethK, dCallK, spK, dCallO, dJoined, djCons, djNil, dFmt, dDnew, dDnewM, rdStr, dSeq, dAsg, dVar, dC, dCall, dCons, dNil, dOp, dUn, dTup, dLst, dLstM, dRet, dRetN, dNext, dDrop, dIfS, dTst, dAnd, dOr, dNot, dAndV, dOrV, dNotV, dIf, dPar, dPar3, dAsgG, gNm, gTp, gsCons, gsNil, dCB, dMt, dMt0, dSl, dPart, dNoPart, dKGet, dDisp, dDispM, dpCons, dpNil, dFrz, dYes, rdSub, rdFdiv, rdMod, rdPow, rdLt, rdLe, rdGt, rdGe, rdAbs, rdMax, rdMin, rdI, rdI1, rdI2, rdNeg, rdInt, List.set_cons_zero, List.set_cons_succ, List.getElem?_cons_zero, List.getElem?_cons_succ, true_and, if_true, if_false, Bool.false_eq_true, dRaise, rf_name ho]
      exact ⟨rfl, xin _ _ _ q⟩
    | cons p r =>
      rw [if_neg (by rw [List.length_cons]; omega), ← ee]
      refine gives_first (i := 2) ee atL2 ?_
      refine isNt_of ?_
      have tb : thrBad m.es = !isNon p.2.2 := by rw [ee]; rfl
      rw [tb] at q r5
      cases e2 : isNon p.2.2 with
      | true =>
        simp only [dFldS, dMethK, dCallK, spK, dCallO, dJoined, djCons, djNil, dFmt, dDnew, dDnewM, rdStr, dSeq, dAsg, dVar, dC, dCall, dCons, dNil, dOp, dUn, dTup, dLst, dLstM, dRet, dRetN, dNext, dDrop, dIfS, dTst, dAnd, dOr, dNot, dAndV, dOrV, dNotV, dIf, dPar, dPar3, dAsgG, gNm, gTp, gsCons, gsNil, dCB, dMt, dMt0, dSl, dPart, dNoPart, dKGet, dDisp, dDispM, dpCons, dpNil, dFrz, dYes, rdSub, rdFdiv, rdMod, rdPow, rdLt, rdLe, rdGt, rdGe, rdAbs, rdMax, rdMin, rdI, rdI1, rdI2, rdNeg, rdInt, List.set_cons_zero, List.set_cons_succ, List.getElem?_cons_zero, List.getElem?_cons_succ, true_and, if_true, if_false, Bool.false_eq_true, Bool.not_true]
        exact r5 (by rw [e2]; rfl)
      | false =>
        rw [if_pos (by rw [e2]; rfl)] at q
        simp only [dFldS, dMethK, dCallK, spK, dCallO, dJoined, djCons, djNil, dFmt, dDnew, dDnewM, rdStr, dSeq, dAsg, dVar, dC, dCall, dCons, dNil, dOp, dUn, dTup, dLst, dLstM, dRet, dRetN, dNext, dDrop, dIfS, dTst, dAnd, dOr, dNot, dAndV, dOrV, dNotV, dIf, dPar, dPar3, dAsgG, gNm, gTp, gsCons, gsNil, dCB, dMt, dMt0, dSl, dPart, dNoPart, dKGet, dDisp, dDispM, dpCons, dpNil, dFrz, dYes, rdSub, rdFdiv, rdMod, rdPow, rdLt, rdLe, rdGt, rdGe, rdAbs, rdMax, rdMin, rdI, rdI1, rdI2, rdNeg, rdInt, List.set_cons_zero, List.set_cons_succ, List.getElem?_cons_zero, List.getElem?_cons_succ, true_and, if_true, if_false, Bool.false_eq_true, Bool.not_false, dRaise, rf_name ho]
        exact ⟨rfl, xin _ _ _ q⟩
  · rw [if_neg c]
    exact r5 (by rw [decide_eq_false c, Bool.false_and])
/-! ### made -/
def spWhole3 : DSp := fun ds st Q _ => ∃ p : G3, ds = [p.d] ∧ Q p.d st
theorem rd_whole3 {p : G3} {st : Sto} {Q : QD} (q : Q p.d st) : t_whole (ends Q) [some p.d] st := by
  simp only [t_whole, G3.d, dFldS, dMeth, dMethK, dCallK, spK, dCallO, dJoined, djCons, djNil, dFmt, dDnew, dDnewM, rdFld, rdStrO, rdStr, dSeq, dAsg, dVar, dC, dCall, dCons, dNil, dOp, dUn, dTup, dLst, dLstM, dRet, dRetN, dNext, dDrop, dIfS, dTst, dAnd, dOr, dNot, dAndV, dOrV, dNotV, dIf, dPar, dPar3, dAsgG, gNm, gTp, gsCons, gsNil, dCB, dMt, dMt0, dSl, dPart, dNoPart, dKGet, dGet2, dDisp, dDispM, dpCons, dpNil, dFrz, dYes, rdSub, rdFdiv, rdMod, rdPow, rdLt, rdLe, rdGt, rdGe, rdAbs, rdMax, rdMin, rdI, rdI1, rdI2, rdNeg, rdInt, List.set_cons_zero, List.set_cons_succ, List.getElem?_cons_zero, List.getElem?_cons_succ, true_and, if_true, if_false, Bool.false_eq_true, rdLen, look, List.length_cons, List.length_nil, rdEq, rdTuple]
  exact sb q
theorem whole_comp {env : DSt} {st : Sto} {Q : List D → Sto → Prop} (hl : env.length = 7) : ∀ (ps : List G3) (acc : List D), acc.length + ps.length < 1000 → Q (acc ++ ps.map G3.d) st →
    dLcGo (gNm 6) dYes (dCall spWhole3 (dCons (dVar 6) dNil)) env (ps.map G3.d) acc st Q
  | [], acc, _, h => by simpa [dLcGo] using h
  | p :: ps, acc, hz, h => by
    have e6 : ∀ d : D, (env.set 6 (some d))[6]? = some (some d) := fun d => by rw [List.getElem?_set_self (by omega)]
    rw [List.length_cons] at hz
    simp only [List.map_cons, dLcGo, dFldS, dMethK, dCallK, spK, dCallO, dJoined, djCons, djNil, dFmt, dDnew, dDnewM, rdStr, dSeq, dAsg, dVar, dC, dCall, dCons, dNil, dOp, dUn, dTup, dLst, dLstM, dRet, dRetN, dNext, dDrop, dIfS, dTst, dAnd, dOr, dNot, dAndV, dOrV, dNotV, dIf, dPar, dPar3, dAsgG, gNm, gTp, gsCons, gsNil, dCB, dMt, dMt0, dSl, dPart, dNoPart, dKGet, dDisp, dDispM, dpCons, dpNil, dFrz, dYes, rdSub, rdFdiv, rdMod, rdPow, rdLt, rdLe, rdGt, rdGe, rdAbs, rdMax, rdMin, rdI, rdI1, rdI2, rdNeg, rdInt, List.set_cons_zero, List.set_cons_succ, List.getElem?_cons_zero, List.getElem?_cons_succ, true_and, if_true, if_false, Bool.false_eq_true, e6]
    exact ⟨p, rfl, by rw [sizeLine_eq]; omega, whole_comp hl ps (acc ++ [G3.d p]) (by rw [List.length_append, List.length_singleton]; omega) (by simpa using h)⟩
theorem whole_src {env : DSt} {i : Nat} {st : Sto} {ps : List G3} {Q : QD} (hl : env.length = 7) (hi : env[i]? = some (some (.lst (ps.map G3.d)))) (few : ps.length ≤ 8) (q : Q (.lst (ps.map G3.d)) st) :
    dLcC (dVar i) (gNm 6) dYes (dCall spWhole3 (dCons (dVar 6) dNil)) [6] env st Q := by
  have wl : (wipeD env [6]).length = 7 := (wipeD_len _ _).trans hl
  have go := whole_comp (env := wipeD env [6]) (st := st) (Q := fun out st2 => Q (.lst out) st2) wl ps [] (by rw [List.length_nil]; omega) (by simpa using q)
  unfold dLcC dVar
  rw [hi]
  exact go
theorem first_comp {env : DSt} {st : Sto} {Q : List D → Sto → Prop} (hl : env.length = 7) : ∀ (ps : List G3) (acc : List D), acc.length + ps.length < 1000 → Q (acc ++ ps.map (·.1)) st →
    dLcGo (gNm 6) dYes (dOp rdIx (dVar 6) (dC (.int 0))) env (ps.map G3.d) acc st Q
  | [], acc, _, h => by simpa [dLcGo] using h
  | p :: ps, acc, hz, h => by
    have e6 : ∀ d : D, (env.set 6 (some d))[6]? = some (some d) := fun d => by rw [List.getElem?_set_self (by omega)]
    rw [List.length_cons] at hz
    simp only [List.map_cons, dLcGo, dFldS, dMethK, dCallK, spK, dCallO, dJoined, djCons, djNil, dFmt, dDnew, dDnewM, rdStr, dSeq, dAsg, dVar, dC, dCall, dCons, dNil, dOp, dUn, dTup, dLst, dLstM, dRet, dRetN, dNext, dDrop, dIfS, dTst, dAnd, dOr, dNot, dAndV, dOrV, dNotV, dIf, dPar, dPar3, dAsgG, gNm, gTp, gsCons, gsNil, dCB, dMt, dMt0, dSl, dPart, dNoPart, dKGet, dDisp, dDispM, dpCons, dpNil, dFrz, dYes, rdSub, rdFdiv, rdMod, rdPow, rdLt, rdLe, rdGt, rdGe, rdAbs, rdMax, rdMin, rdI, rdI1, rdI2, rdNeg, rdInt, List.set_cons_zero, List.set_cons_succ, List.getElem?_cons_zero, List.getElem?_cons_succ, true_and, if_true, if_false, Bool.false_eq_true, e6, G3.d]
    refine ix_tup ?_
    rw [atL0, onS_some]
    refine ⟨by rw [sizeLine_eq]; omega, ?_⟩
    exact first_comp hl ps (acc ++ [p.1]) (by rw [List.length_append, List.length_singleton]; omega) (by simpa using h)
section
variable {a b c d e f : D}
theorem pd1 : putD "name" a [] = ([("name", a)] : List (Str × D)) := by rfl
theorem pd2 : putD "kind" b [("name", a)] = ([("name", a), ("kind", b)] : List (Str × D)) := by rfl
theorem pd3 : putD "gives" c [("name", a), ("kind", b)] = ([("name", a), ("kind", b), ("gives", c)] : List (Str × D)) := by rfl
theorem pd4 : putD "params" d [("name", a), ("kind", b), ("gives", c)] = ([("name", a), ("kind", b), ("gives", c), ("params", d)] : List (Str × D)) := by rfl
theorem pd5 : putD "only" e [("name", a), ("kind", b), ("gives", c), ("params", d)] = ([("name", a), ("kind", b), ("gives", c), ("params", d), ("only", e)] : List (Str × D)) := by rfl
theorem pd6 : putD "names" f [("name", a), ("kind", b), ("gives", c), ("params", d), ("only", e)] = hookF a b c d e f := by rfl
theorem ph4 : List.lookup ("params" : Str) [("name", a), ("kind", b), ("gives", c), ("params", d), ("only", e)] = some d := by rfl
theorem ph5 : List.lookup ("only" : Str) [("name", a), ("kind", b), ("gives", c), ("params", d), ("only", e)] = some e := by rfl
end
theorem look_cell {st : Sto} {n c : Nat} {fd : List (Str × D)} : look (sup st n (.obj c fd)) (.ref n) = .obj c fd := by unfold look; simp only [sup_same]
theorem fin_obj {n c : Nat} {st : Sto} {fd : List (Str × D)} {Q : QD} (hn : st n = none) (q : Q (.obj c fd) st) : fin true n (sup st n (.obj c fd)) Q := by
  show frz (.ref n) (sup st n (.obj c fd)) Q
  unfold frz
  simp only [sup_same]
  rw [sdel_sup hn]
  exact q
def spHookN : DSp := fun ds st Q Xd => ∃ m : HG, ds = [m.name, .str m.kind, .lst (m.es.map G3.d), .lst (m.ls.map G3.d), .str m.outs] ∧ m.ok ∧ endE (wrongH m) (Q m.o st) fun c f => Xd c f st
theorem rd_init {m : HG} {n : Nat} {st : Sto} {Q : QD} {Xd : XD} (hn : st n = none) (hm : m.ok) (q : endE (wrongH m) (Q m.o st) fun c f => Xd c f st) :
    t_Hook___init__ (endX Xd) spWhole3 spLooks (ends fun r st2 => r = .non ∧ fin true n st2 Q) [some (.ref n), some m.name, some (.str m.kind), some (.lst (m.es.map G3.d)), some (.lst (m.ls.map G3.d)), some (.str m.outs), none] (sup st n (.obj 0 [])) := by
  have few := hm.few
  have f1 : m.es.length ≤ 8 := by rw [List.length_append] at few; omega
  have f2 : m.ls.length ≤ 8 := by rw [List.length_append] at few; omega
  simp only [t_Hook___init__, t_Hook___init___r1, t_Hook___init___r2, t_Hook___init___r3, dFldS, dMethK, dCallK, spK, dCallO, dJoined, djCons, djNil, dFmt, dDnew, dDnewM, rdStr, dSeq, dAsg, dVar, dC, dCall, dCons, dNil, dOp, dUn, dTup, dLst, dLstM, dRet, dRetN, dNext, dDrop, dIfS, dTst, dAnd, dOr, dNot, dAndV, dOrV, dNotV, dIf, dPar, dPar3, dAsgG, gNm, gTp, gsCons, gsNil, dCB, dMt, dMt0, dSl, dPart, dNoPart, dKGet, dDisp, dDispM, dpCons, dpNil, dFrz, dYes, rdSub, rdFdiv, rdMod, rdPow, rdLt, rdLe, rdGt, rdGe, rdAbs, rdMax, rdMin, rdI, rdI1, rdI2, rdNeg, rdInt, List.set_cons_zero, List.set_cons_succ, List.getElem?_cons_zero, List.getElem?_cons_succ, true_and, if_true, if_false, Bool.false_eq_true, sup_same, sup_sup, pd1, pd2, pd3]
  refine ⟨by decide, by simp, by decide, by simp, by decide, by simp, ?_⟩
  refine whole_src rfl rfl f1 ?_
  simp only [rdTuple, look_int, look_str, look_tup, look_l, look_obj, look_bl, look_non, look_d, sup_same, sup_sup, pd4, List.nil_append, t_Hook___init___r4, dFldS, dMethK, dCallK, spK, dCallO, dJoined, djCons, djNil, dFmt, dDnew, dDnewM, rdStr, dSeq, dAsg, dVar, dC, dCall, dCons, dNil, dOp, dUn, dTup, dLst, dLstM, dRet, dRetN, dNext, dDrop, dIfS, dTst, dAnd, dOr, dNot, dAndV, dOrV, dNotV, dIf, dPar, dPar3, dAsgG, gNm, gTp, gsCons, gsNil, dCB, dMt, dMt0, dSl, dPart, dNoPart, dKGet, dDisp, dDispM, dpCons, dpNil, dFrz, dYes, rdSub, rdFdiv, rdMod, rdPow, rdLt, rdLe, rdGt, rdGe, rdAbs, rdMax, rdMin, rdI, rdI1, rdI2, rdNeg, rdInt, List.set_cons_zero, List.set_cons_succ, List.getElem?_cons_zero, List.getElem?_cons_succ, true_and, if_true, if_false, Bool.false_eq_true]
  refine ⟨by decide, by simp, ?_⟩
  refine whole_src rfl rfl f2 ?_
  simp only [rdTuple, look_int, look_str, look_tup, look_l, look_obj, look_bl, look_non, look_d, sup_same, sup_sup, pd5, List.nil_append, t_Hook___init___r5, dFldS, dMethK, dCallK, spK, dCallO, dJoined, djCons, djNil, dFmt, dDnew, dDnewM, rdStr, dSeq, dAsg, dVar, dC, dCall, dCons, dNil, dOp, dUn, dTup, dLst, dLstM, dRet, dRetN, dNext, dDrop, dIfS, dTst, dAnd, dOr, dNot, dAndV, dOrV, dNotV, dIf, dPar, dPar3, dAsgG, gNm, gTp, gsCons, gsNil, dCB, dMt, dMt0, dSl, dPart, dNoPart, dKGet, dDisp, dDispM, dpCons, dpNil, dFrz, dYes, rdSub, rdFdiv, rdMod, rdPow, rdLt, rdLe, rdGt, rdGe, rdAbs, rdMax, rdMin, rdI, rdI1, rdI2, rdNeg, rdInt, List.set_cons_zero, List.set_cons_succ, List.getElem?_cons_zero, List.getElem?_cons_succ, true_and, if_true, if_false, Bool.false_eq_true, dLc, dIt, dStar, rf_of look_cell ph4, rf_of look_cell ph5, seqL, List.append_nil]
  refine ⟨by decide, by simp, by rw [← List.map_append, List.length_map]; exact le_line (by omega), ?_⟩
  rw [← List.map_append]
  simp only [itemsOf]
  refine first_comp (wipeD_len _ _) (m.es ++ m.ls) [] (by rw [List.length_nil]; omega) ?_
  simp only [rdTuple, look_int, look_str, look_tup, look_l, look_obj, look_bl, look_non, look_d, sup_same, sup_sup, pd6, List.nil_append, t_Hook___init___r6, dFldS, dMethK, dCallK, spK, dCallO, dJoined, djCons, djNil, dFmt, dDnew, dDnewM, rdStr, dSeq, dAsg, dVar, dC, dCall, dCons, dNil, dOp, dUn, dTup, dLst, dLstM, dRet, dRetN, dNext, dDrop, dIfS, dTst, dAnd, dOr, dNot, dAndV, dOrV, dNotV, dIf, dPar, dPar3, dAsgG, gNm, gTp, gsCons, gsNil, dCB, dMt, dMt0, dSl, dPart, dNoPart, dKGet, dDisp, dDispM, dpCons, dpNil, dFrz, dYes, rdSub, rdFdiv, rdMod, rdPow, rdLt, rdLe, rdGt, rdGe, rdAbs, rdMax, rdMin, rdI, rdI1, rdI2, rdNeg, rdInt, List.set_cons_zero, List.set_cons_succ, List.getElem?_cons_zero, List.getElem?_cons_succ, true_and, if_true, if_false, Bool.false_eq_true, look_cell, dMethX]
  refine ⟨by decide, by simp, by decide, hf_look, .ref n, m, rfl, look_cell, hm, ?_⟩
  cases e : wrongH m with
  | none =>
    rw [e] at q
    exact ends_nx ⟨rfl, fin_obj hn q⟩
  | some wd =>
    obtain ⟨w, d⟩ := wd
    rw [e] at q
    exact ⟨st, Sub.new hn, q⟩
end TL
namespace TL
open PySem PySem.Spec PyProof.Rows L2
def t__law_is_name_r1 : TDS :=
  (dRet (dAndV (dUn (rdIsB 1 .str) (dVar 0)) (dAndV (dChain cLt cLt (dC (.int 0)) (dCB rdLen (dCons (dVar 0) dNil)) (dC (.int 9))) (dOp (rdEq false) (dLc (dIt (dVar 0)) (gNm 2) (dTst (dOp (rdIn true) (dVar 2) (dVar 1))) (dC (.int 1)) [2]) (dLst dNil)))))
def t__law_is_name : TDS :=
  (dSeq (dAsg 1 (dC (.str "abcdefghijklmnopqrstuvwxyz")))
  (t__law_is_name_r1))
theorem st__law_is_name (ds : List D) : startD ["_law_thing", "_law_letters", "_law_one"] ds = ds.map some ++ List.replicate (3 - ds.length) none := rfl
def t__law_fits_r1 (_law_is_name : DSp) : TDS :=
  (dRet (dAndV (dUn (rdIsB 1 .int) (dVar 1)) (dNotV (dUn (rdIsB 1 .bool) (dVar 1)))))
def t__law_fits (_law_is_name : DSp) : TDS :=
  (dSeq (dIfS (dTst (dOp (rdEq false) (dVar 0) (dC (.str "word"))))
  (dRet (dCall _law_is_name (dCons (dVar 1) dNil)))
  dNext)
  (t__law_fits_r1 _law_is_name))
theorem st__law_fits (ds : List D) : startD ["_law_sort", "_law_value_here"] ds = ds.map some ++ List.replicate (2 - ds.length) none := rfl
def t__law_param_wrong_r7 (_law_is_name : DSp) (_law_fits : DSp) : TDS :=
  (dRet (dC .non))
def t__law_param_wrong_r6 (_law_is_name : DSp) (_law_fits : DSp) : TDS :=
  (dSeq (dIfS (dAnd (dTst (dOp rdLt (dVar 2) (dVar 1))) (dAnd (dTst (dOp (rdIsN false) (dVar 6) (dC .non))) (dTst (dOp (rdEq true) (dLc (dIt (dSl (dVar 0) dNoPart (dPart (dVar 2)))) (gNm 7) (dTst (dOp (rdIsN true) (dOp rdIx (dVar 7) (dC (.int 2))) (dC .non))) (dC (.int 1)) [7]) (dLst dNil)))))
  (dRet (dC (.str "default")))
  dNext)
  (t__law_param_wrong_r7 _law_is_name _law_fits))
def t__law_param_wrong_r5 (_law_is_name : DSp) (_law_fits : DSp) : TDS :=
  (dSeq (dIfS (dAnd (dTst (dOp (rdIsN true) (dVar 6) (dC .non))) (dNot (dTst (dCall _law_fits (dCons (dVar 5) (dCons (dVar 6) dNil))))))
  (dRet (dC (.str "default")))
  dNext)
  (t__law_param_wrong_r6 _law_is_name _law_fits))
def t__law_param_wrong_r4 (_law_is_name : DSp) (_law_fits : DSp) : TDS :=
  (dSeq (dIfS (dTst (dOp (rdIn true) (dVar 5) (dTup (dCons (dC (.str "number")) (dCons (dC (.str "word")) dNil)))))
  (dRet (dC (.str "sort")))
  dNext)
  (t__law_param_wrong_r5 _law_is_name _law_fits))
def t__law_param_wrong_r3 (_law_is_name : DSp) (_law_fits : DSp) : TDS :=
  (dSeq (dIfS (dTst (dOp (rdIn false) (dVar 4) (dLc (dIt (dSl (dVar 0) dNoPart (dPart (dVar 2)))) (gNm 7) dYes (dOp rdIx (dVar 7) (dC (.int 0))) [7])))
  (dRet (dC (.str "twice")))
  dNext)
  (t__law_param_wrong_r4 _law_is_name _law_fits))
def t__law_param_wrong_r2 (_law_is_name : DSp) (_law_fits : DSp) : TDS :=
  (dSeq (dIfS (dOr (dNot (dTst (dCall _law_is_name (dCons (dVar 4) dNil)))) (dTst (dOp (rdIn false) (dVar 4) (dVar 3))))
  (dRet (dC (.str "param")))
  dNext)
  (t__law_param_wrong_r3 _law_is_name _law_fits))
def t__law_param_wrong_r1 (_law_is_name : DSp) (_law_fits : DSp) : TDS :=
  (dSeq (dAsgG (dOp rdIx (dVar 0) (dVar 2)) (gTp 3 (gsCons (gNm 4) (gsCons (gNm 5) (gsCons (gNm 6) gsNil)))))
  (t__law_param_wrong_r2 _law_is_name _law_fits))
def t__law_param_wrong (_law_is_name : DSp) (_law_fits : DSp) : TDS :=
  (dSeq (dAsg 3 (dSplit " " (dC (.str "if then else not both and either or is none fail ask with giving failing inner unanswered"))))
  (t__law_param_wrong_r1 _law_is_name _law_fits))
theorem st__law_param_wrong (ds : List D) : startD ["_law_lots", "_law_wide", "_law_spot", "_law_kept", "_law_name", "_law_sort", "_law_default", "_law_one"] ds = ds.map some ++ List.replicate (8 - ds.length) none := rfl
def t__law_wrong_b1_r1 (_law_is_name : DSp) (_law_param_wrong : DSp) : TDS :=
  (dIfS (dTst (dOp (rdIsN true) (dVar 8) (dC .non)))
  (dRet (dTup (dCons (dVar 8) (dCons (dOp rdIx (dOp rdIx (dVar 6) (dVar 7)) (dC (.int 0))) dNil))))
  dNext)
def t__law_wrong_b1 (_law_is_name : DSp) (_law_param_wrong : DSp) : TDS :=
  (dSeq (dAsg 8 (dCall _law_param_wrong (dCons (dVar 6) (dCons (dCB rdLen (dCons (dVar 3) dNil)) (dCons (dVar 7) dNil)))))
  (t__law_wrong_b1_r1 _law_is_name _law_param_wrong))
def t__law_wrong_r8 (_law_is_name : DSp) (_law_param_wrong : DSp) : TDS :=
  (dRet (dC .non))
def t__law_wrong_r7 (_law_is_name : DSp) (_law_param_wrong : DSp) : TDS :=
  (dSeq (dIfS (dOr (dTst (dOp (rdIn true) (dVar 5) (dTup (dCons (dC (.str "number")) (dCons (dC (.str "word")) dNil))))) (dAnd (dTst (dOp (rdEq false) (dVar 2) (dC (.str "through")))) (dTst (dOp (rdEq true) (dVar 5) (dOp rdIx (dOp rdIx (dVar 3) (dC (.int 0))) (dC (.int 1)))))))
  (dRet (dTup (dCons (dC (.str "gives")) (dCons (dVar 1) dNil))))
  dNext)
  (t__law_wrong_r8 _law_is_name _law_param_wrong))
def t__law_wrong_r6 (_law_is_name : DSp) (_law_param_wrong : DSp) : TDS :=
  (dSeq (dIfS (dAnd (dTst (dOp (rdEq false) (dVar 2) (dC (.str "through")))) (dOr (dTst (dOp (rdEq false) (dVar 3) (dLst dNil))) (dTst (dOp (rdIsN true) (dOp rdIx (dOp rdIx (dVar 3) (dC (.int 0))) (dC (.int 2))) (dC .non)))))
  (dRet (dTup (dCons (dC (.str "through")) (dCons (dVar 1) dNil))))
  dNext)
  (t__law_wrong_r7 _law_is_name _law_param_wrong))
def t__law_wrong_r5 (_law_is_name : DSp) (_law_param_wrong : DSp) : TDS :=
  (dSeq (dIfS (dTst (dOp rdGt (dCB rdLen (dCons (dVar 6) dNil)) (dC (.int 3))))
  (dRet (dTup (dCons (dC (.str "many")) (dCons (dVar 1) dNil))))
  dNext)
  (t__law_wrong_r6 _law_is_name _law_param_wrong))
def t__law_wrong_r4 (_law_is_name : DSp) (_law_param_wrong : DSp) : TDS :=
  (dSeq (dFor (dRg1 (dCB rdLen (dCons (dVar 6) dNil))) (gNm 7)
  (t__law_wrong_b1 _law_is_name _law_param_wrong))
  (t__law_wrong_r5 _law_is_name _law_param_wrong))
def t__law_wrong_r3 (_law_is_name : DSp) (_law_param_wrong : DSp) : TDS :=
  (dSeq (dAsg 6 (dOp rdAdd (dVar 3) (dVar 4)))
  (t__law_wrong_r4 _law_is_name _law_param_wrong))
def t__law_wrong_r2 (_law_is_name : DSp) (_law_param_wrong : DSp) : TDS :=
  (dSeq (dIfS (dTst (dOp (rdIn true) (dVar 2) (dTup (dCons (dC (.str "first")) (dCons (dC (.str "through")) (dCons (dC (.str "each")) dNil))))))
  (dRet (dTup (dCons (dC (.str "kind")) (dCons (dVar 1) dNil))))
  dNext)
  (t__law_wrong_r3 _law_is_name _law_param_wrong))
def t__law_wrong_r1 (_law_is_name : DSp) (_law_param_wrong : DSp) : TDS :=
  (dSeq (dIfS (dNot (dTst (dCall _law_is_name (dCons (dVar 1) dNil))))
  (dRet (dTup (dCons (dC (.str "name")) (dCons (dVar 1) dNil))))
  dNext)
  (t__law_wrong_r2 _law_is_name _law_param_wrong))
def t__law_wrong (_law_is_name : DSp) (_law_param_wrong : DSp) : TDS :=
  (dSeq (dAsgG (dVar 0) (gTp 5 (gsCons (gNm 1) (gsCons (gNm 2) (gsCons (gNm 3) (gsCons (gNm 4) (gsCons (gNm 5) gsNil)))))))
  (t__law_wrong_r1 _law_is_name _law_param_wrong))
theorem st__law_wrong (ds : List D) : startD ["_law_model", "_law_name", "_law_kind", "_law_some", "_law_more", "_law_outs", "_law_lots", "_law_spot", "_law_word"] ds = ds.map some ++ List.replicate (9 - ds.length) none := rfl
def spIsNameL : DSp := fun ds st Q _ => ∃ d, ds = [d] ∧ atomD d = true ∧ Q (.bl (nmB d)) st
theorem ones_comp {env : DSt} {st : Sto} {Q : List D → Sto → Prop} (hl : env.length = 3) (h2 : env[1]? = some (some (.str letters))) : ∀ (cs : List Nat) (acc : List D), acc.length + cs.length < 2000 → (∀ out : List D, (∀ x ∈ out, x = .int 1) → (out = [] ↔ acc = [] ∧ ∀ c ∈ cs, isLow c = true) → Q out st) → (∀ x ∈ acc, x = .int 1) →
    dLcGo (gNm 2) (dTst (dOp (rdIn true) (dVar 2) (dVar 1))) (dC (.int 1)) env (cs.map fun c => D.str ⟨#[c]⟩) acc st Q
  | [], acc, _, h, ha => by
    simp only [List.map_nil, dLcGo]
    exact h acc ha (by simp)
  | c :: cs, acc, hz, h, ha => by
    have e3 : ∀ d : D, (env.set 2 (some d))[2]? = some (some d) := fun d => by rw [List.getElem?_set_self (by omega)]
    have e2 : ∀ d : D, (env.set 2 (some d))[1]? = some (some (.str letters)) := fun d => by rw [List.getElem?_set_ne (by decide)]; exact h2
    rw [List.length_cons] at hz
    simp only [List.map_cons, dLcGo, dFldS, dMethK, dCallK, spK, dCallO, dJoined, djCons, djNil, dFmt, dDnew, dDnewM, rdStr, dSeq, dAsg, dVar, dC, dCall, dCons, dNil, dOp, dUn, dTup, dLst, dLstM, dRet, dRetN, dNext, dDrop, dIfS, dTst, dAnd, dOr, dNot, dAndV, dOrV, dNotV, dIf, dPar, dPar3, dAsgG, gNm, gTp, gsCons, gsNil, dCB, dMt, dMt0, dSl, dPart, dNoPart, dKGet, dDisp, dDispM, dpCons, dpNil, dFrz, dYes, rdSub, rdFdiv, rdMod, rdPow, rdLt, rdLe, rdGt, rdGe, rdAbs, rdMax, rdMin, rdI, rdI1, rdI2, rdNeg, rdInt, List.set_cons_zero, List.set_cons_succ, List.getElem?_cons_zero, List.getElem?_cons_succ, true_and, if_true, if_false, Bool.false_eq_true, e3, e2, rdIn]
    refine ⟨c, rfl, ?_⟩
    have hm : (decide (c ∈ letters.cps.toList) != true) = !isLow c := by
      have : letters.cps.toList = List.range' 97 26 := by decide +kernel
      rw [this, Bool.bne_true]
      unfold isLow
      by_cases h : 97 ≤ c ∧ c ≤ 122
      · simp [h]; omega
      · have : ¬ (c ∈ List.range' 97 26) := by simp; omega
        simp only [this, decide_false]
        by_cases h1 : 97 ≤ c <;> simp [h1] <;> omega
    rw [hm]
    cases el : isLow c with
    | true =>
      simp only [Bool.not_true, dFldS, dMethK, dCallK, spK, dCallO, dJoined, djCons, djNil, dFmt, dDnew, dDnewM, rdStr, dSeq, dAsg, dVar, dC, dCall, dCons, dNil, dOp, dUn, dTup, dLst, dLstM, dRet, dRetN, dNext, dDrop, dIfS, dTst, dAnd, dOr, dNot, dAndV, dOrV, dNotV, dIf, dPar, dPar3, dAsgG, gNm, gTp, gsCons, gsNil, dCB, dMt, dMt0, dSl, dPart, dNoPart, dKGet, dDisp, dDispM, dpCons, dpNil, dFrz, dYes, rdSub, rdFdiv, rdMod, rdPow, rdLt, rdLe, rdGt, rdGe, rdAbs, rdMax, rdMin, rdI, rdI1, rdI2, rdNeg, rdInt, List.set_cons_zero, List.set_cons_succ, List.getElem?_cons_zero, List.getElem?_cons_succ, true_and, if_true, if_false, Bool.false_eq_true]
      refine ones_comp hl h2 cs acc (by omega) (fun out h1 h3 => h out h1 ?_) ha
      rw [h3]
      simp [el]
    | false =>
      simp only [Bool.not_false, dFldS, dMethK, dCallK, spK, dCallO, dJoined, djCons, djNil, dFmt, dDnew, dDnewM, rdStr, dSeq, dAsg, dVar, dC, dCall, dCons, dNil, dOp, dUn, dTup, dLst, dLstM, dRet, dRetN, dNext, dDrop, dIfS, dTst, dAnd, dOr, dNot, dAndV, dOrV, dNotV, dIf, dPar, dPar3, dAsgG, gNm, gTp, gsCons, gsNil, dCB, dMt, dMt0, dSl, dPart, dNoPart, dKGet, dDisp, dDispM, dpCons, dpNil, dFrz, dYes, rdSub, rdFdiv, rdMod, rdPow, rdLt, rdLe, rdGt, rdGe, rdAbs, rdMax, rdMin, rdI, rdI1, rdI2, rdNeg, rdInt, List.set_cons_zero, List.set_cons_succ, List.getElem?_cons_zero, List.getElem?_cons_succ, true_and, if_true, if_false, Bool.false_eq_true]
      refine ⟨by rw [sizeLine_eq]; omega, ?_⟩
      refine ones_comp hl h2 cs (acc ++ [.int 1]) (by rw [List.length_append, List.length_singleton]; omega) (fun out h1 h3 => h out h1 ?_) (fun x hx => ?_)
      · rw [h3]
        simp [el]
      · rcases List.mem_append.mp hx with hx | hx
        · exact ha x hx
        · exact List.mem_singleton.mp hx
theorem ones_ok : ∀ {out : List D}, (∀ x ∈ out, x = .int 1) → D.oks out = true ∧ D.dps out = 0
  | [], _ => ⟨by simp [D.oks], by simp [D.dps]⟩
  | x :: r, h => by
    obtain ⟨a, b⟩ := ones_ok fun y hy => h y (List.mem_cons_of_mem _ hy)
    rw [h x (List.mem_cons_self ..)]
    exact ⟨by simp [D.oks, D.ok, a], by simp [D.dps, D.dp, b]⟩
theorem rd_isNameL {d : D} {st : Sto} {Q : QD} (h : atomD d = true) (q : Q (.bl (nmB d)) st) : t__law_is_name (ends Q) [some d, none, none] st := by
  simp only [t__law_is_name, t__law_is_name_r1, dFldS, dMethK, dCallK, spK, dCallO, dJoined, djCons, djNil, dFmt, dDnew, dDnewM, rdStr, dSeq, dAsg, dVar, dC, dCall, dCons, dNil, dOp, dUn, dTup, dLst, dLstM, dRet, dRetN, dNext, dDrop, dIfS, dTst, dAnd, dOr, dNot, dAndV, dOrV, dNotV, dIf, dPar, dPar3, dAsgG, gNm, gTp, gsCons, gsNil, dCB, dMt, dMt0, dSl, dPart, dNoPart, dKGet, dDisp, dDispM, dpCons, dpNil, dFrz, dYes, rdSub, rdFdiv, rdMod, rdPow, rdLt, rdLe, rdGt, rdGe, rdAbs, rdMax, rdMin, rdI, rdI1, rdI2, rdNeg, rdInt, List.set_cons_zero, List.set_cons_succ, List.getElem?_cons_zero, List.getElem?_cons_succ, true_and, if_true, if_false, Bool.false_eq_true]
  cases d with
  | non => simp only [rdIsB, look, isB, dFldS, dMethK, dCallK, spK, dCallO, dJoined, djCons, djNil, dFmt, dDnew, dDnewM, rdStr, dSeq, dAsg, dVar, dC, dCall, dCons, dNil, dOp, dUn, dTup, dLst, dLstM, dRet, dRetN, dNext, dDrop, dIfS, dTst, dAnd, dOr, dNot, dAndV, dOrV, dNotV, dIf, dPar, dPar3, dAsgG, gNm, gTp, gsCons, gsNil, dCB, dMt, dMt0, dSl, dPart, dNoPart, dKGet, dDisp, dDispM, dpCons, dpNil, dFrz, dYes, rdSub, rdFdiv, rdMod, rdPow, rdLt, rdLe, rdGt, rdGe, rdAbs, rdMax, rdMin, rdI, rdI1, rdI2, rdNeg, rdInt, List.set_cons_zero, List.set_cons_succ, List.getElem?_cons_zero, List.getElem?_cons_succ, true_and, if_true, if_false, Bool.false_eq_true]; exact sb q
  | bl x => simp only [rdIsB, look, isB, dFldS, dMethK, dCallK, spK, dCallO, dJoined, djCons, djNil, dFmt, dDnew, dDnewM, rdStr, dSeq, dAsg, dVar, dC, dCall, dCons, dNil, dOp, dUn, dTup, dLst, dLstM, dRet, dRetN, dNext, dDrop, dIfS, dTst, dAnd, dOr, dNot, dAndV, dOrV, dNotV, dIf, dPar, dPar3, dAsgG, gNm, gTp, gsCons, gsNil, dCB, dMt, dMt0, dSl, dPart, dNoPart, dKGet, dDisp, dDispM, dpCons, dpNil, dFrz, dYes, rdSub, rdFdiv, rdMod, rdPow, rdLt, rdLe, rdGt, rdGe, rdAbs, rdMax, rdMin, rdI, rdI1, rdI2, rdNeg, rdInt, List.set_cons_zero, List.set_cons_succ, List.getElem?_cons_zero, List.getElem?_cons_succ, true_and, if_true, if_false, Bool.false_eq_true]; exact sb q
  | int x => simp only [rdIsB, look, isB, dFldS, dMethK, dCallK, spK, dCallO, dJoined, djCons, djNil, dFmt, dDnew, dDnewM, rdStr, dSeq, dAsg, dVar, dC, dCall, dCons, dNil, dOp, dUn, dTup, dLst, dLstM, dRet, dRetN, dNext, dDrop, dIfS, dTst, dAnd, dOr, dNot, dAndV, dOrV, dNotV, dIf, dPar, dPar3, dAsgG, gNm, gTp, gsCons, gsNil, dCB, dMt, dMt0, dSl, dPart, dNoPart, dKGet, dDisp, dDispM, dpCons, dpNil, dFrz, dYes, rdSub, rdFdiv, rdMod, rdPow, rdLt, rdLe, rdGt, rdGe, rdAbs, rdMax, rdMin, rdI, rdI1, rdI2, rdNeg, rdInt, List.set_cons_zero, List.set_cons_succ, List.getElem?_cons_zero, List.getElem?_cons_succ, true_and, if_true, if_false, Bool.false_eq_true]; exact sb q
  | lst x => simp only [rdIsB, look, isB, dFldS, dMethK, dCallK, spK, dCallO, dJoined, djCons, djNil, dFmt, dDnew, dDnewM, rdStr, dSeq, dAsg, dVar, dC, dCall, dCons, dNil, dOp, dUn, dTup, dLst, dLstM, dRet, dRetN, dNext, dDrop, dIfS, dTst, dAnd, dOr, dNot, dAndV, dOrV, dNotV, dIf, dPar, dPar3, dAsgG, gNm, gTp, gsCons, gsNil, dCB, dMt, dMt0, dSl, dPart, dNoPart, dKGet, dDisp, dDispM, dpCons, dpNil, dFrz, dYes, rdSub, rdFdiv, rdMod, rdPow, rdLt, rdLe, rdGt, rdGe, rdAbs, rdMax, rdMin, rdI, rdI1, rdI2, rdNeg, rdInt, List.set_cons_zero, List.set_cons_succ, List.getElem?_cons_zero, List.getElem?_cons_succ, true_and, if_true, if_false, Bool.false_eq_true]; exact sb q
  | tup x => simp only [rdIsB, look, isB, dFldS, dMethK, dCallK, spK, dCallO, dJoined, djCons, djNil, dFmt, dDnew, dDnewM, rdStr, dSeq, dAsg, dVar, dC, dCall, dCons, dNil, dOp, dUn, dTup, dLst, dLstM, dRet, dRetN, dNext, dDrop, dIfS, dTst, dAnd, dOr, dNot, dAndV, dOrV, dNotV, dIf, dPar, dPar3, dAsgG, gNm, gTp, gsCons, gsNil, dCB, dMt, dMt0, dSl, dPart, dNoPart, dKGet, dDisp, dDispM, dpCons, dpNil, dFrz, dYes, rdSub, rdFdiv, rdMod, rdPow, rdLt, rdLe, rdGt, rdGe, rdAbs, rdMax, rdMin, rdI, rdI1, rdI2, rdNeg, rdInt, List.set_cons_zero, List.set_cons_succ, List.getElem?_cons_zero, List.getElem?_cons_succ, true_and, if_true, if_false, Bool.false_eq_true]; exact sb q
  | dct x => simp only [rdIsB, look, isB, dFldS, dMethK, dCallK, spK, dCallO, dJoined, djCons, djNil, dFmt, dDnew, dDnewM, rdStr, dSeq, dAsg, dVar, dC, dCall, dCons, dNil, dOp, dUn, dTup, dLst, dLstM, dRet, dRetN, dNext, dDrop, dIfS, dTst, dAnd, dOr, dNot, dAndV, dOrV, dNotV, dIf, dPar, dPar3, dAsgG, gNm, gTp, gsCons, gsNil, dCB, dMt, dMt0, dSl, dPart, dNoPart, dKGet, dDisp, dDispM, dpCons, dpNil, dFrz, dYes, rdSub, rdFdiv, rdMod, rdPow, rdLt, rdLe, rdGt, rdGe, rdAbs, rdMax, rdMin, rdI, rdI1, rdI2, rdNeg, rdInt, List.set_cons_zero, List.set_cons_succ, List.getElem?_cons_zero, List.getElem?_cons_succ, true_and, if_true, if_false, Bool.false_eq_true]; exact sb q
  | str x =>
    simp only [atomD, decide_eq_true_eq] at h
    simp only [rdIsB, look, isB, dFldS, dMethK, dCallK, spK, dCallO, dJoined, djCons, djNil, dFmt, dDnew, dDnewM, rdStr, dSeq, dAsg, dVar, dC, dCall, dCons, dNil, dOp, dUn, dTup, dLst, dLstM, dRet, dRetN, dNext, dDrop, dIfS, dTst, dAnd, dOr, dNot, dAndV, dOrV, dNotV, dIf, dPar, dPar3, dAsgG, gNm, gTp, gsCons, gsNil, dCB, dMt, dMt0, dSl, dPart, dNoPart, dKGet, dDisp, dDispM, dpCons, dpNil, dFrz, dYes, rdSub, rdFdiv, rdMod, rdPow, rdLt, rdLe, rdGt, rdGe, rdAbs, rdMax, rdMin, rdI, rdI1, rdI2, rdNeg, rdInt, List.set_cons_zero, List.set_cons_succ, List.getElem?_cons_zero, List.getElem?_cons_succ, true_and, if_true, if_false, Bool.false_eq_true, dChain, rdLen, cLt]
    refine ⟨le_line h, ?_⟩
    by_cases h1 : (0 : Int) < x.length
    · by_cases h2 : (x.length : Int) < 9
      · simp only [h1, h2, decide_true, dFldS, dMethK, dCallK, spK, dCallO, dJoined, djCons, djNil, dFmt, dDnew, dDnewM, rdStr, dSeq, dAsg, dVar, dC, dCall, dCons, dNil, dOp, dUn, dTup, dLst, dLstM, dRet, dRetN, dNext, dDrop, dIfS, dTst, dAnd, dOr, dNot, dAndV, dOrV, dNotV, dIf, dPar, dPar3, dAsgG, gNm, gTp, gsCons, gsNil, dCB, dMt, dMt0, dSl, dPart, dNoPart, dKGet, dDisp, dDispM, dpCons, dpNil, dFrz, dYes, rdSub, rdFdiv, rdMod, rdPow, rdLt, rdLe, rdGt, rdGe, rdAbs, rdMax, rdMin, rdI, rdI1, rdI2, rdNeg, rdInt, List.set_cons_zero, List.set_cons_succ, List.getElem?_cons_zero, List.getElem?_cons_succ, true_and, if_true, if_false, Bool.false_eq_true, dLc, dIt, itemsOf, signsD]
        refine ones_comp (wipeD_len _ _) rfl x.cps.toList [] (by rw [← len_cps, List.length_nil]; omega) (fun out h3 h4 => ?_) (fun x hx => absurd hx List.not_mem_nil)
        obtain ⟨o1, o2⟩ := ones_ok h3
        refine ⟨Nat.zero_le _, eq_nil o1 (by omega) ?_⟩
        refine sb ?_
        have : nmB (.str x) = (decide (out = []) != false) := by
          rw [Bool.bne_false, Bool.eq_iff_iff, decide_eq_true_eq, h4]
          exact ⟨fun z => ⟨rfl, (of_decide_eq_true z : Lw x).2.2⟩, fun z => decide_eq_true (⟨by omega, by omega, z.2⟩ : Lw x)⟩
        rw [this] at q
        exact q
      · simp only [h1, h2, decide_true, decide_false, dFldS, dMethK, dCallK, spK, dCallO, dJoined, djCons, djNil, dFmt, dDnew, dDnewM, rdStr, dSeq, dAsg, dVar, dC, dCall, dCons, dNil, dOp, dUn, dTup, dLst, dLstM, dRet, dRetN, dNext, dDrop, dIfS, dTst, dAnd, dOr, dNot, dAndV, dOrV, dNotV, dIf, dPar, dPar3, dAsgG, gNm, gTp, gsCons, gsNil, dCB, dMt, dMt0, dSl, dPart, dNoPart, dKGet, dDisp, dDispM, dpCons, dpNil, dFrz, dYes, rdSub, rdFdiv, rdMod, rdPow, rdLt, rdLe, rdGt, rdGe, rdAbs, rdMax, rdMin, rdI, rdI1, rdI2, rdNeg, rdInt, List.set_cons_zero, List.set_cons_succ, List.getElem?_cons_zero, List.getElem?_cons_succ, true_and, if_true, if_false, Bool.false_eq_true]
        refine sb ?_
        have : nmB (.str x) = false := decide_eq_false (fun z => h2 (by have := z.2.1; omega))
        rw [this] at q; exact q
    · simp only [h1, decide_false, dFldS, dMethK, dCallK, spK, dCallO, dJoined, djCons, djNil, dFmt, dDnew, dDnewM, rdStr, dSeq, dAsg, dVar, dC, dCall, dCons, dNil, dOp, dUn, dTup, dLst, dLstM, dRet, dRetN, dNext, dDrop, dIfS, dTst, dAnd, dOr, dNot, dAndV, dOrV, dNotV, dIf, dPar, dPar3, dAsgG, gNm, gTp, gsCons, gsNil, dCB, dMt, dMt0, dSl, dPart, dNoPart, dKGet, dDisp, dDispM, dpCons, dpNil, dFrz, dYes, rdSub, rdFdiv, rdMod, rdPow, rdLt, rdLe, rdGt, rdGe, rdAbs, rdMax, rdMin, rdI, rdI1, rdI2, rdNeg, rdInt, List.set_cons_zero, List.set_cons_succ, List.getElem?_cons_zero, List.getElem?_cons_succ, true_and, if_true, if_false, Bool.false_eq_true]
      refine sb ?_
      have : nmB (.str x) = false := decide_eq_false (fun z => h1 (by have := z.1; omega))
      rw [this] at q; exact q
  | _ => cases h

def spFitsL : DSp := fun ds st Q _ => ∃ sort d, ds = [.str sort, d] ∧ sort ∈ sortsW ∧ atomD d = true ∧ Q (.bl (fitB sort d)) st
theorem rd_fitsL {sort : Str} {d : D} {st : Sto} {Q : QD} (hs : sort ∈ sortsW) (h : atomD d = true) (q : Q (.bl (fitB sort d)) st) : t__law_fits spIsNameL (ends Q) [some (.str sort), some d] st := by
  simp only [t__law_fits, dFldS, dMethK, dCallK, spK, dCallO, dJoined, djCons, djNil, dFmt, dDnew, dDnewM, rdStr, dSeq, dAsg, dVar, dC, dCall, dCons, dNil, dOp, dUn, dTup, dLst, dLstM, dRet, dRetN, dNext, dDrop, dIfS, dTst, dAnd, dOr, dNot, dAndV, dOrV, dNotV, dIf, dPar, dPar3, dAsgG, gNm, gTp, gsCons, gsNil, dCB, dMt, dMt0, dSl, dPart, dNoPart, dKGet, dDisp, dDispM, dpCons, dpNil, dFrz, dYes, rdSub, rdFdiv, rdMod, rdPow, rdLt, rdLe, rdGt, rdGe, rdAbs, rdMax, rdMin, rdI, rdI1, rdI2, rdNeg, rdInt, List.set_cons_zero, List.set_cons_succ, List.getElem?_cons_zero, List.getElem?_cons_succ, true_and, if_true, if_false, Bool.false_eq_true, eq_str, Bool.bne_false, decide_eq_true_eq]
  unfold fitB at q
  by_cases c : sort = "word"
  · rw [if_pos c]
    have cn : sort ≠ "number" := by rw [c]; decide
    rw [if_neg cn] at q
    exact ⟨d, rfl, h, sb q⟩
  · rw [if_neg c]
    have cn : sort = "number" := by
      simp only [sortsW, List.mem_cons, List.not_mem_nil, or_false] at hs
      exact hs.resolve_right c
    rw [if_pos cn] at q
    simp only [t__law_fits_r1, dFldS, dMethK, dCallK, spK, dCallO, dJoined, djCons, djNil, dFmt, dDnew, dDnewM, rdStr, dSeq, dAsg, dVar, dC, dCall, dCons, dNil, dOp, dUn, dTup, dLst, dLstM, dRet, dRetN, dNext, dDrop, dIfS, dTst, dAnd, dOr, dNot, dAndV, dOrV, dNotV, dIf, dPar, dPar3, dAsgG, gNm, gTp, gsCons, gsNil, dCB, dMt, dMt0, dSl, dPart, dNoPart, dKGet, dDisp, dDispM, dpCons, dpNil, dFrz, dYes, rdSub, rdFdiv, rdMod, rdPow, rdLt, rdLe, rdGt, rdGe, rdAbs, rdMax, rdMin, rdI, rdI1, rdI2, rdNeg, rdInt, List.set_cons_zero, List.set_cons_succ, List.getElem?_cons_zero, List.getElem?_cons_succ, true_and, if_true, if_false, Bool.false_eq_true]
    cases d with
    | non => simp only [rdIsB, look, isB, dFldS, dMethK, dCallK, spK, dCallO, dJoined, djCons, djNil, dFmt, dDnew, dDnewM, rdStr, dSeq, dAsg, dVar, dC, dCall, dCons, dNil, dOp, dUn, dTup, dLst, dLstM, dRet, dRetN, dNext, dDrop, dIfS, dTst, dAnd, dOr, dNot, dAndV, dOrV, dNotV, dIf, dPar, dPar3, dAsgG, gNm, gTp, gsCons, gsNil, dCB, dMt, dMt0, dSl, dPart, dNoPart, dKGet, dDisp, dDispM, dpCons, dpNil, dFrz, dYes, rdSub, rdFdiv, rdMod, rdPow, rdLt, rdLe, rdGt, rdGe, rdAbs, rdMax, rdMin, rdI, rdI1, rdI2, rdNeg, rdInt, List.set_cons_zero, List.set_cons_succ, List.getElem?_cons_zero, List.getElem?_cons_succ, true_and, if_true, if_false, Bool.false_eq_true]; exact sb q
    | bl b => simp only [rdIsB, look, isB, dFldS, dMethK, dCallK, spK, dCallO, dJoined, djCons, djNil, dFmt, dDnew, dDnewM, rdStr, dSeq, dAsg, dVar, dC, dCall, dCons, dNil, dOp, dUn, dTup, dLst, dLstM, dRet, dRetN, dNext, dDrop, dIfS, dTst, dAnd, dOr, dNot, dAndV, dOrV, dNotV, dIf, dPar, dPar3, dAsgG, gNm, gTp, gsCons, gsNil, dCB, dMt, dMt0, dSl, dPart, dNoPart, dKGet, dDisp, dDispM, dpCons, dpNil, dFrz, dYes, rdSub, rdFdiv, rdMod, rdPow, rdLt, rdLe, rdGt, rdGe, rdAbs, rdMax, rdMin, rdI, rdI1, rdI2, rdNeg, rdInt, List.set_cons_zero, List.set_cons_succ, List.getElem?_cons_zero, List.getElem?_cons_succ, true_and, if_true, if_false, Bool.false_eq_true, Bool.not_true]; exact sb q
    | int i => simp only [rdIsB, look, isB, dFldS, dMethK, dCallK, spK, dCallO, dJoined, djCons, djNil, dFmt, dDnew, dDnewM, rdStr, dSeq, dAsg, dVar, dC, dCall, dCons, dNil, dOp, dUn, dTup, dLst, dLstM, dRet, dRetN, dNext, dDrop, dIfS, dTst, dAnd, dOr, dNot, dAndV, dOrV, dNotV, dIf, dPar, dPar3, dAsgG, gNm, gTp, gsCons, gsNil, dCB, dMt, dMt0, dSl, dPart, dNoPart, dKGet, dDisp, dDispM, dpCons, dpNil, dFrz, dYes, rdSub, rdFdiv, rdMod, rdPow, rdLt, rdLe, rdGt, rdGe, rdAbs, rdMax, rdMin, rdI, rdI1, rdI2, rdNeg, rdInt, List.set_cons_zero, List.set_cons_succ, List.getElem?_cons_zero, List.getElem?_cons_succ, true_and, if_true, if_false, Bool.false_eq_true, Bool.not_false]; exact sb q
    | str x => simp only [rdIsB, look, isB, dFldS, dMethK, dCallK, spK, dCallO, dJoined, djCons, djNil, dFmt, dDnew, dDnewM, rdStr, dSeq, dAsg, dVar, dC, dCall, dCons, dNil, dOp, dUn, dTup, dLst, dLstM, dRet, dRetN, dNext, dDrop, dIfS, dTst, dAnd, dOr, dNot, dAndV, dOrV, dNotV, dIf, dPar, dPar3, dAsgG, gNm, gTp, gsCons, gsNil, dCB, dMt, dMt0, dSl, dPart, dNoPart, dKGet, dDisp, dDispM, dpCons, dpNil, dFrz, dYes, rdSub, rdFdiv, rdMod, rdPow, rdLt, rdLe, rdGt, rdGe, rdAbs, rdMax, rdMin, rdI, rdI1, rdI2, rdNeg, rdInt, List.set_cons_zero, List.set_cons_succ, List.getElem?_cons_zero, List.getElem?_cons_succ, true_and, if_true, if_false, Bool.false_eq_true]; exact sb q
    | lst x => simp only [rdIsB, look, isB, dFldS, dMethK, dCallK, spK, dCallO, dJoined, djCons, djNil, dFmt, dDnew, dDnewM, rdStr, dSeq, dAsg, dVar, dC, dCall, dCons, dNil, dOp, dUn, dTup, dLst, dLstM, dRet, dRetN, dNext, dDrop, dIfS, dTst, dAnd, dOr, dNot, dAndV, dOrV, dNotV, dIf, dPar, dPar3, dAsgG, gNm, gTp, gsCons, gsNil, dCB, dMt, dMt0, dSl, dPart, dNoPart, dKGet, dDisp, dDispM, dpCons, dpNil, dFrz, dYes, rdSub, rdFdiv, rdMod, rdPow, rdLt, rdLe, rdGt, rdGe, rdAbs, rdMax, rdMin, rdI, rdI1, rdI2, rdNeg, rdInt, List.set_cons_zero, List.set_cons_succ, List.getElem?_cons_zero, List.getElem?_cons_succ, true_and, if_true, if_false, Bool.false_eq_true]; exact sb q
    | tup x => simp only [rdIsB, look, isB, dFldS, dMethK, dCallK, spK, dCallO, dJoined, djCons, djNil, dFmt, dDnew, dDnewM, rdStr, dSeq, dAsg, dVar, dC, dCall, dCons, dNil, dOp, dUn, dTup, dLst, dLstM, dRet, dRetN, dNext, dDrop, dIfS, dTst, dAnd, dOr, dNot, dAndV, dOrV, dNotV, dIf, dPar, dPar3, dAsgG, gNm, gTp, gsCons, gsNil, dCB, dMt, dMt0, dSl, dPart, dNoPart, dKGet, dDisp, dDispM, dpCons, dpNil, dFrz, dYes, rdSub, rdFdiv, rdMod, rdPow, rdLt, rdLe, rdGt, rdGe, rdAbs, rdMax, rdMin, rdI, rdI1, rdI2, rdNeg, rdInt, List.set_cons_zero, List.set_cons_succ, List.getElem?_cons_zero, List.getElem?_cons_succ, true_and, if_true, if_false, Bool.false_eq_true]; exact sb q
    | dct x => simp only [rdIsB, look, isB, dFldS, dMethK, dCallK, spK, dCallO, dJoined, djCons, djNil, dFmt, dDnew, dDnewM, rdStr, dSeq, dAsg, dVar, dC, dCall, dCons, dNil, dOp, dUn, dTup, dLst, dLstM, dRet, dRetN, dNext, dDrop, dIfS, dTst, dAnd, dOr, dNot, dAndV, dOrV, dNotV, dIf, dPar, dPar3, dAsgG, gNm, gTp, gsCons, gsNil, dCB, dMt, dMt0, dSl, dPart, dNoPart, dKGet, dDisp, dDispM, dpCons, dpNil, dFrz, dYes, rdSub, rdFdiv, rdMod, rdPow, rdLt, rdLe, rdGt, rdGe, rdAbs, rdMax, rdMin, rdI, rdI1, rdI2, rdNeg, rdInt, List.set_cons_zero, List.set_cons_succ, List.getElem?_cons_zero, List.getElem?_cons_succ, true_and, if_true, if_false, Bool.false_eq_true]; exact sb q
    | _ => cases h
/-! ### what is wrong with a parameter -/
theorem keptW_split : Txt.split "if then else not both and either or is none fail ask with giving failing inner unanswered" " " = keptW := by decide +kernel
theorem pw_comp {env : DSt} {st : Sto} {Q : List D → Sto → Prop} (hl : env.length = 8) : ∀ (ps : List G3) (acc : List D), acc.length + ps.length < 1000 → Q (acc ++ ps.map (·.1)) st →
    dLcGo (gNm 7) dYes (dOp rdIx (dVar 7) (dC (.int 0))) env (ps.map G3.d) acc st Q
  | [], acc, _, h => by simpa [dLcGo] using h
  | p :: ps, acc, hz, h => by
    have e6 : ∀ d : D, (env.set 7 (some d))[7]? = some (some d) := fun d => by rw [List.getElem?_set_self (by omega)]
    rw [List.length_cons] at hz
    simp only [List.map_cons, dLcGo, dFldS, dMethK, dCallK, spK, dCallO, dJoined, djCons, djNil, dFmt, dDnew, dDnewM, rdStr, dSeq, dAsg, dVar, dC, dCall, dCons, dNil, dOp, dUn, dTup, dLst, dLstM, dRet, dRetN, dNext, dDrop, dIfS, dTst, dAnd, dOr, dNot, dAndV, dOrV, dNotV, dIf, dPar, dPar3, dAsgG, gNm, gTp, gsCons, gsNil, dCB, dMt, dMt0, dSl, dPart, dNoPart, dKGet, dDisp, dDispM, dpCons, dpNil, dFrz, dYes, rdSub, rdFdiv, rdMod, rdPow, rdLt, rdLe, rdGt, rdGe, rdAbs, rdMax, rdMin, rdI, rdI1, rdI2, rdNeg, rdInt, List.set_cons_zero, List.set_cons_succ, List.getElem?_cons_zero, List.getElem?_cons_succ, true_and, if_true, if_false, Bool.false_eq_true, e6, G3.d]
    refine ix_tup ?_
    rw [atL0, onS_some]
    refine ⟨by rw [sizeLine_eq]; omega, ?_⟩
    exact pw_comp hl ps (acc ++ [p.1]) (by rw [List.length_append, List.length_singleton]; omega) (by simpa using h)
theorem po_comp {env : DSt} {st : Sto} {Q : List D → Sto → Prop} (hl : env.length = 8) : ∀ (ps : List G3) (acc : List D), acc.length + ps.length < 1000 → Q (acc ++ (ps.filter fun p => !isNon p.2.2).map fun _ => D.int 1) st →
    dLcGo (gNm 7) (dTst (dOp (rdIsN true) (dOp rdIx (dVar 7) (dC (.int 2))) (dC .non))) (dC (.int 1)) env (ps.map G3.d) acc st Q
  | [], acc, _, h => by simpa [dLcGo] using h
  | p :: ps, acc, hz, h => by
    have e6 : ∀ d : D, (env.set 7 (some d))[7]? = some (some d) := fun d => by rw [List.getElem?_set_self (by omega)]
    rw [List.length_cons] at hz
    simp only [List.map_cons, dLcGo, dFldS, dMethK, dCallK, spK, dCallO, dJoined, djCons, djNil, dFmt, dDnew, dDnewM, rdStr, dSeq, dAsg, dVar, dC, dCall, dCons, dNil, dOp, dUn, dTup, dLst, dLstM, dRet, dRetN, dNext, dDrop, dIfS, dTst, dAnd, dOr, dNot, dAndV, dOrV, dNotV, dIf, dPar, dPar3, dAsgG, gNm, gTp, gsCons, gsNil, dCB, dMt, dMt0, dSl, dPart, dNoPart, dKGet, dDisp, dDispM, dpCons, dpNil, dFrz, dYes, rdSub, rdFdiv, rdMod, rdPow, rdLt, rdLe, rdGt, rdGe, rdAbs, rdMax, rdMin, rdI, rdI1, rdI2, rdNeg, rdInt, List.set_cons_zero, List.set_cons_succ, List.getElem?_cons_zero, List.getElem?_cons_succ, true_and, if_true, if_false, Bool.false_eq_true, e6, G3.d]
    refine ix_tup ?_
    rw [atL2, onS_some]
    refine isNt_of ?_
    cases c : isNon p.2.2 with
    | true =>
      simp only [dFldS, dMethK, dCallK, spK, dCallO, dJoined, djCons, djNil, dFmt, dDnew, dDnewM, rdStr, dSeq, dAsg, dVar, dC, dCall, dCons, dNil, dOp, dUn, dTup, dLst, dLstM, dRet, dRetN, dNext, dDrop, dIfS, dTst, dAnd, dOr, dNot, dAndV, dOrV, dNotV, dIf, dPar, dPar3, dAsgG, gNm, gTp, gsCons, gsNil, dCB, dMt, dMt0, dSl, dPart, dNoPart, dKGet, dDisp, dDispM, dpCons, dpNil, dFrz, dYes, rdSub, rdFdiv, rdMod, rdPow, rdLt, rdLe, rdGt, rdGe, rdAbs, rdMax, rdMin, rdI, rdI1, rdI2, rdNeg, rdInt, List.set_cons_zero, List.set_cons_succ, List.getElem?_cons_zero, List.getElem?_cons_succ, true_and, if_true, if_false, Bool.false_eq_true, Bool.not_true]
      refine po_comp hl ps acc (by omega) ?_
      rw [List.filter_cons_of_neg (by simp [c])] at h
      exact h
    | false =>
      simp only [dFldS, dMethK, dCallK, spK, dCallO, dJoined, djCons, djNil, dFmt, dDnew, dDnewM, rdStr, dSeq, dAsg, dVar, dC, dCall, dCons, dNil, dOp, dUn, dTup, dLst, dLstM, dRet, dRetN, dNext, dDrop, dIfS, dTst, dAnd, dOr, dNot, dAndV, dOrV, dNotV, dIf, dPar, dPar3, dAsgG, gNm, gTp, gsCons, gsNil, dCB, dMt, dMt0, dSl, dPart, dNoPart, dKGet, dDisp, dDispM, dpCons, dpNil, dFrz, dYes, rdSub, rdFdiv, rdMod, rdPow, rdLt, rdLe, rdGt, rdGe, rdAbs, rdMax, rdMin, rdI, rdI1, rdI2, rdNeg, rdInt, List.set_cons_zero, List.set_cons_succ, List.getElem?_cons_zero, List.getElem?_cons_succ, true_and, if_true, if_false, Bool.false_eq_true, Bool.not_false]
      refine ⟨by rw [sizeLine_eq]; omega, ?_⟩
      refine po_comp hl ps (acc ++ [.int 1]) (by rw [List.length_append, List.length_singleton]; omega) ?_
      rw [List.filter_cons_of_pos (by simp [c])] at h
      simpa using h
def resS : Option Str → D
  | none => .non
  | some s => .str s
def spParW : DSp := fun ds st Q _ => ∃ (lots : List G3) (w k : Nat) (p : G3), ds = [.lst (lots.map G3.d), .int (w : Int), .int (k : Int)] ∧ (∀ q ∈ lots, q.ok) ∧ lots.length ≤ 8 ∧ lots[k]? = some p ∧ (∀ q ∈ lots.take k, badN q.1 = false) ∧ Q (resS (pwrong lots w k p)) st
theorem rd_parW {lots : List G3} {w k : Nat} {p : G3} {st : Sto} {Q : QD} (ok : ∀ q ∈ lots, q.ok) (few : lots.length ≤ 8) (hk : lots[k]? = some p) (hg : ∀ q ∈ lots.take k, badN q.1 = false) (q : Q (resS (pwrong lots w k p)) st) :
    t__law_param_wrong spIsNameL spFitsL (ends Q) [some (.lst (lots.map G3.d)), some (.int (w : Int)), some (.int (k : Int)), none, none, none, none, none] st := by
  have hp := ok p (List.mem_of_getElem? hk)
  have kl := (List.getElem?_eq_some_iff.mp hk).1
  have ei : atI (lots.map G3.d) (k : Int) = some p.d := by
    unfold atI ixN
    rw [if_pos (Int.natCast_nonneg k), if_pos (by rw [List.length_map]; omega)]
    show (lots.map G3.d)[(k : Int).toNat]? = _
    rw [show (k : Int).toNat = k from rfl, List.getElem?_map, hk]; rfl
  have tl : (lots.take k).length ≤ 8 := by rw [List.length_take]; omega
  simp only [t__law_param_wrong, dFldS, dMethK, dCallK, spK, dCallO, dJoined, djCons, djNil, dFmt, dDnew, dDnewM, rdStr, dSeq, dAsg, dVar, dC, dCall, dCons, dNil, dOp, dUn, dTup, dLst, dLstM, dRet, dRetN, dNext, dDrop, dIfS, dTst, dAnd, dOr, dNot, dAndV, dOrV, dNotV, dIf, dPar, dPar3, dAsgG, gNm, gTp, gsCons, gsNil, dCB, dMt, dMt0, dSl, dPart, dNoPart, dKGet, dDisp, dDispM, dpCons, dpNil, dFrz, dYes, rdSub, rdFdiv, rdMod, rdPow, rdLt, rdLe, rdGt, rdGe, rdAbs, rdMax, rdMin, rdI, rdI1, rdI2, rdNeg, rdInt, List.set_cons_zero, List.set_cons_succ, List.getElem?_cons_zero, List.getElem?_cons_succ, true_and, if_true, if_false, Bool.false_eq_true, dSplit, keptW_split]
  refine ⟨by decide +kernel, ?_⟩
  simp only [t__law_param_wrong_r1, dFldS, dMethK, dCallK, spK, dCallO, dJoined, djCons, djNil, dFmt, dDnew, dDnewM, rdStr, dSeq, dAsg, dVar, dC, dCall, dCons, dNil, dOp, dUn, dTup, dLst, dLstM, dRet, dRetN, dNext, dDrop, dIfS, dTst, dAnd, dOr, dNot, dAndV, dOrV, dNotV, dIf, dPar, dPar3, dAsgG, gNm, gTp, gsCons, gsNil, dCB, dMt, dMt0, dSl, dPart, dNoPart, dKGet, dDisp, dDispM, dpCons, dpNil, dFrz, dYes, rdSub, rdFdiv, rdMod, rdPow, rdLt, rdLe, rdGt, rdGe, rdAbs, rdMax, rdMin, rdI, rdI1, rdI2, rdNeg, rdInt, List.set_cons_zero, List.set_cons_succ, List.getElem?_cons_zero, List.getElem?_cons_succ, true_and, if_true, if_false, Bool.false_eq_true]
  refine ix_lst ?_
  rw [ei, onS_some]
  simp only [G3.d, t__law_param_wrong_r2, dFldS, dMethK, dCallK, spK, dCallO, dJoined, djCons, djNil, dFmt, dDnew, dDnewM, rdStr, dSeq, dAsg, dVar, dC, dCall, dCons, dNil, dOp, dUn, dTup, dLst, dLstM, dRet, dRetN, dNext, dDrop, dIfS, dTst, dAnd, dOr, dNot, dAndV, dOrV, dNotV, dIf, dPar, dPar3, dAsgG, gNm, gTp, gsCons, gsNil, dCB, dMt, dMt0, dSl, dPart, dNoPart, dKGet, dDisp, dDispM, dpCons, dpNil, dFrz, dYes, rdSub, rdFdiv, rdMod, rdPow, rdLt, rdLe, rdGt, rdGe, rdAbs, rdMax, rdMin, rdI, rdI1, rdI2, rdNeg, rdInt, List.set_cons_zero, List.set_cons_succ, List.getElem?_cons_zero, List.getElem?_cons_succ, true_and, if_true, if_false, Bool.false_eq_true]
  refine ⟨by rfl, _, rfl, hp.nm.at1, ?_⟩
  unfold pwrong at q
  cases eb : badN p.1 with
  | true =>
    rw [if_pos eb] at q
    cases en : nmB p.1 with
    | false =>
      simp only [en, dFldS, dMethK, dCallK, spK, dCallO, dJoined, djCons, djNil, dFmt, dDnew, dDnewM, rdStr, dSeq, dAsg, dVar, dC, dCall, dCons, dNil, dOp, dUn, dTup, dLst, dLstM, dRet, dRetN, dNext, dDrop, dIfS, dTst, dAnd, dOr, dNot, dAndV, dOrV, dNotV, dIf, dPar, dPar3, dAsgG, gNm, gTp, gsCons, gsNil, dCB, dMt, dMt0, dSl, dPart, dNoPart, dKGet, dDisp, dDispM, dpCons, dpNil, dFrz, dYes, rdSub, rdFdiv, rdMod, rdPow, rdLt, rdLe, rdGt, rdGe, rdAbs, rdMax, rdMin, rdI, rdI1, rdI2, rdNeg, rdInt, List.set_cons_zero, List.set_cons_succ, List.getElem?_cons_zero, List.getElem?_cons_succ, true_and, if_true, if_false, Bool.false_eq_true, Bool.not_false]
      exact sb q
    | true =>
      simp only [en, dFldS, dMethK, dCallK, spK, dCallO, dJoined, djCons, djNil, dFmt, dDnew, dDnewM, rdStr, dSeq, dAsg, dVar, dC, dCall, dCons, dNil, dOp, dUn, dTup, dLst, dLstM, dRet, dRetN, dNext, dDrop, dIfS, dTst, dAnd, dOr, dNot, dAndV, dOrV, dNotV, dIf, dPar, dPar3, dAsgG, gNm, gTp, gsCons, gsNil, dCB, dMt, dMt0, dSl, dPart, dNoPart, dKGet, dDisp, dDispM, dpCons, dpNil, dFrz, dYes, rdSub, rdFdiv, rdMod, rdPow, rdLt, rdLe, rdGt, rdGe, rdAbs, rdMax, rdMin, rdI, rdI1, rdI2, rdNeg, rdInt, List.set_cons_zero, List.set_cons_succ, List.getElem?_cons_zero, List.getElem?_cons_succ, true_and, if_true, if_false, Bool.false_eq_true, Bool.not_true]
      cases ed : p.1 with
      | str x =>
        rw [ed] at eb en
        have lw : Lw x := of_decide_eq_true en
        have hx : x ∈ keptW := by
          simp only [badN, decide_eq_true lw, Bool.not_true, Bool.false_or, decide_eq_true_eq] at eb
          exact eb
        refine in_lst (ys := keptW) lw.okS kept_ok ?_
        simp only [hx, decide_true, Bool.bne_false, dFldS, dMethK, dCallK, spK, dCallO, dJoined, djCons, djNil, dFmt, dDnew, dDnewM, rdStr, dSeq, dAsg, dVar, dC, dCall, dCons, dNil, dOp, dUn, dTup, dLst, dLstM, dRet, dRetN, dNext, dDrop, dIfS, dTst, dAnd, dOr, dNot, dAndV, dOrV, dNotV, dIf, dPar, dPar3, dAsgG, gNm, gTp, gsCons, gsNil, dCB, dMt, dMt0, dSl, dPart, dNoPart, dKGet, dDisp, dDispM, dpCons, dpNil, dFrz, dYes, rdSub, rdFdiv, rdMod, rdPow, rdLt, rdLe, rdGt, rdGe, rdAbs, rdMax, rdMin, rdI, rdI1, rdI2, rdNeg, rdInt, List.set_cons_zero, List.set_cons_succ, List.getElem?_cons_zero, List.getElem?_cons_succ, true_and, if_true, if_false, Bool.false_eq_true]
        exact sb q
      | _ => rw [ed] at en; simp [nmB] at en
  | false =>
    rw [if_neg (by rw [eb]; simp)] at q
    obtain ⟨x, ex, lw, nk⟩ := badN_str eb
    have nb : nmB p.1 = true := by rw [ex]; exact decide_eq_true lw
    simp only [nb, dFldS, dMethK, dCallK, spK, dCallO, dJoined, djCons, djNil, dFmt, dDnew, dDnewM, rdStr, dSeq, dAsg, dVar, dC, dCall, dCons, dNil, dOp, dUn, dTup, dLst, dLstM, dRet, dRetN, dNext, dDrop, dIfS, dTst, dAnd, dOr, dNot, dAndV, dOrV, dNotV, dIf, dPar, dPar3, dAsgG, gNm, gTp, gsCons, gsNil, dCB, dMt, dMt0, dSl, dPart, dNoPart, dKGet, dDisp, dDispM, dpCons, dpNil, dFrz, dYes, rdSub, rdFdiv, rdMod, rdPow, rdLt, rdLe, rdGt, rdGe, rdAbs, rdMax, rdMin, rdI, rdI1, rdI2, rdNeg, rdInt, List.set_cons_zero, List.set_cons_succ, List.getElem?_cons_zero, List.getElem?_cons_succ, true_and, if_true, if_false, Bool.false_eq_true, Bool.not_true]
    rw [ex]
    refine in_lst (ys := keptW) lw.okS kept_ok ?_
    simp only [nk, decide_false, bne_self_eq_false, dFldS, dMethK, dCallK, spK, dCallO, dJoined, djCons, djNil, dFmt, dDnew, dDnewM, rdStr, dSeq, dAsg, dVar, dC, dCall, dCons, dNil, dOp, dUn, dTup, dLst, dLstM, dRet, dRetN, dNext, dDrop, dIfS, dTst, dAnd, dOr, dNot, dAndV, dOrV, dNotV, dIf, dPar, dPar3, dAsgG, gNm, gTp, gsCons, gsNil, dCB, dMt, dMt0, dSl, dPart, dNoPart, dKGet, dDisp, dDispM, dpCons, dpNil, dFrz, dYes, rdSub, rdFdiv, rdMod, rdPow, rdLt, rdLe, rdGt, rdGe, rdAbs, rdMax, rdMin, rdI, rdI1, rdI2, rdNeg, rdInt, List.set_cons_zero, List.set_cons_succ, List.getElem?_cons_zero, List.getElem?_cons_succ, true_and, if_true, if_false, Bool.false_eq_true, t__law_param_wrong_r3, dLc, dIt, rdSl, look_int, look_str, look_tup, look_l, look_obj, look_bl, look_non, look_d]
    rw [cutD_lo' _ _ (Int.natCast_nonneg k), show (k : Int).toNat = k from rfl, ← List.map_take]
    simp only [itemsOf]
    refine pw_comp (wipeD_len _ _) (lots.take k) [] (by rw [List.length_nil]; omega) ?_
    rw [List.nil_append, names_str hg]
    refine in_lst lw.okS (names_ok hg) ?_
    have sx : strN p.1 = x := by rw [ex]; rfl
    rw [sx] at q
    by_cases ct : x ∈ (lots.take k).map fun q => strN q.1
    · rw [if_pos ct] at q
      simp only [ct, decide_true, Bool.bne_false, dFldS, dMethK, dCallK, spK, dCallO, dJoined, djCons, djNil, dFmt, dDnew, dDnewM, rdStr, dSeq, dAsg, dVar, dC, dCall, dCons, dNil, dOp, dUn, dTup, dLst, dLstM, dRet, dRetN, dNext, dDrop, dIfS, dTst, dAnd, dOr, dNot, dAndV, dOrV, dNotV, dIf, dPar, dPar3, dAsgG, gNm, gTp, gsCons, gsNil, dCB, dMt, dMt0, dSl, dPart, dNoPart, dKGet, dDisp, dDispM, dpCons, dpNil, dFrz, dYes, rdSub, rdFdiv, rdMod, rdPow, rdLt, rdLe, rdGt, rdGe, rdAbs, rdMax, rdMin, rdI, rdI1, rdI2, rdNeg, rdInt, List.set_cons_zero, List.set_cons_succ, List.getElem?_cons_zero, List.getElem?_cons_succ, true_and, if_true, if_false, Bool.false_eq_true]
      exact sb q
    rw [if_neg ct] at q
    simp only [ct, decide_false, bne_self_eq_false, dFldS, dMethK, dCallK, spK, dCallO, dJoined, djCons, djNil, dFmt, dDnew, dDnewM, rdStr, dSeq, dAsg, dVar, dC, dCall, dCons, dNil, dOp, dUn, dTup, dLst, dLstM, dRet, dRetN, dNext, dDrop, dIfS, dTst, dAnd, dOr, dNot, dAndV, dOrV, dNotV, dIf, dPar, dPar3, dAsgG, gNm, gTp, gsCons, gsNil, dCB, dMt, dMt0, dSl, dPart, dNoPart, dKGet, dDisp, dDispM, dpCons, dpNil, dFrz, dYes, rdSub, rdFdiv, rdMod, rdPow, rdLt, rdLe, rdGt, rdGe, rdAbs, rdMax, rdMin, rdI, rdI1, rdI2, rdNeg, rdInt, List.set_cons_zero, List.set_cons_succ, List.getElem?_cons_zero, List.getElem?_cons_succ, true_and, if_true, if_false, Bool.false_eq_true, t__law_param_wrong_r4]
    refine ⟨by simp [sizeLine_eq], in_tup (ys := sortsW) hp.so.1 sorts_ok ?_⟩
    by_cases cs : p.2.1 ∈ sortsW
    · rw [if_neg (fun z => z cs)] at q
      simp only [cs, decide_true, bne_self_eq_false, dFldS, dMethK, dCallK, spK, dCallO, dJoined, djCons, djNil, dFmt, dDnew, dDnewM, rdStr, dSeq, dAsg, dVar, dC, dCall, dCons, dNil, dOp, dUn, dTup, dLst, dLstM, dRet, dRetN, dNext, dDrop, dIfS, dTst, dAnd, dOr, dNot, dAndV, dOrV, dNotV, dIf, dPar, dPar3, dAsgG, gNm, gTp, gsCons, gsNil, dCB, dMt, dMt0, dSl, dPart, dNoPart, dKGet, dDisp, dDispM, dpCons, dpNil, dFrz, dYes, rdSub, rdFdiv, rdMod, rdPow, rdLt, rdLe, rdGt, rdGe, rdAbs, rdMax, rdMin, rdI, rdI1, rdI2, rdNeg, rdInt, List.set_cons_zero, List.set_cons_succ, List.getElem?_cons_zero, List.getElem?_cons_succ, true_and, if_true, if_false, Bool.false_eq_true, t__law_param_wrong_r5]
      have rest : (!isNon p.2.2 && !fitB p.2.1 p.2.2) = false → t__law_param_wrong_r6 spIsNameL spFitsL (ends Q) [some (.lst (lots.map G3.d)), some (.int (w : Int)), some (.int (k : Int)), some (.lst (keptW.map D.str)), some (.str x), some (.str p.2.1), some p.2.2, none] st := fun ed => by
        rw [if_neg (by rw [ed]; simp)] at q
        simp only [t__law_param_wrong_r6, dFldS, dMethK, dCallK, spK, dCallO, dJoined, djCons, djNil, dFmt, dDnew, dDnewM, rdStr, dSeq, dAsg, dVar, dC, dCall, dCons, dNil, dOp, dUn, dTup, dLst, dLstM, dRet, dRetN, dNext, dDrop, dIfS, dTst, dAnd, dOr, dNot, dAndV, dOrV, dNotV, dIf, dPar, dPar3, dAsgG, gNm, gTp, gsCons, gsNil, dCB, dMt, dMt0, dSl, dPart, dNoPart, dKGet, dDisp, dDispM, dpCons, dpNil, dFrz, dYes, rdSub, rdFdiv, rdMod, rdPow, rdLt, rdLe, rdGt, rdGe, rdAbs, rdMax, rdMin, rdI, rdI1, rdI2, rdNeg, rdInt, List.set_cons_zero, List.set_cons_succ, List.getElem?_cons_zero, List.getElem?_cons_succ, true_and, if_true, if_false, Bool.false_eq_true, decide_eq_true_eq]
        by_cases c : k < w
        · rw [if_pos (by omega)]
          refine isN_of ?_
          rw [decide_eq_true c, Bool.true_and] at q
          cases en : isNon p.2.2 with
          | false =>
            simp only [dFldS, dMethK, dCallK, spK, dCallO, dJoined, djCons, djNil, dFmt, dDnew, dDnewM, rdStr, dSeq, dAsg, dVar, dC, dCall, dCons, dNil, dOp, dUn, dTup, dLst, dLstM, dRet, dRetN, dNext, dDrop, dIfS, dTst, dAnd, dOr, dNot, dAndV, dOrV, dNotV, dIf, dPar, dPar3, dAsgG, gNm, gTp, gsCons, gsNil, dCB, dMt, dMt0, dSl, dPart, dNoPart, dKGet, dDisp, dDispM, dpCons, dpNil, dFrz, dYes, rdSub, rdFdiv, rdMod, rdPow, rdLt, rdLe, rdGt, rdGe, rdAbs, rdMax, rdMin, rdI, rdI1, rdI2, rdNeg, rdInt, List.set_cons_zero, List.set_cons_succ, List.getElem?_cons_zero, List.getElem?_cons_succ, true_and, if_true, if_false, Bool.false_eq_true, t__law_param_wrong_r7]
            rw [en, Bool.false_and, if_neg (by simp)] at q
            exact sb q
          | true =>
            simp only [dFldS, dMethK, dCallK, spK, dCallO, dJoined, djCons, djNil, dFmt, dDnew, dDnewM, rdStr, dSeq, dAsg, dVar, dC, dCall, dCons, dNil, dOp, dUn, dTup, dLst, dLstM, dRet, dRetN, dNext, dDrop, dIfS, dTst, dAnd, dOr, dNot, dAndV, dOrV, dNotV, dIf, dPar, dPar3, dAsgG, gNm, gTp, gsCons, gsNil, dCB, dMt, dMt0, dSl, dPart, dNoPart, dKGet, dDisp, dDispM, dpCons, dpNil, dFrz, dYes, rdSub, rdFdiv, rdMod, rdPow, rdLt, rdLe, rdGt, rdGe, rdAbs, rdMax, rdMin, rdI, rdI1, rdI2, rdNeg, rdInt, List.set_cons_zero, List.set_cons_succ, List.getElem?_cons_zero, List.getElem?_cons_succ, true_and, if_true, if_false, Bool.false_eq_true, dLc, dIt, rdSl, look_int, look_str, look_tup, look_l, look_obj, look_bl, look_non, look_d]
            rw [cutD_lo' _ _ (Int.natCast_nonneg k), show (k : Int).toNat = k from rfl, ← List.map_take]
            simp only [itemsOf]
            refine po_comp (wipeD_len _ _) (lots.take k) [] (by rw [List.length_nil]; omega) ?_
            rw [en, Bool.true_and] at q
            obtain ⟨o1, o2⟩ := ones_ok (out := ((lots.take k).filter fun p => !isNon p.2.2).map fun _ => D.int 1) fun x hx => by
              obtain ⟨_, _, e⟩ := List.mem_map.mp hx
              exact e.symm
            rw [List.nil_append]
            refine ⟨by simp [sizeLine_eq], eq_nil o1 (by omega) ?_⟩
            have e : (decide ((((lots.take k).filter fun p => !isNon p.2.2).map fun _ => D.int 1) = []) != true) = (lots.take k).any fun q => !isNon q.2.2 := by
              rw [Bool.eq_iff_iff]
              simp
            rw [e]
            cases ea : (lots.take k).any fun q => !isNon q.2.2 with
            | true =>
              rw [if_pos ea] at q
              simp only [dFldS, dMethK, dCallK, spK, dCallO, dJoined, djCons, djNil, dFmt, dDnew, dDnewM, rdStr, dSeq, dAsg, dVar, dC, dCall, dCons, dNil, dOp, dUn, dTup, dLst, dLstM, dRet, dRetN, dNext, dDrop, dIfS, dTst, dAnd, dOr, dNot, dAndV, dOrV, dNotV, dIf, dPar, dPar3, dAsgG, gNm, gTp, gsCons, gsNil, dCB, dMt, dMt0, dSl, dPart, dNoPart, dKGet, dDisp, dDispM, dpCons, dpNil, dFrz, dYes, rdSub, rdFdiv, rdMod, rdPow, rdLt, rdLe, rdGt, rdGe, rdAbs, rdMax, rdMin, rdI, rdI1, rdI2, rdNeg, rdInt, List.set_cons_zero, List.set_cons_succ, List.getElem?_cons_zero, List.getElem?_cons_succ, true_and, if_true, if_false, Bool.false_eq_true]
              exact sb q
            | false =>
              rw [if_neg (by rw [ea]; simp)] at q
              simp only [dFldS, dMethK, dCallK, spK, dCallO, dJoined, djCons, djNil, dFmt, dDnew, dDnewM, rdStr, dSeq, dAsg, dVar, dC, dCall, dCons, dNil, dOp, dUn, dTup, dLst, dLstM, dRet, dRetN, dNext, dDrop, dIfS, dTst, dAnd, dOr, dNot, dAndV, dOrV, dNotV, dIf, dPar, dPar3, dAsgG, gNm, gTp, gsCons, gsNil, dCB, dMt, dMt0, dSl, dPart, dNoPart, dKGet, dDisp, dDispM, dpCons, dpNil, dFrz, dYes, rdSub, rdFdiv, rdMod, rdPow, rdLt, rdLe, rdGt, rdGe, rdAbs, rdMax, rdMin, rdI, rdI1, rdI2, rdNeg, rdInt, List.set_cons_zero, List.set_cons_succ, List.getElem?_cons_zero, List.getElem?_cons_succ, true_and, if_true, if_false, Bool.false_eq_true, t__law_param_wrong_r7]
              exact sb q
        · rw [if_neg (by omega)]
          rw [decide_eq_false c, Bool.false_and, if_neg (by simp)] at q
          simp only [dFldS, dMethK, dCallK, spK, dCallO, dJoined, djCons, djNil, dFmt, dDnew, dDnewM, rdStr, dSeq, dAsg, dVar, dC, dCall, dCons, dNil, dOp, dUn, dTup, dLst, dLstM, dRet, dRetN, dNext, dDrop, dIfS, dTst, dAnd, dOr, dNot, dAndV, dOrV, dNotV, dIf, dPar, dPar3, dAsgG, gNm, gTp, gsCons, gsNil, dCB, dMt, dMt0, dSl, dPart, dNoPart, dKGet, dDisp, dDispM, dpCons, dpNil, dFrz, dYes, rdSub, rdFdiv, rdMod, rdPow, rdLt, rdLe, rdGt, rdGe, rdAbs, rdMax, rdMin, rdI, rdI1, rdI2, rdNeg, rdInt, List.set_cons_zero, List.set_cons_succ, List.getElem?_cons_zero, List.getElem?_cons_succ, true_and, if_true, if_false, Bool.false_eq_true, t__law_param_wrong_r7]
          exact sb q
      refine isNt_of ?_
      cases en : isNon p.2.2 with
      | true =>
        simp only [dFldS, dMethK, dCallK, spK, dCallO, dJoined, djCons, djNil, dFmt, dDnew, dDnewM, rdStr, dSeq, dAsg, dVar, dC, dCall, dCons, dNil, dOp, dUn, dTup, dLst, dLstM, dRet, dRetN, dNext, dDrop, dIfS, dTst, dAnd, dOr, dNot, dAndV, dOrV, dNotV, dIf, dPar, dPar3, dAsgG, gNm, gTp, gsCons, gsNil, dCB, dMt, dMt0, dSl, dPart, dNoPart, dKGet, dDisp, dDispM, dpCons, dpNil, dFrz, dYes, rdSub, rdFdiv, rdMod, rdPow, rdLt, rdLe, rdGt, rdGe, rdAbs, rdMax, rdMin, rdI, rdI1, rdI2, rdNeg, rdInt, List.set_cons_zero, List.set_cons_succ, List.getElem?_cons_zero, List.getElem?_cons_succ, true_and, if_true, if_false, Bool.false_eq_true, Bool.not_true]
        exact rest (by rw [en]; rfl)
      | false =>
        simp only [dFldS, dMethK, dCallK, spK, dCallO, dJoined, djCons, djNil, dFmt, dDnew, dDnewM, rdStr, dSeq, dAsg, dVar, dC, dCall, dCons, dNil, dOp, dUn, dTup, dLst, dLstM, dRet, dRetN, dNext, dDrop, dIfS, dTst, dAnd, dOr, dNot, dAndV, dOrV, dNotV, dIf, dPar, dPar3, dAsgG, gNm, gTp, gsCons, gsNil, dCB, dMt, dMt0, dSl, dPart, dNoPart, dKGet, dDisp, dDispM, dpCons, dpNil, dFrz, dYes, rdSub, rdFdiv, rdMod, rdPow, rdLt, rdLe, rdGt, rdGe, rdAbs, rdMax, rdMin, rdI, rdI1, rdI2, rdNeg, rdInt, List.set_cons_zero, List.set_cons_succ, List.getElem?_cons_zero, List.getElem?_cons_succ, true_and, if_true, if_false, Bool.false_eq_true, Bool.not_false]
        refine ⟨_, _, rfl, cs, hp.df.at1, ?_⟩
        cases ef : fitB p.2.1 p.2.2 with
        | true =>
          simp only [dFldS, dMethK, dCallK, spK, dCallO, dJoined, djCons, djNil, dFmt, dDnew, dDnewM, rdStr, dSeq, dAsg, dVar, dC, dCall, dCons, dNil, dOp, dUn, dTup, dLst, dLstM, dRet, dRetN, dNext, dDrop, dIfS, dTst, dAnd, dOr, dNot, dAndV, dOrV, dNotV, dIf, dPar, dPar3, dAsgG, gNm, gTp, gsCons, gsNil, dCB, dMt, dMt0, dSl, dPart, dNoPart, dKGet, dDisp, dDispM, dpCons, dpNil, dFrz, dYes, rdSub, rdFdiv, rdMod, rdPow, rdLt, rdLe, rdGt, rdGe, rdAbs, rdMax, rdMin, rdI, rdI1, rdI2, rdNeg, rdInt, List.set_cons_zero, List.set_cons_succ, List.getElem?_cons_zero, List.getElem?_cons_succ, true_and, if_true, if_false, Bool.false_eq_true, Bool.not_true]
          exact rest (by rw [ef, Bool.not_true, Bool.and_false])
        | false =>
          simp only [dFldS, dMethK, dCallK, spK, dCallO, dJoined, djCons, djNil, dFmt, dDnew, dDnewM, rdStr, dSeq, dAsg, dVar, dC, dCall, dCons, dNil, dOp, dUn, dTup, dLst, dLstM, dRet, dRetN, dNext, dDrop, dIfS, dTst, dAnd, dOr, dNot, dAndV, dOrV, dNotV, dIf, dPar, dPar3, dAsgG, gNm, gTp, gsCons, gsNil, dCB, dMt, dMt0, dSl, dPart, dNoPart, dKGet, dDisp, dDispM, dpCons, dpNil, dFrz, dYes, rdSub, rdFdiv, rdMod, rdPow, rdLt, rdLe, rdGt, rdGe, rdAbs, rdMax, rdMin, rdI, rdI1, rdI2, rdNeg, rdInt, List.set_cons_zero, List.set_cons_succ, List.getElem?_cons_zero, List.getElem?_cons_succ, true_and, if_true, if_false, Bool.false_eq_true, Bool.not_false]
          rw [if_pos (by rw [en, ef]; rfl)] at q
          exact sb q
    · rw [if_pos cs] at q
      simp only [cs, decide_false, Bool.bne_true, Bool.not_false, dFldS, dMethK, dCallK, spK, dCallO, dJoined, djCons, djNil, dFmt, dDnew, dDnewM, rdStr, dSeq, dAsg, dVar, dC, dCall, dCons, dNil, dOp, dUn, dTup, dLst, dLstM, dRet, dRetN, dNext, dDrop, dIfS, dTst, dAnd, dOr, dNot, dAndV, dOrV, dNotV, dIf, dPar, dPar3, dAsgG, gNm, gTp, gsCons, gsNil, dCB, dMt, dMt0, dSl, dPart, dNoPart, dKGet, dDisp, dDispM, dpCons, dpNil, dFrz, dYes, rdSub, rdFdiv, rdMod, rdPow, rdLt, rdLe, rdGt, rdGe, rdAbs, rdMax, rdMin, rdI, rdI1, rdI2, rdNeg, rdInt, List.set_cons_zero, List.set_cons_succ, List.getElem?_cons_zero, List.getElem?_cons_succ, true_and, if_true, if_false, Bool.false_eq_true]
      exact sb q
end TL
namespace TL
open PySem PySem.Spec PyProof.Rows L2
def t__law_odd_r1 (_law_pick : DSp) : TDS :=
  (dRet (dCall _law_pick (dCons (dVar 0) (dCons (dOp rdAdd (dVar 1) (dLst (dCons (dC (.str "sizesize")) (dCons (dC (.str "late")) dNil)))) dNil))))
def t__law_odd (_law_pick : DSp) : TDS :=
  (dSeq (dAsg 1 (dLst (dCons (dC (.str "")) (dCons (dC (.str "Size")) (dCons (dC (.str "toolongword")) (dCons (dC (.str "a1")) (dCons (dC (.str " a")) (dCons (dC (.int 5)) (dCons (dC .non) (dCons (dC (.bl true)) (dCons (dTup (dCons (dC (.str "a")) dNil)) (dCons (dLst (dCons (dC (.str "a")) dNil)) (dCons (dC (.str "if")) (dCons (dC (.str "inner")) (dCons (dC (.str "unanswered")) (dCons (dC (.str "with")) dNil))))))))))))))))
  (t__law_odd_r1 _law_pick))
theorem st__law_odd (ds : List D) : startD ["_law_box_here", "_law_some"] ds = ds.map some ++ List.replicate (2 - ds.length) none := rfl
def t__law_spoilt_r11 (_law_take : DSp) (_law_odd : DSp) (_law_pick : DSp) (_law_names : DSp) : TDS :=
  (dRet (dTup (dCons (dVar 2) (dCons (dVar 3) (dCons (dSl (dVar 8) dNoPart (dPart (dVar 9))) (dCons (dSl (dVar 8) (dPart (dVar 9)) dNoPart) (dCons (dVar 6) dNil)))))))
def t__law_spoilt_r10 (_law_take : DSp) (_law_odd : DSp) (_law_pick : DSp) (_law_names : DSp) : TDS :=
  (dSeq (dAsg 8 (dOp rdAdd (dOp rdAdd (dSl (dVar 8) dNoPart (dPart (dVar 10))) (dLst (dCons (dVar 11) dNil))) (dSl (dVar 8) (dPart (dOp rdAdd (dVar 10) (dC (.int 1)))) dNoPart)))
  (t__law_spoilt_r11 _law_take _law_odd _law_pick _law_names))
def t__law_spoilt_r9 (_law_take : DSp) (_law_odd : DSp) (_law_pick : DSp) (_law_names : DSp) : TDS :=
  (dSeq (dIfS (dTst (dOp (rdEq false) (dVar 7) (dC (.int 5))))
  (dAsg 11 (dTup (dCons (dCall _law_odd (dCons (dVar 0) dNil)) (dCons (dOp rdIx (dVar 11) (dC (.int 1))) (dCons (dOp rdIx (dVar 11) (dC (.int 2))) dNil)))))
  (dIfS (dTst (dOp (rdEq false) (dVar 7) (dC (.int 6))))
  (dAsg 11 (dTup (dCons (dOp rdIx (dOp rdIx (dVar 8) (dCall _law_take (dCons (dVar 0) (dCons (dCB rdLen (dCons (dVar 8) dNil)) dNil)))) (dC (.int 0))) (dCons (dOp rdIx (dVar 11) (dC (.int 1))) (dCons (dOp rdIx (dVar 11) (dC (.int 2))) dNil)))))
  (dIfS (dTst (dOp (rdEq false) (dVar 7) (dC (.int 7))))
  (dAsg 11 (dTup (dCons (dOp rdIx (dVar 11) (dC (.int 0))) (dCons (dCall _law_pick (dCons (dVar 0) (dCons (dLst (dCons (dC (.str "word")) (dCons (dC (.str "number")) (dCons (dC (.str "text")) dNil)))) dNil))) (dCons (dOp rdIx (dVar 11) (dC (.int 2))) dNil)))))
  (dAsg 11 (dTup (dCons (dOp rdIx (dVar 11) (dC (.int 0))) (dCons (dOp rdIx (dVar 11) (dC (.int 1))) (dCons (dCall _law_pick (dCons (dVar 0) (dCons (dLst (dCons (dC .non) (dCons (dC (.int 3)) (dCons (dC (.str "red")) (dCons (dC (.bl true)) (dCons (dC (.str "Red")) (dCons (dUn rdNeg (dC (.int 7))) (dCons (dC (.str "")) (dCons (dC (.str "abcdefghi")) dNil))))))))) dNil))) dNil))))))))
  (t__law_spoilt_r10 _law_take _law_odd _law_pick _law_names))
def t__law_spoilt_r8 (_law_take : DSp) (_law_odd : DSp) (_law_pick : DSp) (_law_names : DSp) : TDS :=
  (dSeq (dAsg 11 (dOp rdIx (dVar 8) (dVar 10)))
  (t__law_spoilt_r9 _law_take _law_odd _law_pick _law_names))
def t__law_spoilt_r7 (_law_take : DSp) (_law_odd : DSp) (_law_pick : DSp) (_law_names : DSp) : TDS :=
  (dSeq (dAsg 10 (dCall _law_take (dCons (dVar 0) (dCons (dCB rdLen (dCons (dVar 8) dNil)) dNil))))
  (t__law_spoilt_r8 _law_take _law_odd _law_pick _law_names))
def t__law_spoilt_r6 (_law_take : DSp) (_law_odd : DSp) (_law_pick : DSp) (_law_names : DSp) : TDS :=
  (dSeq (dIfS (dOr (dTst (dOp (rdEq false) (dVar 7) (dC (.int 4)))) (dTst (dOp (rdEq false) (dVar 8) (dLst dNil))))
  (dSeq (dAsg 8 (dOp rdAdd (dVar 8) (dLst (dCons (dTup (dCons (dOp rdIx (dCall _law_names (dCons (dVar 0) (dCons (dC (.int 1)) dNil))) (dC (.int 0))) (dCons (dC (.str "number")) (dCons (dCall _law_pick (dCons (dVar 0) (dCons (dLst (dCons (dC .non) (dCons (dC (.int 3)) dNil))) dNil))) dNil)))) dNil))))
  (dRet (dTup (dCons (dVar 2) (dCons (dVar 3) (dCons (dSl (dVar 8) dNoPart (dPart (dVar 9))) (dCons (dSl (dVar 8) (dPart (dVar 9)) dNoPart) (dCons (dVar 6) dNil))))))))
  dNext)
  (t__law_spoilt_r7 _law_take _law_odd _law_pick _law_names))
def t__law_spoilt_r5 (_law_take : DSp) (_law_odd : DSp) (_law_pick : DSp) (_law_names : DSp) : TDS :=
  (dSeq (dIfS (dTst (dOp (rdEq false) (dVar 7) (dC (.int 3))))
  (dRet (dTup (dCons (dVar 2) (dCons (dVar 3) (dCons (dVar 5) (dCons (dVar 4) (dCons (dVar 6) dNil)))))))
  dNext)
  (t__law_spoilt_r6 _law_take _law_odd _law_pick _law_names))
def t__law_spoilt_r4 (_law_take : DSp) (_law_odd : DSp) (_law_pick : DSp) (_law_names : DSp) : TDS :=
  (dSeq (dIfS (dTst (dOp (rdEq false) (dVar 7) (dC (.int 2))))
  (dRet (dTup (dCons (dVar 2) (dCons (dVar 3) (dCons (dVar 4) (dCons (dVar 5) (dCons (dCall _law_pick (dCons (dVar 0) (dCons (dLst (dCons (dC (.str "word")) (dCons (dC (.str "number")) (dCons (dC (.str "text")) dNil)))) dNil))) dNil)))))))
  dNext)
  (t__law_spoilt_r5 _law_take _law_odd _law_pick _law_names))
def t__law_spoilt_r3 (_law_take : DSp) (_law_odd : DSp) (_law_pick : DSp) (_law_names : DSp) : TDS :=
  (dSeq (dIfS (dTst (dOp (rdEq false) (dVar 7) (dC (.int 1))))
  (dRet (dTup (dCons (dVar 2) (dCons (dCall _law_pick (dCons (dVar 0) (dCons (dLst (dCons (dC (.str "last")) (dCons (dC (.str "first")) (dCons (dC (.str "")) (dCons (dC (.str "through")) dNil))))) dNil))) (dCons (dVar 4) (dCons (dVar 5) (dCons (dVar 6) dNil)))))))
  dNext)
  (t__law_spoilt_r4 _law_take _law_odd _law_pick _law_names))
def t__law_spoilt_r2 (_law_take : DSp) (_law_odd : DSp) (_law_pick : DSp) (_law_names : DSp) : TDS :=
  (dSeq (dIfS (dTst (dOp (rdEq false) (dVar 7) (dC (.int 0))))
  (dRet (dTup (dCons (dCall _law_odd (dCons (dVar 0) dNil)) (dCons (dVar 3) (dCons (dVar 4) (dCons (dVar 5) (dCons (dVar 6) dNil)))))))
  dNext)
  (t__law_spoilt_r3 _law_take _law_odd _law_pick _law_names))
def t__law_spoilt_r1 (_law_take : DSp) (_law_odd : DSp) (_law_pick : DSp) (_law_names : DSp) : TDS :=
  (dSeq (dPar3 7 8 9 (dCons (dCall _law_take (dCons (dVar 0) (dCons (dC (.int 10)) dNil))) (dCons (dOp rdAdd (dVar 4) (dVar 5)) (dCons (dCB rdLen (dCons (dVar 4) dNil)) dNil))))
  (t__law_spoilt_r2 _law_take _law_odd _law_pick _law_names))
def t__law_spoilt (_law_take : DSp) (_law_odd : DSp) (_law_pick : DSp) (_law_names : DSp) : TDS :=
  (dSeq (dAsgG (dVar 1) (gTp 5 (gsCons (gNm 2) (gsCons (gNm 3) (gsCons (gNm 4) (gsCons (gNm 5) (gsCons (gNm 6) gsNil)))))))
  (t__law_spoilt_r1 _law_take _law_odd _law_pick _law_names))
theorem st__law_spoilt (ds : List D) : startD ["_law_box_here", "_law_model", "_law_name", "_law_kind", "_law_some", "_law_more", "_law_outs", "_law_form", "_law_lots", "_law_wide", "_law_spot", "_law_own"] ds = ds.map some ++ List.replicate (12 - ds.length) none := rfl
def t__law_heard_of_r2 (n_Hook : DSp) : TDS :=
  (dRet (dVar 1))
def t__law_heard_of_r1 (n_Hook : DSp) : TDS :=
  (dSeq (dTry 2 0 (fun Xd => (dDrop (dCallX n_Hook ⟨3, ["only", "gives"], [0, 1, 2, 3, 4], []⟩ Xd (dCons (dOp rdIx (dVar 0) (dC (.int 0))) (dCons (dOp rdIx (dVar 0) (dC (.int 1))) (dCons (dOp rdIx (dVar 0) (dC (.int 2))) dNil))) (dCons (dOp rdIx (dVar 0) (dC (.int 3))) (dCons (dOp rdIx (dVar 0) (dC (.int 4))) dNil)))))
  (fun fs => (dAsg 1 (dIf (dTst (dC (.bl true))) (dTup (dCons (dXf fs "word") (dCons (dXf fs "name") dNil))) (dC (.str "other"))))))
  (t__law_heard_of_r2 n_Hook))
def t__law_heard_of (n_Hook : DSp) : TDS :=
  (dSeq (dAsg 1 (dC .non))
  (t__law_heard_of_r1 n_Hook))
theorem st__law_heard_of (ds : List D) : startD ["_law_model", "_law_found", "e"] ds = ds.map some ++ List.replicate (3 - ds.length) none := rfl
def t_law_b1 (_law_box : DSp) (_law_names : DSp) (_law_take : DSp) (_law_hook : DSp) (_law_pick : DSp) (_law_spoilt : DSp) (_law_heard_of : DSp) (_law_wrong : DSp) : TDS :=
  (dAsg 4 (dCall _law_spoilt (dCons (dVar 1) (dCons (dVar 4) dNil))))
def t_law_b2_r3 (_law_box : DSp) (_law_names : DSp) (_law_take : DSp) (_law_hook : DSp) (_law_pick : DSp) (_law_spoilt : DSp) (_law_heard_of : DSp) (_law_wrong : DSp) : TDS :=
  (dIfS (dTst (dOp (rdEq true) (dCB rdReprN (dCons (dCall _law_heard_of (dCons (dVar 4) dNil)) dNil)) (dCB rdReprN (dCons (dCall _law_wrong (dCons (dVar 4) dNil)) dNil))))
  (dRet (dC (.bl false)))
  dNext)
def t_law_b2_r2 (_law_box : DSp) (_law_names : DSp) (_law_take : DSp) (_law_hook : DSp) (_law_pick : DSp) (_law_spoilt : DSp) (_law_heard_of : DSp) (_law_wrong : DSp) : TDS :=
  (dSeq (dFor (dRg1 (dCall _law_take (dCons (dVar 1) (dCons (dC (.int 3)) dNil)))) (gNm 5)
  (t_law_b1 _law_box _law_names _law_take _law_hook _law_pick _law_spoilt _law_heard_of _law_wrong))
  (t_law_b2_r3 _law_box _law_names _law_take _law_hook _law_pick _law_spoilt _law_heard_of _law_wrong))
def t_law_b2_r1 (_law_box : DSp) (_law_names : DSp) (_law_take : DSp) (_law_hook : DSp) (_law_pick : DSp) (_law_spoilt : DSp) (_law_heard_of : DSp) (_law_wrong : DSp) : TDS :=
  (dSeq (dAsg 4 (dCall _law_hook (dCons (dVar 1) (dCons (dVar 3) (dCons (dCall _law_pick (dCons (dVar 1) (dCons (dLst (dCons (dC (.str "first")) (dCons (dC (.str "through")) (dCons (dC (.str "each")) dNil)))) dNil))) dNil)))))
  (t_law_b2_r2 _law_box _law_names _law_take _law_hook _law_pick _law_spoilt _law_heard_of _law_wrong))
def t_law_b2 (_law_box : DSp) (_law_names : DSp) (_law_take : DSp) (_law_hook : DSp) (_law_pick : DSp) (_law_spoilt : DSp) (_law_heard_of : DSp) (_law_wrong : DSp) : TDS :=
  (dSeq (dAsg 3 (dOp rdIx (dCall _law_names (dCons (dVar 1) (dCons (dC (.int 4)) dNil))) (dCall _law_take (dCons (dVar 1) (dCons (dC (.int 4)) dNil)))))
  (t_law_b2_r1 _law_box _law_names _law_take _law_hook _law_pick _law_spoilt _law_heard_of _law_wrong))
def t_law_r2 (_law_box : DSp) (_law_names : DSp) (_law_take : DSp) (_law_hook : DSp) (_law_pick : DSp) (_law_spoilt : DSp) (_law_heard_of : DSp) (_law_wrong : DSp) : TDS :=
  (dRet (dC (.bl true)))
def t_law_r1 (_law_box : DSp) (_law_names : DSp) (_law_take : DSp) (_law_hook : DSp) (_law_pick : DSp) (_law_spoilt : DSp) (_law_heard_of : DSp) (_law_wrong : DSp) : TDS :=
  (dSeq (dFor (dRg1 (dC (.int 16))) (gNm 2)
  (t_law_b2 _law_box _law_names _law_take _law_hook _law_pick _law_spoilt _law_heard_of _law_wrong))
  (t_law_r2 _law_box _law_names _law_take _law_hook _law_pick _law_spoilt _law_heard_of _law_wrong))
def t_law (_law_box : DSp) (_law_names : DSp) (_law_take : DSp) (_law_hook : DSp) (_law_pick : DSp) (_law_spoilt : DSp) (_law_heard_of : DSp) (_law_wrong : DSp) : TDS :=
  (dSeq (dAsg 1 (dCall _law_box (dCons (dVar 0) (dCons (dC (.int 0)) dNil))))
  (t_law_r1 _law_box _law_names _law_take _law_hook _law_pick _law_spoilt _law_heard_of _law_wrong))
theorem st_law (ds : List D) : startD ["_law_script", "_law_box_here", "_law_turn", "_law_name", "_law_model", "_law_times"] ds = ds.map some ++ List.replicate (6 - ds.length) none := rfl
def resE : Option (Str × D) → D
  | none => .non
  | some (w, d) => .tup [.str w, d]
def spWrongL : DSp := fun ds st Q _ => ∃ m : HG, ds = [m.d] ∧ m.ok ∧ Q (resE (wrongH m)) st
abbrev wenv (m : HG) (c7 c8 : Option D) : DSt := [some m.d, some m.name, some (.str m.kind), some (.lst (m.es.map G3.d)), some (.lst (m.ls.map G3.d)), some (.str m.outs), some (.lst ((m.es ++ m.ls).map G3.d)), c7, c8]
theorem wl_loop {m : HG} {st : Sto} {R : DEnds} (hm : m.ok) : ∀ (rest done : List G3) (c7 c8 : Option D), m.es ++ m.ls = done ++ rest → (∀ q ∈ done, badN q.1 = false) → (∀ s d, pscan (m.es ++ m.ls) m.es.length done.length rest = some (s, d) → R.rt (.tup [.str s, d]) st) → (pscan (m.es ++ m.ls) m.es.length done.length rest = none → ∀ c7 c8, R.nx (wenv m c7 c8) st) →
    dLoop (gNm 7) (t__law_wrong_b1 spIsNameL spParW) R (rangeD (done.length : Int) rest.length) (wenv m c7 c8) st
  | [], done, c7, c8, e, hd, hx, h => h rfl c7 c8
  | p :: rest, done, c7, c8, e, hd, hx, h => by
    rw [List.length_cons, rangeD_succ]
    have ip : (m.es ++ m.ls)[done.length]? = some p := by rw [e, List.getElem?_append_right (Nat.le_refl _)]; simp
    have kl := (List.getElem?_eq_some_iff.mp ip).1
    have tk : (m.es ++ m.ls).take done.length = done := by rw [e, List.take_left']; rfl
    have ei : atI ((m.es ++ m.ls).map G3.d) (done.length : Int) = some p.d := by
      unfold atI ixN
      rw [if_pos (Int.natCast_nonneg _), if_pos (by rw [List.length_map]; omega)]
      show ((m.es ++ m.ls).map G3.d)[(done.length : Int).toNat]? = _
      rw [show (done.length : Int).toNat = done.length from rfl, List.getElem?_map, ip]; rfl
    simp only [dLoop, wenv, t__law_wrong_b1, dFldS, dMethK, dCallK, spK, dCallO, dJoined, djCons, djNil, dFmt, dDnew, dDnewM, rdStr, dSeq, dAsg, dVar, dC, dCall, dCons, dNil, dOp, dUn, dTup, dLst, dLstM, dRet, dRetN, dNext, dDrop, dIfS, dTst, dAnd, dOr, dNot, dAndV, dOrV, dNotV, dIf, dPar, dPar3, dAsgG, gNm, gTp, gsCons, gsNil, dCB, dMt, dMt0, dSl, dPart, dNoPart, dKGet, dDisp, dDispM, dpCons, dpNil, dFrz, dYes, rdSub, rdFdiv, rdMod, rdPow, rdLt, rdLe, rdGt, rdGe, rdAbs, rdMax, rdMin, rdI, rdI1, rdI2, rdNeg, rdInt, List.set_cons_zero, List.set_cons_succ, List.getElem?_cons_zero, List.getElem?_cons_succ, true_and, if_true, if_false, Bool.false_eq_true, rdLen, look_int, look_str, look_tup, look_l, look_obj, look_bl, look_non, look_d]
    refine ⟨m.es ++ m.ls, m.es.length, done.length, p, by rw [List.length_map], hm.ps, hm.few, ip, by rw [tk]; exact hd, ?_⟩
    simp only [t__law_wrong_b1_r1, dFldS, dMethK, dCallK, spK, dCallO, dJoined, djCons, djNil, dFmt, dDnew, dDnewM, rdStr, dSeq, dAsg, dVar, dC, dCall, dCons, dNil, dOp, dUn, dTup, dLst, dLstM, dRet, dRetN, dNext, dDrop, dIfS, dTst, dAnd, dOr, dNot, dAndV, dOrV, dNotV, dIf, dPar, dPar3, dAsgG, gNm, gTp, gsCons, gsNil, dCB, dMt, dMt0, dSl, dPart, dNoPart, dKGet, dDisp, dDispM, dpCons, dpNil, dFrz, dYes, rdSub, rdFdiv, rdMod, rdPow, rdLt, rdLe, rdGt, rdGe, rdAbs, rdMax, rdMin, rdI, rdI1, rdI2, rdNeg, rdInt, List.set_cons_zero, List.set_cons_succ, List.getElem?_cons_zero, List.getElem?_cons_succ, true_and, if_true, if_false, Bool.false_eq_true]
    refine isNt_of ?_
    cases ew : pwrong (m.es ++ m.ls) m.es.length done.length p with
    | some s =>
      simp only [resS, isNon, Bool.not_false, dFldS, dMethK, dCallK, spK, dCallO, dJoined, djCons, djNil, dFmt, dDnew, dDnewM, rdStr, dSeq, dAsg, dVar, dC, dCall, dCons, dNil, dOp, dUn, dTup, dLst, dLstM, dRet, dRetN, dNext, dDrop, dIfS, dTst, dAnd, dOr, dNot, dAndV, dOrV, dNotV, dIf, dPar, dPar3, dAsgG, gNm, gTp, gsCons, gsNil, dCB, dMt, dMt0, dSl, dPart, dNoPart, dKGet, dDisp, dDispM, dpCons, dpNil, dFrz, dYes, rdSub, rdFdiv, rdMod, rdPow, rdLt, rdLe, rdGt, rdGe, rdAbs, rdMax, rdMin, rdI, rdI1, rdI2, rdNeg, rdInt, List.set_cons_zero, List.set_cons_succ, List.getElem?_cons_zero, List.getElem?_cons_succ, true_and, if_true, if_false, Bool.false_eq_true]
      refine ix_lst ?_
      rw [ei, onS_some]
      refine ix_tup ?_
      rw [atL0, onS_some]
      exact ⟨by simp [sizeLine_eq], hx s p.1 (by rw [pscan_cons, ew])⟩
    | none =>
      simp only [resS, isNon, Bool.not_true, dFldS, dMethK, dCallK, spK, dCallO, dJoined, djCons, djNil, dFmt, dDnew, dDnewM, rdStr, dSeq, dAsg, dVar, dC, dCall, dCons, dNil, dOp, dUn, dTup, dLst, dLstM, dRet, dRetN, dNext, dDrop, dIfS, dTst, dAnd, dOr, dNot, dAndV, dOrV, dNotV, dIf, dPar, dPar3, dAsgG, gNm, gTp, gsCons, gsNil, dCB, dMt, dMt0, dSl, dPart, dNoPart, dKGet, dDisp, dDispM, dpCons, dpNil, dFrz, dYes, rdSub, rdFdiv, rdMod, rdPow, rdLt, rdLe, rdGt, rdGe, rdAbs, rdMax, rdMin, rdI, rdI1, rdI2, rdNeg, rdInt, List.set_cons_zero, List.set_cons_succ, List.getElem?_cons_zero, List.getElem?_cons_succ, true_and, if_true, if_false, Bool.false_eq_true]
      have e2 : m.es ++ m.ls = (done ++ [p]) ++ rest := by rw [e]; simp
      rw [pscan_cons, ew] at hx h
      have l : (done ++ [p]).length = done.length + 1 := by rw [List.length_append, List.length_singleton]
      have go := wl_loop (R := R) hm rest (done ++ [p]) (some (.int (done.length : Int))) (some .non) e2 (fun q hq => by
        rcases List.mem_append.mp hq with hq | hq
        · exact hd q hq
        · rw [List.mem_singleton.mp hq]; exact (pwrong_bad ew).1) (by rw [l]; exact hx) (by rw [l]; exact h)
      rw [l] at go
      exact go
theorem first_of {m : HG} {st : Sto} {p : G3} {r : List G3} {i : Nat} {v : D} {Q : QD} (he : m.es = p :: r) (hv : atI [p.1, .str p.2.1, p.2.2] (i : Int) = some v) (q : Q v st) : rdIx (.lst (m.es.map G3.d)) (.int 0) st fun d st1 => rdIx d (.int (i : Int)) st1 Q := by
  rw [he, List.map_cons]
  refine ix_lst ?_
  rw [atL0, onS_some]
  refine ix_tup ?_
  rw [hv, onS_some]
  exact q
theorem rd_wrongL {m : HG} {st : Sto} {Q : QD} (hm : m.ok) (q : Q (resE (wrongH m)) st) : t__law_wrong spIsNameL spParW (ends Q) [some m.d, none, none, none, none, none, none, none, none] st := by
  have few := hm.few
  simp only [t__law_wrong, dFldS, dMethK, dCallK, spK, dCallO, dJoined, djCons, djNil, dFmt, dDnew, dDnewM, rdStr, dSeq, dAsg, dVar, dC, dCall, dCons, dNil, dOp, dUn, dTup, dLst, dLstM, dRet, dRetN, dNext, dDrop, dIfS, dTst, dAnd, dOr, dNot, dAndV, dOrV, dNotV, dIf, dPar, dPar3, dAsgG, gNm, gTp, gsCons, gsNil, dCB, dMt, dMt0, dSl, dPart, dNoPart, dKGet, dDisp, dDispM, dpCons, dpNil, dFrz, dYes, rdSub, rdFdiv, rdMod, rdPow, rdLt, rdLe, rdGt, rdGe, rdAbs, rdMax, rdMin, rdI, rdI1, rdI2, rdNeg, rdInt, List.set_cons_zero, List.set_cons_succ, List.getElem?_cons_zero, List.getElem?_cons_succ, true_and, if_true, if_false, Bool.false_eq_true, HG.d]
  refine ⟨rfl, ?_⟩
  simp only [t__law_wrong_r1, dFldS, dMethK, dCallK, spK, dCallO, dJoined, djCons, djNil, dFmt, dDnew, dDnewM, rdStr, dSeq, dAsg, dVar, dC, dCall, dCons, dNil, dOp, dUn, dTup, dLst, dLstM, dRet, dRetN, dNext, dDrop, dIfS, dTst, dAnd, dOr, dNot, dAndV, dOrV, dNotV, dIf, dPar, dPar3, dAsgG, gNm, gTp, gsCons, gsNil, dCB, dMt, dMt0, dSl, dPart, dNoPart, dKGet, dDisp, dDispM, dpCons, dpNil, dFrz, dYes, rdSub, rdFdiv, rdMod, rdPow, rdLt, rdLe, rdGt, rdGe, rdAbs, rdMax, rdMin, rdI, rdI1, rdI2, rdNeg, rdInt, List.set_cons_zero, List.set_cons_succ, List.getElem?_cons_zero, List.getElem?_cons_succ, true_and, if_true, if_false, Bool.false_eq_true]
  refine ⟨_, rfl, hm.nm.at1, ?_⟩
  unfold wrongH at q
  cases en : nmB m.name with
  | false =>
    rw [if_pos en] at q
    simp only [dFldS, dMethK, dCallK, spK, dCallO, dJoined, djCons, djNil, dFmt, dDnew, dDnewM, rdStr, dSeq, dAsg, dVar, dC, dCall, dCons, dNil, dOp, dUn, dTup, dLst, dLstM, dRet, dRetN, dNext, dDrop, dIfS, dTst, dAnd, dOr, dNot, dAndV, dOrV, dNotV, dIf, dPar, dPar3, dAsgG, gNm, gTp, gsCons, gsNil, dCB, dMt, dMt0, dSl, dPart, dNoPart, dKGet, dDisp, dDispM, dpCons, dpNil, dFrz, dYes, rdSub, rdFdiv, rdMod, rdPow, rdLt, rdLe, rdGt, rdGe, rdAbs, rdMax, rdMin, rdI, rdI1, rdI2, rdNeg, rdInt, List.set_cons_zero, List.set_cons_succ, List.getElem?_cons_zero, List.getElem?_cons_succ, true_and, if_true, if_false, Bool.false_eq_true, Bool.not_false]
    exact ⟨by simp [sizeLine_eq], sb q⟩
  | true =>
  rw [if_neg (by rw [en]; simp)] at q
  simp only [dFldS, dMethK, dCallK, spK, dCallO, dJoined, djCons, djNil, dFmt, dDnew, dDnewM, rdStr, dSeq, dAsg, dVar, dC, dCall, dCons, dNil, dOp, dUn, dTup, dLst, dLstM, dRet, dRetN, dNext, dDrop, dIfS, dTst, dAnd, dOr, dNot, dAndV, dOrV, dNotV, dIf, dPar, dPar3, dAsgG, gNm, gTp, gsCons, gsNil, dCB, dMt, dMt0, dSl, dPart, dNoPart, dKGet, dDisp, dDispM, dpCons, dpNil, dFrz, dYes, rdSub, rdFdiv, rdMod, rdPow, rdLt, rdLe, rdGt, rdGe, rdAbs, rdMax, rdMin, rdI, rdI1, rdI2, rdNeg, rdInt, List.set_cons_zero, List.set_cons_succ, List.getElem?_cons_zero, List.getElem?_cons_succ, true_and, if_true, if_false, Bool.false_eq_true, Bool.not_true, t__law_wrong_r2]
  refine ⟨by simp [sizeLine_eq], in_tup (ys := kindsW) hm.kd.1 kinds_ok ?_⟩
  by_cases ck : m.kind ∈ kindsW
  case neg =>
    rw [if_pos ck] at q
    simp only [ck, decide_false, Bool.bne_true, Bool.not_false, dFldS, dMethK, dCallK, spK, dCallO, dJoined, djCons, djNil, dFmt, dDnew, dDnewM, rdStr, dSeq, dAsg, dVar, dC, dCall, dCons, dNil, dOp, dUn, dTup, dLst, dLstM, dRet, dRetN, dNext, dDrop, dIfS, dTst, dAnd, dOr, dNot, dAndV, dOrV, dNotV, dIf, dPar, dPar3, dAsgG, gNm, gTp, gsCons, gsNil, dCB, dMt, dMt0, dSl, dPart, dNoPart, dKGet, dDisp, dDispM, dpCons, dpNil, dFrz, dYes, rdSub, rdFdiv, rdMod, rdPow, rdLt, rdLe, rdGt, rdGe, rdAbs, rdMax, rdMin, rdI, rdI1, rdI2, rdNeg, rdInt, List.set_cons_zero, List.set_cons_succ, List.getElem?_cons_zero, List.getElem?_cons_succ, true_and, if_true, if_false, Bool.false_eq_true]
    exact ⟨by simp [sizeLine_eq], sb q⟩
  rw [if_neg (fun z => z ck)] at q
  simp only [ck, decide_true, bne_self_eq_false, dFldS, dMethK, dCallK, spK, dCallO, dJoined, djCons, djNil, dFmt, dDnew, dDnewM, rdStr, dSeq, dAsg, dVar, dC, dCall, dCons, dNil, dOp, dUn, dTup, dLst, dLstM, dRet, dRetN, dNext, dDrop, dIfS, dTst, dAnd, dOr, dNot, dAndV, dOrV, dNotV, dIf, dPar, dPar3, dAsgG, gNm, gTp, gsCons, gsNil, dCB, dMt, dMt0, dSl, dPart, dNoPart, dKGet, dDisp, dDispM, dpCons, dpNil, dFrz, dYes, rdSub, rdFdiv, rdMod, rdPow, rdLt, rdLe, rdGt, rdGe, rdAbs, rdMax, rdMin, rdI, rdI1, rdI2, rdNeg, rdInt, List.set_cons_zero, List.set_cons_succ, List.getElem?_cons_zero, List.getElem?_cons_succ, true_and, if_true, if_false, Bool.false_eq_true, t__law_wrong_r3, rdAdd, look_int, look_str, look_tup, look_l, look_obj, look_bl, look_non, look_d]
  refine ⟨by rw [List.length_map, List.length_map, ← List.length_append, sizeLine_eq]; omega, ?_⟩
  rw [← List.map_append]
  simp only [t__law_wrong_r4, dFldS, dMethK, dCallK, spK, dCallO, dJoined, djCons, djNil, dFmt, dDnew, dDnewM, rdStr, dSeq, dAsg, dVar, dC, dCall, dCons, dNil, dOp, dUn, dTup, dLst, dLstM, dRet, dRetN, dNext, dDrop, dIfS, dTst, dAnd, dOr, dNot, dAndV, dOrV, dNotV, dIf, dPar, dPar3, dAsgG, gNm, gTp, gsCons, gsNil, dCB, dMt, dMt0, dSl, dPart, dNoPart, dKGet, dDisp, dDispM, dpCons, dpNil, dFrz, dYes, rdSub, rdFdiv, rdMod, rdPow, rdLt, rdLe, rdGt, rdGe, rdAbs, rdMax, rdMin, rdI, rdI1, rdI2, rdNeg, rdInt, List.set_cons_zero, List.set_cons_succ, List.getElem?_cons_zero, List.getElem?_cons_succ, true_and, if_true, if_false, Bool.false_eq_true, dFor, dRg1, rdLen, look_int, look_str, look_tup, look_l, look_obj, look_bl, look_non, look_d, List.length_map]
  refine ⟨⟨by omega, by omega⟩, ?_⟩
  rw [Int.toNat_natCast]
  refine wl_loop hm (m.es ++ m.ls) [] none none rfl (fun q hq => absurd hq List.not_mem_nil) (fun s d e => ?_) fun e c7 c8 => ?_
  · rw [List.length_nil] at e
    rw [e] at q
    exact sb q
  rw [List.length_nil] at e
  rw [e] at q
  simp only [] at q
  unfold wrongE at q
  simp only [wenv, t__law_wrong_r5, dFldS, dMethK, dCallK, spK, dCallO, dJoined, djCons, djNil, dFmt, dDnew, dDnewM, rdStr, dSeq, dAsg, dVar, dC, dCall, dCons, dNil, dOp, dUn, dTup, dLst, dLstM, dRet, dRetN, dNext, dDrop, dIfS, dTst, dAnd, dOr, dNot, dAndV, dOrV, dNotV, dIf, dPar, dPar3, dAsgG, gNm, gTp, gsCons, gsNil, dCB, dMt, dMt0, dSl, dPart, dNoPart, dKGet, dDisp, dDispM, dpCons, dpNil, dFrz, dYes, rdSub, rdFdiv, rdMod, rdPow, rdLt, rdLe, rdGt, rdGe, rdAbs, rdMax, rdMin, rdI, rdI1, rdI2, rdNeg, rdInt, List.set_cons_zero, List.set_cons_succ, List.getElem?_cons_zero, List.getElem?_cons_succ, true_and, if_true, if_false, Bool.false_eq_true, rdLen, look_int, look_str, look_tup, look_l, look_obj, look_bl, look_non, look_d, List.length_map]
  by_cases c3 : 3 < (m.es ++ m.ls).length
  · rw [if_pos c3] at q
    rw [if_pos (by rw [decide_eq_true_eq]; omega)]
    exact ⟨by simp [sizeLine_eq], sb q⟩
  rw [if_neg c3] at q
  rw [if_neg (by rw [decide_eq_true_eq]; omega)]
  have r7 : (decide (m.kind = "through") && thrBad m.es) = false → t__law_wrong_r7 spIsNameL spParW (ends Q) (wenv m c7 c8) st := fun et => by
    rw [if_neg (by rw [et]; simp)] at q
    simp only [t__law_wrong_r7, wenv, dFldS, dMethK, dCallK, spK, dCallO, dJoined, djCons, djNil, dFmt, dDnew, dDnewM, rdStr, dSeq, dAsg, dVar, dC, dCall, dCons, dNil, dOp, dUn, dTup, dLst, dLstM, dRet, dRetN, dNext, dDrop, dIfS, dTst, dAnd, dOr, dNot, dAndV, dOrV, dNotV, dIf, dPar, dPar3, dAsgG, gNm, gTp, gsCons, gsNil, dCB, dMt, dMt0, dSl, dPart, dNoPart, dKGet, dDisp, dDispM, dpCons, dpNil, dFrz, dYes, rdSub, rdFdiv, rdMod, rdPow, rdLt, rdLe, rdGt, rdGe, rdAbs, rdMax, rdMin, rdI, rdI1, rdI2, rdNeg, rdInt, List.set_cons_zero, List.set_cons_succ, List.getElem?_cons_zero, List.getElem?_cons_succ, true_and, if_true, if_false, Bool.false_eq_true]
    refine ⟨by simp [sizeLine_eq], in_tup (ys := sortsW) hm.ou.1 sorts_ok ?_⟩
    by_cases co : m.outs ∈ sortsW
    · simp only [co, decide_true, bne_self_eq_false, dFldS, dMethK, dCallK, spK, dCallO, dJoined, djCons, djNil, dFmt, dDnew, dDnewM, rdStr, dSeq, dAsg, dVar, dC, dCall, dCons, dNil, dOp, dUn, dTup, dLst, dLstM, dRet, dRetN, dNext, dDrop, dIfS, dTst, dAnd, dOr, dNot, dAndV, dOrV, dNotV, dIf, dPar, dPar3, dAsgG, gNm, gTp, gsCons, gsNil, dCB, dMt, dMt0, dSl, dPart, dNoPart, dKGet, dDisp, dDispM, dpCons, dpNil, dFrz, dYes, rdSub, rdFdiv, rdMod, rdPow, rdLt, rdLe, rdGt, rdGe, rdAbs, rdMax, rdMin, rdI, rdI1, rdI2, rdNeg, rdInt, List.set_cons_zero, List.set_cons_succ, List.getElem?_cons_zero, List.getElem?_cons_succ, true_and, if_true, if_false, Bool.false_eq_true, eq_str, Bool.bne_false, decide_eq_true_eq]
      rw [decide_eq_true co, Bool.not_true, Bool.false_or] at q
      by_cases c : m.kind = "through"
      · rw [if_pos c]
        rw [decide_eq_true c, Bool.true_and] at et q
        cases ee : m.es with
        | nil => rw [ee] at et; simp [thrBad] at et
        | cons p r =>
          rw [← ee]
          refine first_of (i := 1) ee atL1 ?_
          rw [ee] at q
          simp only [givBad, Bool.not_eq_true', decide_eq_false_iff_not] at q
          simp only [eq_str]
          by_cases c5 : m.outs = p.2.1
          · rw [if_neg (fun z => z c5)] at q
            simp only [c5, decide_true, bne_self_eq_false, dFldS, dMethK, dCallK, spK, dCallO, dJoined, djCons, djNil, dFmt, dDnew, dDnewM, rdStr, dSeq, dAsg, dVar, dC, dCall, dCons, dNil, dOp, dUn, dTup, dLst, dLstM, dRet, dRetN, dNext, dDrop, dIfS, dTst, dAnd, dOr, dNot, dAndV, dOrV, dNotV, dIf, dPar, dPar3, dAsgG, gNm, gTp, gsCons, gsNil, dCB, dMt, dMt0, dSl, dPart, dNoPart, dKGet, dDisp, dDispM, dpCons, dpNil, dFrz, dYes, rdSub, rdFdiv, rdMod, rdPow, rdLt, rdLe, rdGt, rdGe, rdAbs, rdMax, rdMin, rdI, rdI1, rdI2, rdNeg, rdInt, List.set_cons_zero, List.set_cons_succ, List.getElem?_cons_zero, List.getElem?_cons_succ, true_and, if_true, if_false, Bool.false_eq_true, t__law_wrong_r8]
            exact sb q
          · rw [if_pos c5] at q
            simp only [c5, decide_false, Bool.bne_true, Bool.not_false, dFldS, dMethK, dCallK, spK, dCallO, dJoined, djCons, djNil, dFmt, dDnew, dDnewM, rdStr, dSeq, dAsg, dVar, dC, dCall, dCons, dNil, dOp, dUn, dTup, dLst, dLstM, dRet, dRetN, dNext, dDrop, dIfS, dTst, dAnd, dOr, dNot, dAndV, dOrV, dNotV, dIf, dPar, dPar3, dAsgG, gNm, gTp, gsCons, gsNil, dCB, dMt, dMt0, dSl, dPart, dNoPart, dKGet, dDisp, dDispM, dpCons, dpNil, dFrz, dYes, rdSub, rdFdiv, rdMod, rdPow, rdLt, rdLe, rdGt, rdGe, rdAbs, rdMax, rdMin, rdI, rdI1, rdI2, rdNeg, rdInt, List.set_cons_zero, List.set_cons_succ, List.getElem?_cons_zero, List.getElem?_cons_succ, true_and, if_true, if_false, Bool.false_eq_true]
            exact ⟨by simp [sizeLine_eq], sb q⟩
      · rw [if_neg c]
        rw [decide_eq_false c, Bool.false_and, if_neg (by simp)] at q
        simp only [dFldS, dMethK, dCallK, spK, dCallO, dJoined, djCons, djNil, dFmt, dDnew, dDnewM, rdStr, dSeq, dAsg, dVar, dC, dCall, dCons, dNil, dOp, dUn, dTup, dLst, dLstM, dRet, dRetN, dNext, dDrop, dIfS, dTst, dAnd, dOr, dNot, dAndV, dOrV, dNotV, dIf, dPar, dPar3, dAsgG, gNm, gTp, gsCons, gsNil, dCB, dMt, dMt0, dSl, dPart, dNoPart, dKGet, dDisp, dDispM, dpCons, dpNil, dFrz, dYes, rdSub, rdFdiv, rdMod, rdPow, rdLt, rdLe, rdGt, rdGe, rdAbs, rdMax, rdMin, rdI, rdI1, rdI2, rdNeg, rdInt, List.set_cons_zero, List.set_cons_succ, List.getElem?_cons_zero, List.getElem?_cons_succ, true_and, if_true, if_false, Bool.false_eq_true, t__law_wrong_r8]
        exact sb q
    · rw [decide_eq_false co, Bool.not_false, Bool.true_or, if_pos rfl] at q
      simp only [co, decide_false, Bool.bne_true, Bool.not_false, dFldS, dMethK, dCallK, spK, dCallO, dJoined, djCons, djNil, dFmt, dDnew, dDnewM, rdStr, dSeq, dAsg, dVar, dC, dCall, dCons, dNil, dOp, dUn, dTup, dLst, dLstM, dRet, dRetN, dNext, dDrop, dIfS, dTst, dAnd, dOr, dNot, dAndV, dOrV, dNotV, dIf, dPar, dPar3, dAsgG, gNm, gTp, gsCons, gsNil, dCB, dMt, dMt0, dSl, dPart, dNoPart, dKGet, dDisp, dDispM, dpCons, dpNil, dFrz, dYes, rdSub, rdFdiv, rdMod, rdPow, rdLt, rdLe, rdGt, rdGe, rdAbs, rdMax, rdMin, rdI, rdI1, rdI2, rdNeg, rdInt, List.set_cons_zero, List.set_cons_succ, List.getElem?_cons_zero, List.getElem?_cons_succ, true_and, if_true, if_false, Bool.false_eq_true]
      exact ⟨by simp [sizeLine_eq], sb q⟩
  simp only [t__law_wrong_r6, dFldS, dMethK, dCallK, spK, dCallO, dJoined, djCons, djNil, dFmt, dDnew, dDnewM, rdStr, dSeq, dAsg, dVar, dC, dCall, dCons, dNil, dOp, dUn, dTup, dLst, dLstM, dRet, dRetN, dNext, dDrop, dIfS, dTst, dAnd, dOr, dNot, dAndV, dOrV, dNotV, dIf, dPar, dPar3, dAsgG, gNm, gTp, gsCons, gsNil, dCB, dMt, dMt0, dSl, dPart, dNoPart, dKGet, dDisp, dDispM, dpCons, dpNil, dFrz, dYes, rdSub, rdFdiv, rdMod, rdPow, rdLt, rdLe, rdGt, rdGe, rdAbs, rdMax, rdMin, rdI, rdI1, rdI2, rdNeg, rdInt, List.set_cons_zero, List.set_cons_succ, List.getElem?_cons_zero, List.getElem?_cons_succ, true_and, if_true, if_false, Bool.false_eq_true, eq_str, Bool.bne_false, decide_eq_true_eq]
  by_cases c : m.kind = "through"
  · rw [if_pos c]
    rw [decide_eq_true c, Bool.true_and] at q r7
    obtain ⟨g1, g2⟩ := g3s_ok fun p hp => hm.ps p (List.mem_append_left m.ls hp)
    refine ⟨by simp [sizeLine_eq], eq_nil g1 (by omega) ?_⟩
    simp only [Bool.bne_false, decide_eq_true_eq]
    cases ee : m.es with
    | nil =>
      rw [ee] at q
      rw [if_pos (by simp [thrBad])] at q
      rw [if_pos (show List.map G3.d [] = [] from rfl)]
      exact ⟨by simp [sizeLine_eq], sb q⟩
    | cons p r =>
      rw [if_neg (by simp), ← ee]
      refine first_of (i := 2) ee atL2 ?_
      refine isNt_of ?_
      have tb : thrBad m.es = !isNon p.2.2 := by rw [ee]; rfl
      rw [tb] at q r7
      cases e2 : isNon p.2.2 with
      | true =>
        simp only [dFldS, dMethK, dCallK, spK, dCallO, dJoined, djCons, djNil, dFmt, dDnew, dDnewM, rdStr, dSeq, dAsg, dVar, dC, dCall, dCons, dNil, dOp, dUn, dTup, dLst, dLstM, dRet, dRetN, dNext, dDrop, dIfS, dTst, dAnd, dOr, dNot, dAndV, dOrV, dNotV, dIf, dPar, dPar3, dAsgG, gNm, gTp, gsCons, gsNil, dCB, dMt, dMt0, dSl, dPart, dNoPart, dKGet, dDisp, dDispM, dpCons, dpNil, dFrz, dYes, rdSub, rdFdiv, rdMod, rdPow, rdLt, rdLe, rdGt, rdGe, rdAbs, rdMax, rdMin, rdI, rdI1, rdI2, rdNeg, rdInt, List.set_cons_zero, List.set_cons_succ, List.getElem?_cons_zero, List.getElem?_cons_succ, true_and, if_true, if_false, Bool.false_eq_true, Bool.not_true]
        exact r7 (by rw [e2]; rfl)
      | false =>
        rw [if_pos (by rw [e2]; rfl)] at q
        simp only [dFldS, dMethK, dCallK, spK, dCallO, dJoined, djCons, djNil, dFmt, dDnew, dDnewM, rdStr, dSeq, dAsg, dVar, dC, dCall, dCons, dNil, dOp, dUn, dTup, dLst, dLstM, dRet, dRetN, dNext, dDrop, dIfS, dTst, dAnd, dOr, dNot, dAndV, dOrV, dNotV, dIf, dPar, dPar3, dAsgG, gNm, gTp, gsCons, gsNil, dCB, dMt, dMt0, dSl, dPart, dNoPart, dKGet, dDisp, dDispM, dpCons, dpNil, dFrz, dYes, rdSub, rdFdiv, rdMod, rdPow, rdLt, rdLe, rdGt, rdGe, rdAbs, rdMax, rdMin, rdI, rdI1, rdI2, rdNeg, rdInt, List.set_cons_zero, List.set_cons_succ, List.getElem?_cons_zero, List.getElem?_cons_succ, true_and, if_true, if_false, Bool.false_eq_true, Bool.not_false]
        exact ⟨by simp [sizeLine_eq], sb q⟩
  · rw [if_neg c]
    exact r7 (by rw [decide_eq_false c, Bool.false_and])
/-! ### what was heard -/
def spHeardL : DSp := fun ds st Q _ => ∃ m : HG, ds = [m.d] ∧ m.ok ∧ Q (resE (wrongH m)) st
theorem rd_heardL {m : HG} {st : Sto} {Q : QD} (hm : m.ok) (q : Q (resE (wrongH m)) st) : t__law_heard_of spHookN (ends Q) [some m.d, none, none] st := by
  have a0 : ∀ (st : Sto) (Q : QD), Q m.name st → rdIx m.d (.int 0) st Q := fun st Q q => ix_tup (by rw [atL0, onS_some]; exact q)
  have a1 : ∀ (st : Sto) (Q : QD), Q (.str m.kind) st → rdIx m.d (.int 1) st Q := fun st Q q => ix_tup (by rw [atL1, onS_some]; exact q)
  have a2 : ∀ (st : Sto) (Q : QD), Q (.lst (m.es.map G3.d)) st → rdIx m.d (.int 2) st Q := fun st Q q => ix_tup (by rw [atL2, onS_some]; exact q)
  have a3 : ∀ (st : Sto) (Q : QD), Q (.lst (m.ls.map G3.d)) st → rdIx m.d (.int 3) st Q := fun st Q q => ix_tup (by rw [atL3, onS_some]; exact q)
  have a4 : ∀ (st : Sto) (Q : QD), Q (.str m.outs) st → rdIx m.d (.int 4) st Q := fun st Q q => ix_tup (by rw [atL4, onS_some]; exact q)
  simp only [t__law_heard_of, t__law_heard_of_r1, dTry, dCallX, dFldS, dMethK, dCallK, spK, dCallO, dJoined, djCons, djNil, dFmt, dDnew, dDnewM, rdStr, dSeq, dAsg, dVar, dC, dCall, dCons, dNil, dOp, dUn, dTup, dLst, dLstM, dRet, dRetN, dNext, dDrop, dIfS, dTst, dAnd, dOr, dNot, dAndV, dOrV, dNotV, dIf, dPar, dPar3, dAsgG, gNm, gTp, gsCons, gsNil, dCB, dMt, dMt0, dSl, dPart, dNoPart, dKGet, dDisp, dDispM, dpCons, dpNil, dFrz, dYes, rdSub, rdFdiv, rdMod, rdPow, rdLt, rdLe, rdGt, rdGe, rdAbs, rdMax, rdMin, rdI, rdI1, rdI2, rdNeg, rdInt, List.set_cons_zero, List.set_cons_succ, List.getElem?_cons_zero, List.getElem?_cons_succ, true_and, if_true, if_false, Bool.false_eq_true]
  refine a0 _ _ (a1 _ _ (a2 _ _ (a3 _ _ (a4 _ _ ⟨rfl, rfl, m, rfl, hm, ?_⟩))))
  cases e : wrongH m with
  | none =>
    rw [e] at q
    simp only [endE, t__law_heard_of_r2, dFldS, dMethK, dCallK, spK, dCallO, dJoined, djCons, djNil, dFmt, dDnew, dDnewM, rdStr, dSeq, dAsg, dVar, dC, dCall, dCons, dNil, dOp, dUn, dTup, dLst, dLstM, dRet, dRetN, dNext, dDrop, dIfS, dTst, dAnd, dOr, dNot, dAndV, dOrV, dNotV, dIf, dPar, dPar3, dAsgG, gNm, gTp, gsCons, gsNil, dCB, dMt, dMt0, dSl, dPart, dNoPart, dKGet, dDisp, dDispM, dpCons, dpNil, dFrz, dYes, rdSub, rdFdiv, rdMod, rdPow, rdLt, rdLe, rdGt, rdGe, rdAbs, rdMax, rdMin, rdI, rdI1, rdI2, rdNeg, rdInt, List.set_cons_zero, List.set_cons_succ, List.getElem?_cons_zero, List.getElem?_cons_succ, true_and, if_true, if_false, Bool.false_eq_true]
    exact sb q
  | some wd =>
    obtain ⟨w, d⟩ := wd
    rw [e] at q
    refine ⟨rfl, by simp, ?_⟩
    simp only [dXf, ends2, badF, t__law_heard_of_r2, dFldS, dMethK, dCallK, spK, dCallO, dJoined, djCons, djNil, dFmt, dDnew, dDnewM, rdStr, dSeq, dAsg, dVar, dC, dCall, dCons, dNil, dOp, dUn, dTup, dLst, dLstM, dRet, dRetN, dNext, dDrop, dIfS, dTst, dAnd, dOr, dNot, dAndV, dOrV, dNotV, dIf, dPar, dPar3, dAsgG, gNm, gTp, gsCons, gsNil, dCB, dMt, dMt0, dSl, dPart, dNoPart, dKGet, dDisp, dDispM, dpCons, dpNil, dFrz, dYes, rdSub, rdFdiv, rdMod, rdPow, rdLt, rdLe, rdGt, rdGe, rdAbs, rdMax, rdMin, rdI, rdI1, rdI2, rdNeg, rdInt, List.set_cons_zero, List.set_cons_succ, List.getElem?_cons_zero, List.getElem?_cons_succ, true_and, if_true, if_false, Bool.false_eq_true]
    refine ⟨_, rfl, _, rfl, by simp [sizeLine_eq], ?_⟩
    exact sb q
end TL
namespace TL
open PySem PySem.Spec PyProof.Rows L2
theorem eq_int {neg : Bool} {a b : Int} {st : Sto} : rdEq neg (.int a) (.int b) st = fun Q => Q (.bl (decide (a = b) != neg)) st := rfl
/-! ### odd things -/
def gkB (d : D) : Bool := atomD d && (d.ok && (decide (d.dp ≤ 1) && decide (d.wt ≤ 300)))
theorem gk_of {d : D} (h : gkB d = true) : Gk d := by
  unfold gkB at h
  simp only [Bool.and_eq_true, decide_eq_true_eq] at h
  exact ⟨h.1, h.2.1, h.2.2.1, h.2.2.2⟩
theorem gk_all {xs : List D} (h : xs.all gkB = true) : ∀ x ∈ xs, Gk x := fun x hx => gk_of (List.all_eq_true.mp h x hx)
theorem gk_lw {x : Str} (h : Lw x) : Gk (.str x) := ⟨by simp only [atomD, decide_eq_true_eq]; have := h.2.1; omega, by simp only [D.ok]; exact h.okS, by simp [D.dp], by simp only [D.wt]; have := h.2.1; omega⟩
theorem kw_all {xs : List Str} (h : (xs.all fun x => okS x && decide (x.length ≤ 20)) = true) : ∀ x ∈ xs, Kw x := fun x hx => by
  have := List.all_eq_true.mp h x hx
  rw [Bool.and_eq_true, decide_eq_true_eq] at this
  exact this
def oddL : List D := [.str "", .str "Size", .str "toolongword", .str "a1", .str " a", .int 5, .non, .bl true, .tup [.str "a"], .lst [.str "a"], .str "if", .str "inner", .str "unanswered", .str "with", .str "sizesize", .str "late"]
theorem oddL_gk : ∀ x ∈ oddL, Gk x := gk_all (by decide +kernel)
def dflL : List D := [.non, .int 3, .str "red", .bl true, .str "Red", .int (-7), .str "", .str "abcdefghi"]
theorem dflL_gk : ∀ x ∈ dflL, Gk x := gk_all (by decide +kernel)
theorem two_gk : ∀ x ∈ ([.non, .int 3] : List D), Gk x := gk_all (by decide +kernel)
theorem str_pick {ys : List Str} {x : D} (h : x ∈ ys.map D.str) : ∃ y ∈ ys, x = .str y := by
  obtain ⟨y, hy, rfl⟩ := List.mem_map.mp h
  exact ⟨y, hy, rfl⟩
def lotsK : List Str := ["last", "first", "", "through"]
def lotsS : List Str := ["word", "number", "text"]
theorem lotsK_kw : ∀ x ∈ lotsK, Kw x := kw_all (by decide +kernel)
theorem lotsS_kw : ∀ x ∈ lotsS, Kw x := kw_all (by decide +kernel)
def spOddL : DSp := fun ds st Q _ => ∃ b : Nat, ds = [.ref b] ∧ st b = some .box ∧ ∀ d, Gk d → Q d st
theorem rd_oddL {b : Nat} {st : Sto} {Q : QD} (hb : st b = some .box) (q : ∀ d, Gk d → Q d st) : t__law_odd spPick (ends Q) [some (.ref b), none] st := by
  simp only [t__law_odd, t__law_odd_r1, dFldS, dMethK, dCallK, spK, dCallO, dJoined, djCons, djNil, dFmt, dDnew, dDnewM, rdStr, dSeq, dAsg, dVar, dC, dCall, dCons, dNil, dOp, dUn, dTup, dLst, dLstM, dRet, dRetN, dNext, dDrop, dIfS, dTst, dAnd, dOr, dNot, dAndV, dOrV, dNotV, dIf, dPar, dPar3, dAsgG, gNm, gTp, gsCons, gsNil, dCB, dMt, dMt0, dSl, dPart, dNoPart, dKGet, dDisp, dDispM, dpCons, dpNil, dFrz, dYes, rdSub, rdFdiv, rdMod, rdPow, rdLt, rdLe, rdGt, rdGe, rdAbs, rdMax, rdMin, rdI, rdI1, rdI2, rdNeg, rdInt, List.set_cons_zero, List.set_cons_succ, List.getElem?_cons_zero, List.getElem?_cons_succ, true_and, if_true, if_false, Bool.false_eq_true, rdAdd, look_int, look_str, look_tup, look_l, look_obj, look_bl, look_non, look_d, List.cons_append, List.nil_append]
  refine ⟨by simp [sizeLine_eq], by simp [sizeLine_eq], by simp [sizeLine_eq], by simp [sizeLine_eq], by simp [sizeLine_eq], b, _, oddL, rfl, hb, rfl, by simp [oddL], by simp [oddL], fun x hx => sb (q x (oddL_gk x hx))⟩
/-! ### spoilt -/
def spSpoilt : DSp := fun ds st Q _ => ∃ (b : Nat) (m : HG), ds = [.ref b, m.d] ∧ st b = some .box ∧ m.ok ∧ (m.es ++ m.ls).length ≤ 7 ∧ ∀ m' : HG, m'.ok → (m'.es ++ m'.ls).length ≤ (m.es ++ m.ls).length + 1 → Q m'.d st
def t6s : TDS := (dSeq (dAsg 8 (dOp rdAdd (dVar 8) (dLst (dCons (dTup (dCons (dOp rdIx (dCall spNames (dCons (dVar 0) (dCons (dC (.int 1)) dNil))) (dC (.int 0))) (dCons (dC (.str "number")) (dCons (dCall spPick (dCons (dVar 0) (dCons (dLst (dCons (dC .non) (dCons (dC (.int 3)) dNil))) dNil))) dNil)))) dNil))))
  (dRet (dTup (dCons (dVar 2) (dCons (dVar 3) (dCons (dSl (dVar 8) dNoPart (dPart (dVar 9))) (dCons (dSl (dVar 8) (dPart (dVar 9)) dNoPart) (dCons (dVar 6) dNil))))))))
theorem t6_eq : t__law_spoilt_r6 spTake spOddL spPick spNames = (dSeq (dIfS (dOr (dTst (dOp (rdEq false) (dVar 7) (dC (.int 4)))) (dTst (dOp (rdEq false) (dVar 8) (dLst dNil)))) t6s dNext) (t__law_spoilt_r7 spTake spOddL spPick spNames)) := rfl
section
variable {b : Nat} {m : HG} {st : Sto} {Q : QD} (hb : st b = some .box) (hm : m.ok) (q : ∀ m' : HG, m'.ok → (m'.es ++ m'.ls).length ≤ (m.es ++ m.ls).length + 1 → Q m'.d st)
include hm q
theorem sp_end {L : List G3} {w : Nat} (hL : ∀ p ∈ L, p.ok) (hl : L.length ≤ 8) (hl2 : L.length ≤ (m.es ++ m.ls).length + 1) : Q (.tup [m.name, .str m.kind, .lst ((L.take w).map G3.d), .lst ((L.drop w).map G3.d), .str m.outs]) st := by
  refine q ⟨m.name, m.kind, L.take w, L.drop w, m.outs⟩ ⟨hm.nm, hm.kd, hm.ou, ?_, ?_⟩ ?_
  · show ∀ p ∈ L.take w ++ L.drop w, p.ok
    rw [List.take_append_drop]; exact hL
  · show (L.take w ++ L.drop w).length ≤ 8
    rw [List.take_append_drop]; exact hl
  · show (L.take w ++ L.drop w).length ≤ _
    rw [List.take_append_drop]; exact hl2
theorem sp_r11 {L : List G3} {w : Nat} {c5 c4 c7 c10 c11 : Option D} (hL : ∀ p ∈ L, p.ok) (hl : L.length ≤ 8) (hl2 : L.length ≤ (m.es ++ m.ls).length + 1) : t__law_spoilt_r11 spTake spOddL spPick spNames (ends Q) [some (.ref b), some m.d, some m.name, some (.str m.kind), c4, c5, some (.str m.outs), c7, some (.lst (L.map G3.d)), some (.int (w : Int)), c10, c11] st := by
  simp only [t__law_spoilt_r11, dFldS, dMethK, dCallK, spK, dCallO, dJoined, djCons, djNil, dFmt, dDnew, dDnewM, rdStr, dSeq, dAsg, dVar, dC, dCall, dCons, dNil, dOp, dUn, dTup, dLst, dLstM, dRet, dRetN, dNext, dDrop, dIfS, dTst, dAnd, dOr, dNot, dAndV, dOrV, dNotV, dIf, dPar, dPar3, dAsgG, gNm, gTp, gsCons, gsNil, dCB, dMt, dMt0, dSl, dPart, dNoPart, dKGet, dDisp, dDispM, dpCons, dpNil, dFrz, dYes, rdSub, rdFdiv, rdMod, rdPow, rdLt, rdLe, rdGt, rdGe, rdAbs, rdMax, rdMin, rdI, rdI1, rdI2, rdNeg, rdInt, List.set_cons_zero, List.set_cons_succ, List.getElem?_cons_zero, List.getElem?_cons_succ, true_and, if_true, if_false, Bool.false_eq_true, rdSl, look_int, look_str, look_tup, look_l, look_obj, look_bl, look_non, look_d]
  rw [cutD_lo' _ _ (Int.natCast_nonneg w), cutD_hi' _ _ (Int.natCast_nonneg w), show (w : Int).toNat = w from rfl, ← List.map_take, ← List.map_drop]
  exact ⟨by simp [sizeLine_eq], sb (sp_end hm q hL hl hl2)⟩
theorem sp_r10 {L : List G3} {w k : Nat} {p : G3} {c5 c4 c7 : Option D} (hL : ∀ p ∈ L, p.ok) (hl : L.length ≤ 8) (hl2 : L.length ≤ (m.es ++ m.ls).length) (hk : k < L.length) (hp : p.ok) : t__law_spoilt_r10 spTake spOddL spPick spNames (ends Q) [some (.ref b), some m.d, some m.name, some (.str m.kind), c4, c5, some (.str m.outs), c7, some (.lst (L.map G3.d)), some (.int (w : Int)), some (.int (k : Int)), some p.d] st := by
  simp only [t__law_spoilt_r10, dFldS, dMethK, dCallK, spK, dCallO, dJoined, djCons, djNil, dFmt, dDnew, dDnewM, rdStr, dSeq, dAsg, dVar, dC, dCall, dCons, dNil, dOp, dUn, dTup, dLst, dLstM, dRet, dRetN, dNext, dDrop, dIfS, dTst, dAnd, dOr, dNot, dAndV, dOrV, dNotV, dIf, dPar, dPar3, dAsgG, gNm, gTp, gsCons, gsNil, dCB, dMt, dMt0, dSl, dPart, dNoPart, dKGet, dDisp, dDispM, dpCons, dpNil, dFrz, dYes, rdSub, rdFdiv, rdMod, rdPow, rdLt, rdLe, rdGt, rdGe, rdAbs, rdMax, rdMin, rdI, rdI1, rdI2, rdNeg, rdInt, List.set_cons_zero, List.set_cons_succ, List.getElem?_cons_zero, List.getElem?_cons_succ, true_and, if_true, if_false, Bool.false_eq_true, rdSl, look_int, look_str, look_tup, look_l, look_obj, look_bl, look_non, look_d, rdAdd]
  rw [cutD_lo' _ _ (Int.natCast_nonneg k), cutD_hi' _ _ (by omega), show (k : Int).toNat = k from rfl, show ((k : Int) + 1).toNat = k + 1 from rfl, ← List.map_take, ← List.map_drop]
  have e : (L.take k).map G3.d ++ [G3.d p] ++ (L.drop (k + 1)).map G3.d = (L.take k ++ [p] ++ L.drop (k + 1)).map G3.d := by simp
  have len : (L.take k ++ [p] ++ L.drop (k + 1)).length = L.length := by simp; omega
  refine ⟨by simp [sizeLine_eq], ?_, ?_, ?_⟩
  · simp [sizeLine_eq]; omega
  · simp [sizeLine_eq]; omega
  rw [e]
  refine sp_r11 hm q (fun r hr => ?_) (by rw [len]; exact hl) (by rw [len]; omega)
  simp only [List.mem_append, List.mem_singleton] at hr
  rcases hr with (hr | rfl) | hr
  · exact hL r (List.mem_of_mem_take hr)
  · exact hp
  · exact hL r (List.mem_of_mem_drop hr)
include hb
theorem sp_r9 {L : List G3} {w k : Nat} {p : G3} {f : Int} {c5 c4 : Option D} (hL : ∀ p ∈ L, p.ok) (hl : L.length ≤ 8) (hl2 : L.length ≤ (m.es ++ m.ls).length) (hk : L[k]? = some p) : t__law_spoilt_r9 spTake spOddL spPick spNames (ends Q) [some (.ref b), some m.d, some m.name, some (.str m.kind), c4, c5, some (.str m.outs), some (.int f), some (.lst (L.map G3.d)), some (.int (w : Int)), some (.int (k : Int)), some p.d] st := by
  have kl := (List.getElem?_eq_some_iff.mp hk).1
  have hp := hL p (List.mem_of_getElem? hk)
  have a0 : ∀ (p : G3) (st : Sto) (Q : QD), Q p.1 st → rdIx p.d (.int 0) st Q := fun p st Q q => ix_tup (by rw [atL0, onS_some]; exact q)
  have a1 : ∀ (st : Sto) (Q : QD), Q (.str p.2.1) st → rdIx p.d (.int 1) st Q := fun st Q q => ix_tup (by rw [atL1, onS_some]; exact q)
  have a2 : ∀ (st : Sto) (Q : QD), Q p.2.2 st → rdIx p.d (.int 2) st Q := fun st Q q => ix_tup (by rw [atL2, onS_some]; exact q)
  have go : ∀ p' : G3, p'.ok → t__law_spoilt_r10 spTake spOddL spPick spNames (ends Q) [some (.ref b), some m.d, some m.name, some (.str m.kind), c4, c5, some (.str m.outs), some (.int f), some (.lst (L.map G3.d)), some (.int (w : Int)), some (.int (k : Int)), some p'.d] st := fun p' hp' => sp_r10 hm q hL hl hl2 kl hp'
  simp only [t__law_spoilt_r9, dFldS, dMethK, dCallK, spK, dCallO, dJoined, djCons, djNil, dFmt, dDnew, dDnewM, rdStr, dSeq, dAsg, dVar, dC, dCall, dCons, dNil, dOp, dUn, dTup, dLst, dLstM, dRet, dRetN, dNext, dDrop, dIfS, dTst, dAnd, dOr, dNot, dAndV, dOrV, dNotV, dIf, dPar, dPar3, dAsgG, gNm, gTp, gsCons, gsNil, dCB, dMt, dMt0, dSl, dPart, dNoPart, dKGet, dDisp, dDispM, dpCons, dpNil, dFrz, dYes, rdSub, rdFdiv, rdMod, rdPow, rdLt, rdLe, rdGt, rdGe, rdAbs, rdMax, rdMin, rdI, rdI1, rdI2, rdNeg, rdInt, List.set_cons_zero, List.set_cons_succ, List.getElem?_cons_zero, List.getElem?_cons_succ, true_and, if_true, if_false, Bool.false_eq_true, rdEq, Bool.bne_false, decide_eq_true_eq]
  by_cases c5' : f = 5
  · rw [if_pos c5']
    refine ⟨b, rfl, hb, fun d hd => a1 _ _ (a2 _ _ ⟨by simp [sizeLine_eq], ?_⟩)⟩
    exact go (d, p.2.1, p.2.2) ⟨hd, hp.so, hp.df⟩
  rw [if_neg c5']
  by_cases c6' : f = 6
  · rw [if_pos c6']
    simp only [rdLen, look_int, look_str, look_tup, look_l, look_obj, look_bl, look_non, look_d, List.length_map]
    refine ⟨b, _, rfl, by omega, by omega, hb, fun r r0 r1 => ?_⟩
    obtain ⟨r, rfl⟩ := Int.eq_ofNat_of_zero_le r0
    have rl : r < L.length := by omega
    have er : atI (L.map G3.d) (r : Int) = some (L[r].d) := by
      unfold atI ixN
      rw [if_pos (Int.natCast_nonneg r), if_pos (by rw [List.length_map]; omega)]
      show (L.map G3.d)[(r : Int).toNat]? = _
      rw [show (r : Int).toNat = r from rfl, List.getElem?_map, List.getElem?_eq_getElem rl]; rfl
    refine ix_lst ?_
    rw [er, onS_some]
    refine a0 _ _ _ (a1 _ _ (a2 _ _ ⟨by simp [sizeLine_eq], ?_⟩))
    exact go (L[r].1, p.2.1, p.2.2) ⟨(hL L[r] (List.getElem_mem rl)).nm, hp.so, hp.df⟩
  rw [if_neg c6']
  by_cases c7' : f = 7
  · rw [if_pos c7']
    refine a0 _ _ _ ⟨by simp [sizeLine_eq], b, _, lotsS.map D.str, rfl, hb, rfl, by simp [lotsS], by simp [lotsS], fun x hx => ?_⟩
    obtain ⟨y, hy, rfl⟩ := str_pick hx
    refine a2 _ _ ⟨by simp [sizeLine_eq], ?_⟩
    exact go (p.1, y, p.2.2) ⟨hp.nm, lotsS_kw y hy, hp.df⟩
  rw [if_neg c7']
  refine a0 _ _ _ (a1 _ _ ⟨by simp [sizeLine_eq], b, _, dflL, rfl, hb, rfl, by simp [dflL], by simp [dflL], fun x hx => ⟨by simp [sizeLine_eq], ?_⟩⟩)
  exact go (p.1, p.2.1, x) ⟨hp.nm, hp.so, dflL_gk x hx⟩
theorem rd_spoilt (h7 : (m.es ++ m.ls).length ≤ 7) : t__law_spoilt spTake spOddL spPick spNames (ends Q) [some (.ref b), some m.d, none, none, none, none, none, none, none, none, none, none] st := by
  have few := hm.few
  have fw := h7
  rw [List.length_append] at fw
  simp only [t__law_spoilt, dFldS, dMethK, dCallK, spK, dCallO, dJoined, djCons, djNil, dFmt, dDnew, dDnewM, rdStr, dSeq, dAsg, dVar, dC, dCall, dCons, dNil, dOp, dUn, dTup, dLst, dLstM, dRet, dRetN, dNext, dDrop, dIfS, dTst, dAnd, dOr, dNot, dAndV, dOrV, dNotV, dIf, dPar, dPar3, dAsgG, gNm, gTp, gsCons, gsNil, dCB, dMt, dMt0, dSl, dPart, dNoPart, dKGet, dDisp, dDispM, dpCons, dpNil, dFrz, dYes, rdSub, rdFdiv, rdMod, rdPow, rdLt, rdLe, rdGt, rdGe, rdAbs, rdMax, rdMin, rdI, rdI1, rdI2, rdNeg, rdInt, List.set_cons_zero, List.set_cons_succ, List.getElem?_cons_zero, List.getElem?_cons_succ, true_and, if_true, if_false, Bool.false_eq_true, HG.d]
  refine ⟨rfl, ?_⟩
  simp only [t__law_spoilt_r1, dFldS, dMethK, dCallK, spK, dCallO, dJoined, djCons, djNil, dFmt, dDnew, dDnewM, rdStr, dSeq, dAsg, dVar, dC, dCall, dCons, dNil, dOp, dUn, dTup, dLst, dLstM, dRet, dRetN, dNext, dDrop, dIfS, dTst, dAnd, dOr, dNot, dAndV, dOrV, dNotV, dIf, dPar, dPar3, dAsgG, gNm, gTp, gsCons, gsNil, dCB, dMt, dMt0, dSl, dPart, dNoPart, dKGet, dDisp, dDispM, dpCons, dpNil, dFrz, dYes, rdSub, rdFdiv, rdMod, rdPow, rdLt, rdLe, rdGt, rdGe, rdAbs, rdMax, rdMin, rdI, rdI1, rdI2, rdNeg, rdInt, List.set_cons_zero, List.set_cons_succ, List.getElem?_cons_zero, List.getElem?_cons_succ, true_and, if_true, if_false, Bool.false_eq_true]
  refine ⟨b, _, rfl, by decide, by decide, hb, fun f _ _ => ?_⟩
  simp only [rdAdd, rdLen, look_int, look_str, look_tup, look_l, look_obj, look_bl, look_non, look_d, dFldS, dMethK, dCallK, spK, dCallO, dJoined, djCons, djNil, dFmt, dDnew, dDnewM, rdStr, dSeq, dAsg, dVar, dC, dCall, dCons, dNil, dOp, dUn, dTup, dLst, dLstM, dRet, dRetN, dNext, dDrop, dIfS, dTst, dAnd, dOr, dNot, dAndV, dOrV, dNotV, dIf, dPar, dPar3, dAsgG, gNm, gTp, gsCons, gsNil, dCB, dMt, dMt0, dSl, dPart, dNoPart, dKGet, dDisp, dDispM, dpCons, dpNil, dFrz, dYes, rdSub, rdFdiv, rdMod, rdPow, rdLt, rdLe, rdGt, rdGe, rdAbs, rdMax, rdMin, rdI, rdI1, rdI2, rdNeg, rdInt, List.set_cons_zero, List.set_cons_succ, List.getElem?_cons_zero, List.getElem?_cons_succ, true_and, if_true, if_false, Bool.false_eq_true, List.length_map]
  refine ⟨by rw [sizeLine_eq]; omega, ?_⟩
  rw [← List.map_append]
  simp only [t__law_spoilt_r2, dFldS, dMethK, dCallK, spK, dCallO, dJoined, djCons, djNil, dFmt, dDnew, dDnewM, rdStr, dSeq, dAsg, dVar, dC, dCall, dCons, dNil, dOp, dUn, dTup, dLst, dLstM, dRet, dRetN, dNext, dDrop, dIfS, dTst, dAnd, dOr, dNot, dAndV, dOrV, dNotV, dIf, dPar, dPar3, dAsgG, gNm, gTp, gsCons, gsNil, dCB, dMt, dMt0, dSl, dPart, dNoPart, dKGet, dDisp, dDispM, dpCons, dpNil, dFrz, dYes, rdSub, rdFdiv, rdMod, rdPow, rdLt, rdLe, rdGt, rdGe, rdAbs, rdMax, rdMin, rdI, rdI1, rdI2, rdNeg, rdInt, List.set_cons_zero, List.set_cons_succ, List.getElem?_cons_zero, List.getElem?_cons_succ, true_and, if_true, if_false, Bool.false_eq_true, rdEq, Bool.bne_false, decide_eq_true_eq]
  by_cases c0 : f = 0
  · rw [if_pos c0]
    exact ⟨b, rfl, hb, fun d hd => ⟨by simp [sizeLine_eq], sb (q ⟨d, m.kind, m.es, m.ls, m.outs⟩ ⟨hd, hm.kd, hm.ou, hm.ps, hm.few⟩ (Nat.le_succ _))⟩⟩
  rw [if_neg c0]
  simp only [t__law_spoilt_r3, dFldS, dMethK, dCallK, spK, dCallO, dJoined, djCons, djNil, dFmt, dDnew, dDnewM, rdStr, dSeq, dAsg, dVar, dC, dCall, dCons, dNil, dOp, dUn, dTup, dLst, dLstM, dRet, dRetN, dNext, dDrop, dIfS, dTst, dAnd, dOr, dNot, dAndV, dOrV, dNotV, dIf, dPar, dPar3, dAsgG, gNm, gTp, gsCons, gsNil, dCB, dMt, dMt0, dSl, dPart, dNoPart, dKGet, dDisp, dDispM, dpCons, dpNil, dFrz, dYes, rdSub, rdFdiv, rdMod, rdPow, rdLt, rdLe, rdGt, rdGe, rdAbs, rdMax, rdMin, rdI, rdI1, rdI2, rdNeg, rdInt, List.set_cons_zero, List.set_cons_succ, List.getElem?_cons_zero, List.getElem?_cons_succ, true_and, if_true, if_false, Bool.false_eq_true, rdEq, Bool.bne_false, decide_eq_true_eq]
  by_cases c1 : f = 1
  · rw [if_pos c1]
    refine ⟨by simp [sizeLine_eq], b, _, lotsK.map D.str, rfl, hb, rfl, by simp [lotsK], by simp [lotsK], fun x hx => ?_⟩
    obtain ⟨y, hy, rfl⟩ := str_pick hx
    exact ⟨by simp [sizeLine_eq], sb (q ⟨m.name, y, m.es, m.ls, m.outs⟩ ⟨hm.nm, lotsK_kw y hy, hm.ou, hm.ps, hm.few⟩ (Nat.le_succ _))⟩
  rw [if_neg c1]
  simp only [t__law_spoilt_r4, dFldS, dMethK, dCallK, spK, dCallO, dJoined, djCons, djNil, dFmt, dDnew, dDnewM, rdStr, dSeq, dAsg, dVar, dC, dCall, dCons, dNil, dOp, dUn, dTup, dLst, dLstM, dRet, dRetN, dNext, dDrop, dIfS, dTst, dAnd, dOr, dNot, dAndV, dOrV, dNotV, dIf, dPar, dPar3, dAsgG, gNm, gTp, gsCons, gsNil, dCB, dMt, dMt0, dSl, dPart, dNoPart, dKGet, dDisp, dDispM, dpCons, dpNil, dFrz, dYes, rdSub, rdFdiv, rdMod, rdPow, rdLt, rdLe, rdGt, rdGe, rdAbs, rdMax, rdMin, rdI, rdI1, rdI2, rdNeg, rdInt, List.set_cons_zero, List.set_cons_succ, List.getElem?_cons_zero, List.getElem?_cons_succ, true_and, if_true, if_false, Bool.false_eq_true, rdEq, Bool.bne_false, decide_eq_true_eq]
  by_cases c2 : f = 2
  · rw [if_pos c2]
    refine ⟨by simp [sizeLine_eq], b, _, lotsS.map D.str, rfl, hb, rfl, by simp [lotsS], by simp [lotsS], fun x hx => ?_⟩
    obtain ⟨y, hy, rfl⟩ := str_pick hx
    exact ⟨by simp [sizeLine_eq], sb (q ⟨m.name, m.kind, m.es, m.ls, y⟩ ⟨hm.nm, hm.kd, lotsS_kw y hy, hm.ps, hm.few⟩ (Nat.le_succ _))⟩
  rw [if_neg c2]
  simp only [t__law_spoilt_r5, dFldS, dMethK, dCallK, spK, dCallO, dJoined, djCons, djNil, dFmt, dDnew, dDnewM, rdStr, dSeq, dAsg, dVar, dC, dCall, dCons, dNil, dOp, dUn, dTup, dLst, dLstM, dRet, dRetN, dNext, dDrop, dIfS, dTst, dAnd, dOr, dNot, dAndV, dOrV, dNotV, dIf, dPar, dPar3, dAsgG, gNm, gTp, gsCons, gsNil, dCB, dMt, dMt0, dSl, dPart, dNoPart, dKGet, dDisp, dDispM, dpCons, dpNil, dFrz, dYes, rdSub, rdFdiv, rdMod, rdPow, rdLt, rdLe, rdGt, rdGe, rdAbs, rdMax, rdMin, rdI, rdI1, rdI2, rdNeg, rdInt, List.set_cons_zero, List.set_cons_succ, List.getElem?_cons_zero, List.getElem?_cons_succ, true_and, if_true, if_false, Bool.false_eq_true, rdEq, Bool.bne_false, decide_eq_true_eq]
  by_cases c3 : f = 3
  · rw [if_pos c3]
    refine ⟨by simp [sizeLine_eq], sb (q ⟨m.name, m.kind, m.ls, m.es, m.outs⟩ ⟨hm.nm, hm.kd, hm.ou, fun p hp => hm.ps p ?_, ?_⟩ ?_)⟩
    · rcases List.mem_append.mp hp with hp | hp
      · exact List.mem_append_right _ hp
      · exact List.mem_append_left _ hp
    · show (m.ls ++ m.es).length ≤ 8
      rw [List.length_append]; omega
    · show (m.ls ++ m.es).length ≤ (m.es ++ m.ls).length + 1
      rw [List.length_append, List.length_append]; omega
  rw [if_neg c3]
  -- one more
  have more : ∀ c10 c11 : Option D, t6s { ends Q with nx := t__law_spoilt_r7 spTake spOddL spPick spNames (ends Q) } [some (.ref b), some m.d, some m.name, some (.str m.kind), some (.lst (m.es.map G3.d)), some (.lst (m.ls.map G3.d)), some (.str m.outs), some (.int f), some (.lst ((m.es ++ m.ls).map G3.d)), some (.int (m.es.length : Int)), c10, c11] st := fun c10 c11 => by
    simp only [t6s, dFldS, dMethK, dCallK, spK, dCallO, dJoined, djCons, djNil, dFmt, dDnew, dDnewM, rdStr, dSeq, dAsg, dVar, dC, dCall, dCons, dNil, dOp, dUn, dTup, dLst, dLstM, dRet, dRetN, dNext, dDrop, dIfS, dTst, dAnd, dOr, dNot, dAndV, dOrV, dNotV, dIf, dPar, dPar3, dAsgG, gNm, gTp, gsCons, gsNil, dCB, dMt, dMt0, dSl, dPart, dNoPart, dKGet, dDisp, dDispM, dpCons, dpNil, dFrz, dYes, rdSub, rdFdiv, rdMod, rdPow, rdLt, rdLe, rdGt, rdGe, rdAbs, rdMax, rdMin, rdI, rdI1, rdI2, rdNeg, rdInt, List.set_cons_zero, List.set_cons_succ, List.getElem?_cons_zero, List.getElem?_cons_succ, true_and, if_true, if_false, Bool.false_eq_true]
    refine ⟨b, 1, rfl, hb, by decide, by decide, fun ys _ yl yok => ?_⟩
    match ys, yl, yok with
    | [y], _, yok =>
      simp only [List.map_cons, List.map_nil]
      refine ix_lst ?_
      rw [atL0, onS_some]
      refine ⟨by simp [sizeLine_eq], b, _, [.non, .int 3], rfl, hb, rfl, by simp, by simp, fun x hx => ?_⟩
      simp only [rdAdd, rdSl, look_int, look_str, look_tup, look_l, look_obj, look_bl, look_non, look_d]
      have e : (m.es ++ m.ls).map G3.d ++ [D.tup [.str y, .str "number", x]] = (m.es ++ m.ls ++ [((.str y, "number", x) : G3)]).map G3.d := by simp [G3.d]
      refine ⟨by simp [sizeLine_eq], by simp [sizeLine_eq], by simp [sizeLine_eq]; omega, ?_⟩
      rw [e]
      rw [cutD_lo' _ _ (Int.natCast_nonneg _), cutD_hi' _ _ (Int.natCast_nonneg _), show (m.es.length : Int).toNat = m.es.length from rfl, ← List.map_take, ← List.map_drop]
      refine ⟨by simp [sizeLine_eq], sb (sp_end hm q (fun p hp => ?_) (by rw [List.length_append, List.length_singleton]; omega) (by rw [List.length_append, List.length_singleton]; exact Nat.le_refl _))⟩
      rcases List.mem_append.mp hp with hp | hp
      · exact hm.ps p hp
      · rw [List.mem_singleton.mp hp]
        exact ⟨gk_lw (yok y (List.mem_cons_self ..)).lw, by show Kw "number"; exact ⟨by decide +kernel, by decide⟩, two_gk x hx⟩
    | [], yl, _ => simp at yl
    | _ :: _ :: _, yl, _ => simp at yl; omega
  have r7 : m.es ++ m.ls ≠ [] → t__law_spoilt_r7 spTake spOddL spPick spNames (ends Q) [some (.ref b), some m.d, some m.name, some (.str m.kind), some (.lst (m.es.map G3.d)), some (.lst (m.ls.map G3.d)), some (.str m.outs), some (.int f), some (.lst ((m.es ++ m.ls).map G3.d)), some (.int (m.es.length : Int)), none, none] st := fun ne => by
    have lp : 0 < (m.es ++ m.ls).length := List.length_pos_iff.mpr ne
    simp only [t__law_spoilt_r7, dFldS, dMethK, dCallK, spK, dCallO, dJoined, djCons, djNil, dFmt, dDnew, dDnewM, rdStr, dSeq, dAsg, dVar, dC, dCall, dCons, dNil, dOp, dUn, dTup, dLst, dLstM, dRet, dRetN, dNext, dDrop, dIfS, dTst, dAnd, dOr, dNot, dAndV, dOrV, dNotV, dIf, dPar, dPar3, dAsgG, gNm, gTp, gsCons, gsNil, dCB, dMt, dMt0, dSl, dPart, dNoPart, dKGet, dDisp, dDispM, dpCons, dpNil, dFrz, dYes, rdSub, rdFdiv, rdMod, rdPow, rdLt, rdLe, rdGt, rdGe, rdAbs, rdMax, rdMin, rdI, rdI1, rdI2, rdNeg, rdInt, List.set_cons_zero, List.set_cons_succ, List.getElem?_cons_zero, List.getElem?_cons_succ, true_and, if_true, if_false, Bool.false_eq_true, rdLen, look_int, look_str, look_tup, look_l, look_obj, look_bl, look_non, look_d, List.length_map]
    refine ⟨b, _, rfl, by omega, by omega, hb, fun r r0 r1 => ?_⟩
    obtain ⟨r, rfl⟩ := Int.eq_ofNat_of_zero_le r0
    have rl : r < (m.es ++ m.ls).length := by omega
    have er : atI ((m.es ++ m.ls).map G3.d) (r : Int) = some ((m.es ++ m.ls)[r].d) := by
      unfold atI ixN
      rw [if_pos (Int.natCast_nonneg r), if_pos (by rw [List.length_map]; omega)]
      show ((m.es ++ m.ls).map G3.d)[(r : Int).toNat]? = _
      rw [show (r : Int).toNat = r from rfl, List.getElem?_map, List.getElem?_eq_getElem rl]; rfl
    simp only [t__law_spoilt_r8, dFldS, dMethK, dCallK, spK, dCallO, dJoined, djCons, djNil, dFmt, dDnew, dDnewM, rdStr, dSeq, dAsg, dVar, dC, dCall, dCons, dNil, dOp, dUn, dTup, dLst, dLstM, dRet, dRetN, dNext, dDrop, dIfS, dTst, dAnd, dOr, dNot, dAndV, dOrV, dNotV, dIf, dPar, dPar3, dAsgG, gNm, gTp, gsCons, gsNil, dCB, dMt, dMt0, dSl, dPart, dNoPart, dKGet, dDisp, dDispM, dpCons, dpNil, dFrz, dYes, rdSub, rdFdiv, rdMod, rdPow, rdLt, rdLe, rdGt, rdGe, rdAbs, rdMax, rdMin, rdI, rdI1, rdI2, rdNeg, rdInt, List.set_cons_zero, List.set_cons_succ, List.getElem?_cons_zero, List.getElem?_cons_succ, true_and, if_true, if_false, Bool.false_eq_true]
    refine ix_lst ?_
    rw [er, onS_some]
    exact sp_r9 hb hm q hm.ps hm.few (Nat.le_refl _) (List.getElem?_eq_getElem rl)
  rw [t6_eq]
  generalize hE : t__law_spoilt_r7 spTake spOddL spPick spNames = E at more r7 ⊢
  simp only [dFldS, dMethK, dCallK, spK, dCallO, dJoined, djCons, djNil, dFmt, dDnew, dDnewM, rdStr, dSeq, dAsg, dVar, dC, dCall, dCons, dNil, dOp, dUn, dTup, dLst, dLstM, dRet, dRetN, dNext, dDrop, dIfS, dTst, dAnd, dOr, dNot, dAndV, dOrV, dNotV, dIf, dPar, dPar3, dAsgG, gNm, gTp, gsCons, gsNil, dCB, dMt, dMt0, dSl, dPart, dNoPart, dKGet, dDisp, dDispM, dpCons, dpNil, dFrz, dYes, rdSub, rdFdiv, rdMod, rdPow, rdLt, rdLe, rdGt, rdGe, rdAbs, rdMax, rdMin, rdI, rdI1, rdI2, rdNeg, rdInt, List.set_cons_zero, List.set_cons_succ, List.getElem?_cons_zero, List.getElem?_cons_succ, true_and, if_true, if_false, Bool.false_eq_true, eq_int, Bool.bne_false, decide_eq_true_eq]
  by_cases c4 : f = 4
  · rw [if_pos c4]
    exact more none none
  rw [if_neg c4]
  obtain ⟨g1, g2⟩ := g3s_ok hm.ps
  refine ⟨by simp [sizeLine_eq], eq_nil g1 (by omega) ?_⟩
  simp only [Bool.bne_false, decide_eq_true_eq]
  by_cases ce : (m.es ++ m.ls).map G3.d = []
  · rw [if_pos ce]
    exact more none none
  · rw [if_neg ce]
    exact r7 fun z => ce (by rw [z]; rfl)
end
end TL
namespace TL
open PySem PySem.Spec PyProof.Rows L2
def p3 (p : Prm) : G3 := (.str p.1, p.2.1, p.2.2)
theorem p3_d : ∀ (ps : List Prm), (ps.map p3).map G3.d = ps.map Prm.d
  | [] => rfl
  | p :: ps => by rw [List.map_cons, List.map_cons, List.map_cons, p3_d ps]; rfl
def toG (name kind : Str) (es ls : List Prm) (outs : Str) : HG := ⟨.str name, kind, es.map p3, ls.map p3, outs⟩
theorem toG_d {name kind : Str} {es ls : List Prm} {outs : Str} : (toG name kind es ls outs).d = hookD name kind es ls outs := by
  unfold HG.d hookD toG
  simp only [p3_d]
theorem sort_kw {s : Str} (h : isSort s) : Kw s := by
  rcases h with rfl | rfl <;> exact ⟨by decide +kernel, by decide⟩
theorem kinds_kw : ∀ x ∈ kindsW, Kw x := kw_all (by decide +kernel)
theorem gk_dfl {s : Str} {d : D} (h : d = .non ∨ VOk s d) : Gk d := by
  rcases h with rfl | h
  · exact gk_of (by decide +kernel)
  · rcases h with ⟨_, w, hw, rfl⟩ | ⟨_, k, h1, h2, rfl⟩
    · exact gk_lw hw
    · exact ⟨rfl, by simp only [D.ok, decide_eq_true_eq]; omega, by simp [D.dp], by simp [D.wt]⟩
theorem toG_ok {name kind : Str} {es ls : List Prm} {outs : Str} (hn : Nm name) (hk : kind ∈ kindsW) (h : HookOk kind es ls outs) : (toG name kind es ls outs).ok ∧ ((toG name kind es ls outs).es ++ (toG name kind es ls outs).ls).length ≤ 3 := by
  have e : (toG name kind es ls outs).es ++ (toG name kind es ls outs).ls = (es ++ ls).map p3 := by unfold toG; rw [List.map_append]
  have l : ((toG name kind es ls outs).es ++ (toG name kind es ls outs).ls).length ≤ 3 := by rw [e, List.length_map]; exact h.few
  refine ⟨⟨gk_lw hn.lw, kinds_kw kind hk, sort_kw h.osort, fun p hp => ?_, by omega⟩, l⟩
  rw [e] at hp
  obtain ⟨r, hr, rfl⟩ := List.mem_map.mp hp
  have := h.ok r hr
  exact ⟨gk_lw this.1.lw, sort_kw this.2.1, gk_dfl this.2.2⟩
/-! ### shown -/
theorem pscan_gk {lots : List G3} {w : Nat} : ∀ {rest : List G3} {k : Nat} {s : Str} {d : D}, (∀ p ∈ rest, p.ok) → pscan lots w k rest = some (s, d) → Kw s ∧ Gk d
  | [], k, s, d, _, h => by simp [pscan] at h
  | p :: rest, k, s, d, ok, h => by
    rw [pscan_cons] at h
    cases e : pwrong lots w k p with
    | some s' =>
      rw [e] at h
      cases h
      refine ⟨?_, (ok p (List.mem_cons_self ..)).nm⟩
      have k1 : ∀ x ∈ (["param", "twice", "sort", "default"] : List Str), Kw x := kw_all (by decide +kernel)
      unfold pwrong at e
      refine k1 s ?_
      repeat (split at e; · cases e; decide +kernel)
      cases e
    | none =>
      rw [e] at h
      exact pscan_gk (fun q hq => ok q (List.mem_cons_of_mem _ hq)) h
theorem wrongH_gk {m : HG} {w : Str} {d : D} (hm : m.ok) (h : wrongH m = some (w, d)) : Kw w ∧ Gk d := by
  have k1 : ∀ x ∈ (["name", "kind", "many", "through", "gives"] : List Str), Kw x := kw_all (by decide +kernel)
  unfold wrongH at h
  split at h
  · cases h; exact ⟨k1 _ (by decide +kernel), hm.nm⟩
  split at h
  · cases h; exact ⟨k1 _ (by decide +kernel), hm.nm⟩
  cases e : pscan (m.es ++ m.ls) m.es.length 0 (m.es ++ m.ls) with
  | some r =>
    rw [e] at h
    cases h
    exact pscan_gk hm.ps e
  | none =>
    rw [e] at h
    simp only [] at h
    unfold wrongE at h
    split at h
    · cases h; exact ⟨k1 _ (by decide +kernel), hm.nm⟩
    split at h
    · cases h; exact ⟨k1 _ (by decide +kernel), hm.nm⟩
    split at h
    · cases h; exact ⟨k1 _ (by decide +kernel), hm.nm⟩
    cases h
theorem repr_resE {m : HG} (hm : m.ok) : ∃ T : Str, ∀ (st : Sto) (Q : QD), Q (.str T) st → rdReprN [resE (wrongH m)] st Q := by
  cases e : wrongH m with
  | none => exact ⟨PyData.none.shown, fun st Q q => q⟩
  | some wd =>
    obtain ⟨w, d⟩ := wd
    obtain ⟨kw, gd⟩ := wrongH_gk hm e
    have l := kw.2
    have a := gd.dp
    have b := gd.wt
    have g1 : (D.tup [.str w, d]).ok = true := by simp only [D.ok, D.oks, kw.1, gd.ok, Bool.and_self]
    have g2 : (D.tup [.str w, d]).dp ≤ 64 := by simp only [D.dp, D.dps]; omega
    have g3 : (D.tup [.str w, d]).wt ≤ 16777216 := by simp only [D.wt, D.wts]; omega
    obtain ⟨p, hp, _⟩ := ok_py _ g1
    refine ⟨p.shown, fun st Q q => ?_⟩
    show rdRepr [.tup [.str w, d]] st Q
    refine repr_tup g1 g2 g3 fun p' hp' => ?_
    rw [hp] at hp'; cases hp'; exact q
/-! ### the law -/
abbrev lb (f : DSp → DSp → DSp → DSp → DSp → DSp → DSp → DSp → TDS) : TDS := f spBox spNames spTake spHook spPick spSpoilt spHeardL spWrongL
theorem law_times {x0 x2 x3 : Option D} {b : Nat} {st : Sto} {R : DEnds} (hb : st b = some .box) : ∀ (k : Nat) (i : Int) (m : HG) (x5 : Option D), m.ok → (m.es ++ m.ls).length + k ≤ 7 → (∀ m' x5, m'.ok → R.nx [x0, some (.ref b), x2, x3, some (HG.d m'), x5] st) →
    dLoop (gNm 5) (lb t_law_b1) R (rangeD i k) [x0, some (.ref b), x2, x3, some m.d, x5] st
  | 0, i, m, x5, hm, _, h => h m x5 hm
  | k + 1, i, m, x5, hm, hl, h => by
    rw [rangeD_succ]
    simp only [dLoop, lb, t_law_b1, dFldS, dMethK, dCallK, spK, dCallO, dJoined, djCons, djNil, dFmt, dDnew, dDnewM, rdStr, dSeq, dAsg, dVar, dC, dCall, dCons, dNil, dOp, dUn, dTup, dLst, dLstM, dRet, dRetN, dNext, dDrop, dIfS, dTst, dAnd, dOr, dNot, dAndV, dOrV, dNotV, dIf, dPar, dPar3, dAsgG, gNm, gTp, gsCons, gsNil, dCB, dMt, dMt0, dSl, dPart, dNoPart, dKGet, dDisp, dDispM, dpCons, dpNil, dFrz, dYes, rdSub, rdFdiv, rdMod, rdPow, rdLt, rdLe, rdGt, rdGe, rdAbs, rdMax, rdMin, rdI, rdI1, rdI2, rdNeg, rdInt, List.set_cons_zero, List.set_cons_succ, List.getElem?_cons_zero, List.getElem?_cons_succ, true_and, if_true, if_false, Bool.false_eq_true]
    exact ⟨b, m, rfl, hb, hm, by omega, fun m' hm' l => law_times hb k (i + 1) m' _ hm' (by omega) h⟩
theorem kinds_pick {x : D} (h : x ∈ ([.str "first", .str "through", .str "each"] : List D)) : ∃ k ∈ kindsW, x = .str k := by
  have : ([.str "first", .str "through", .str "each"] : List D) = kindsW.map D.str := rfl
  rw [this] at h
  exact str_pick h
theorem law_turns {x0 : Option D} {b : Nat} {st : Sto} {R : DEnds} (hb : st b = some .box) (h : ∀ x2 x3 x4 x5, R.nx [x0, some (.ref b), x2, x3, x4, x5] st) :
    ∀ (k : Nat) (i : Int) (x2 x3 x4 x5 : Option D), dLoop (gNm 2) (lb t_law_b2) R (rangeD i k) [x0, some (.ref b), x2, x3, x4, x5] st
  | 0, i, x2, x3, x4, x5 => h _ _ _ _
  | k + 1, i, x2, x3, x4, x5 => by
    rw [rangeD_succ]
    have go := law_turns (R := R) hb h k (i + 1)
    show lb t_law_b2 { R with nx := dLoop (gNm 2) (lb t_law_b2) R (rangeD (i + 1) k), ct := dLoop (gNm 2) (lb t_law_b2) R (rangeD (i + 1) k), bk := R.nx } [x0, some (.ref b), some (.int i), x3, x4, x5] st
    generalize hR : ({ R with nx := dLoop (gNm 2) (lb t_law_b2) R (rangeD (i + 1) k), ct := dLoop (gNm 2) (lb t_law_b2) R (rangeD (i + 1) k), bk := R.nx } : DEnds) = R2
    have go2 : ∀ x2 x3 x4 x5, R2.nx [x0, some (.ref b), x2, x3, x4, x5] st := by
      rw [← hR]; exact go
    simp only [lb, t_law_b2, dFldS, dMethK, dCallK, spK, dCallO, dJoined, djCons, djNil, dFmt, dDnew, dDnewM, rdStr, dSeq, dAsg, dVar, dC, dCall, dCons, dNil, dOp, dUn, dTup, dLst, dLstM, dRet, dRetN, dNext, dDrop, dIfS, dTst, dAnd, dOr, dNot, dAndV, dOrV, dNotV, dIf, dPar, dPar3, dAsgG, gNm, gTp, gsCons, gsNil, dCB, dMt, dMt0, dSl, dPart, dNoPart, dKGet, dDisp, dDispM, dpCons, dpNil, dFrz, dYes, rdSub, rdFdiv, rdMod, rdPow, rdLt, rdLe, rdGt, rdGe, rdAbs, rdMax, rdMin, rdI, rdI1, rdI2, rdNeg, rdInt, List.set_cons_zero, List.set_cons_succ, List.getElem?_cons_zero, List.getElem?_cons_succ, true_and, if_true, if_false, Bool.false_eq_true]
    refine ⟨b, 4, rfl, hb, by decide, by decide, fun ys _ yl yok => ⟨b, _, rfl, by decide, by decide, hb, fun r r0 r1 => ?_⟩⟩
    obtain ⟨r, rfl⟩ := Int.eq_ofNat_of_zero_le r0
    have rl : r < ys.length := by omega
    have er : atI (ys.map D.str) (r : Int) = some (.str ys[r]) := by
      unfold atI ixN
      rw [if_pos (Int.natCast_nonneg r), if_pos (by rw [List.length_map]; omega)]
      show (ys.map D.str)[(r : Int).toNat]? = _
      rw [show (r : Int).toNat = r from rfl, List.getElem?_map, List.getElem?_eq_getElem rl]; rfl
    refine ix_lst ?_
    rw [er, onS_some]
    simp only [t_law_b2_r1, dFldS, dMethK, dCallK, spK, dCallO, dJoined, djCons, djNil, dFmt, dDnew, dDnewM, rdStr, dSeq, dAsg, dVar, dC, dCall, dCons, dNil, dOp, dUn, dTup, dLst, dLstM, dRet, dRetN, dNext, dDrop, dIfS, dTst, dAnd, dOr, dNot, dAndV, dOrV, dNotV, dIf, dPar, dPar3, dAsgG, gNm, gTp, gsCons, gsNil, dCB, dMt, dMt0, dSl, dPart, dNoPart, dKGet, dDisp, dDispM, dpCons, dpNil, dFrz, dYes, rdSub, rdFdiv, rdMod, rdPow, rdLt, rdLe, rdGt, rdGe, rdAbs, rdMax, rdMin, rdI, rdI1, rdI2, rdNeg, rdInt, List.set_cons_zero, List.set_cons_succ, List.getElem?_cons_zero, List.getElem?_cons_succ, true_and, if_true, if_false, Bool.false_eq_true]
    refine ⟨by simp [sizeLine_eq], b, _, [.str "first", .str "through", .str "each"], rfl, hb, rfl, by simp, by simp, fun x hx => ?_⟩
    obtain ⟨kk, hk, rfl⟩ := kinds_pick hx
    refine ⟨b, ys[r], kk, rfl, hb, fun es ls outs ho => ?_⟩
    obtain ⟨hm, hl⟩ := toG_ok (yok _ (List.getElem_mem rl)) hk ho
    rw [← toG_d]
    generalize toG ys[r] kk es ls outs = m at hm hl
    simp only [t_law_b2_r2, dFldS, dMethK, dCallK, spK, dCallO, dJoined, djCons, djNil, dFmt, dDnew, dDnewM, rdStr, dSeq, dAsg, dVar, dC, dCall, dCons, dNil, dOp, dUn, dTup, dLst, dLstM, dRet, dRetN, dNext, dDrop, dIfS, dTst, dAnd, dOr, dNot, dAndV, dOrV, dNotV, dIf, dPar, dPar3, dAsgG, gNm, gTp, gsCons, gsNil, dCB, dMt, dMt0, dSl, dPart, dNoPart, dKGet, dDisp, dDispM, dpCons, dpNil, dFrz, dYes, rdSub, rdFdiv, rdMod, rdPow, rdLt, rdLe, rdGt, rdGe, rdAbs, rdMax, rdMin, rdI, rdI1, rdI2, rdNeg, rdInt, List.set_cons_zero, List.set_cons_succ, List.getElem?_cons_zero, List.getElem?_cons_succ, true_and, if_true, if_false, Bool.false_eq_true, dFor, dRg1]
    refine ⟨b, _, rfl, by decide, by decide, hb, fun t t0 t1 => ⟨⟨by omega, by omega⟩, ?_⟩⟩
    obtain ⟨t, rfl⟩ := Int.eq_ofNat_of_zero_le t0
    rw [Int.toNat_natCast]
    refine law_times hb t 0 m _ hm (by omega) fun m' x5 hm' => ?_
    simp only [t_law_b2_r3, dFldS, dMethK, dCallK, spK, dCallO, dJoined, djCons, djNil, dFmt, dDnew, dDnewM, rdStr, dSeq, dAsg, dVar, dC, dCall, dCons, dNil, dOp, dUn, dTup, dLst, dLstM, dRet, dRetN, dNext, dDrop, dIfS, dTst, dAnd, dOr, dNot, dAndV, dOrV, dNotV, dIf, dPar, dPar3, dAsgG, gNm, gTp, gsCons, gsNil, dCB, dMt, dMt0, dSl, dPart, dNoPart, dKGet, dDisp, dDispM, dpCons, dpNil, dFrz, dYes, rdSub, rdFdiv, rdMod, rdPow, rdLt, rdLe, rdGt, rdGe, rdAbs, rdMax, rdMin, rdI, rdI1, rdI2, rdNeg, rdInt, List.set_cons_zero, List.set_cons_succ, List.getElem?_cons_zero, List.getElem?_cons_succ, true_and, if_true, if_false, Bool.false_eq_true]
    obtain ⟨T, hT⟩ := repr_resE hm'
    refine ⟨m', rfl, hm', hT _ _ ⟨m', rfl, hm', hT _ _ ?_⟩⟩
    simp only [eq_str, decide_true, bne_self_eq_false, dFldS, dMethK, dCallK, spK, dCallO, dJoined, djCons, djNil, dFmt, dDnew, dDnewM, rdStr, dSeq, dAsg, dVar, dC, dCall, dCons, dNil, dOp, dUn, dTup, dLst, dLstM, dRet, dRetN, dNext, dDrop, dIfS, dTst, dAnd, dOr, dNot, dAndV, dOrV, dNotV, dIf, dPar, dPar3, dAsgG, gNm, gTp, gsCons, gsNil, dCB, dMt, dMt0, dSl, dPart, dNoPart, dKGet, dDisp, dDispM, dpCons, dpNil, dFrz, dYes, rdSub, rdFdiv, rdMod, rdPow, rdLt, rdLe, rdGt, rdGe, rdAbs, rdMax, rdMin, rdI, rdI1, rdI2, rdNeg, rdInt, List.set_cons_zero, List.set_cons_succ, List.getElem?_cons_zero, List.getElem?_cons_succ, true_and, if_true, if_false, Bool.false_eq_true]
    exact go2 _ _ _ _
def spLaw03 : DSp := fun ds st Q _ => ∃ ns, ds = [.scr ns] ∧ ∀ st', Q (.bl true) st'
theorem rd_law03 {ns : List Int} {st : Sto} {Q : QD} (q : ∀ st', Q (.bl true) st') : t_law spBox spNames spTake spHook spPick spSpoilt spHeardL spWrongL (ends Q) [some (.scr ns), none, none, none, none, none] st := by
  simp only [t_law, dFldS, dMethK, dCallK, spK, dCallO, dJoined, djCons, djNil, dFmt, dDnew, dDnewM, rdStr, dSeq, dAsg, dVar, dC, dCall, dCons, dNil, dOp, dUn, dTup, dLst, dLstM, dRet, dRetN, dNext, dDrop, dIfS, dTst, dAnd, dOr, dNot, dAndV, dOrV, dNotV, dIf, dPar, dPar3, dAsgG, gNm, gTp, gsCons, gsNil, dCB, dMt, dMt0, dSl, dPart, dNoPart, dKGet, dDisp, dDispM, dpCons, dpNil, dFrz, dYes, rdSub, rdFdiv, rdMod, rdPow, rdLt, rdLe, rdGt, rdGe, rdAbs, rdMax, rdMin, rdI, rdI1, rdI2, rdNeg, rdInt, List.set_cons_zero, List.set_cons_succ, List.getElem?_cons_zero, List.getElem?_cons_succ, true_and, if_true, if_false, Bool.false_eq_true]
  refine ⟨ns, 0, rfl, by decide, by decide, fun b hb => ?_⟩
  simp only [t_law_r1, dFldS, dMethK, dCallK, spK, dCallO, dJoined, djCons, djNil, dFmt, dDnew, dDnewM, rdStr, dSeq, dAsg, dVar, dC, dCall, dCons, dNil, dOp, dUn, dTup, dLst, dLstM, dRet, dRetN, dNext, dDrop, dIfS, dTst, dAnd, dOr, dNot, dAndV, dOrV, dNotV, dIf, dPar, dPar3, dAsgG, gNm, gTp, gsCons, gsNil, dCB, dMt, dMt0, dSl, dPart, dNoPart, dKGet, dDisp, dDispM, dpCons, dpNil, dFrz, dYes, rdSub, rdFdiv, rdMod, rdPow, rdLt, rdLe, rdGt, rdGe, rdAbs, rdMax, rdMin, rdI, rdI1, rdI2, rdNeg, rdInt, List.set_cons_zero, List.set_cons_succ, List.getElem?_cons_zero, List.getElem?_cons_succ, true_and, if_true, if_false, Bool.false_eq_true, dFor, dRg1]
  refine ⟨⟨by decide, by decide⟩, ?_⟩
  refine law_turns sup_same (fun x2 x3 x4 x5 => ?_) 16 0 _ _ _ _
  simp only [t_law_r2, dFldS, dMethK, dCallK, spK, dCallO, dJoined, djCons, djNil, dFmt, dDnew, dDnewM, rdStr, dSeq, dAsg, dVar, dC, dCall, dCons, dNil, dOp, dUn, dTup, dLst, dLstM, dRet, dRetN, dNext, dDrop, dIfS, dTst, dAnd, dOr, dNot, dAndV, dOrV, dNotV, dIf, dPar, dPar3, dAsgG, gNm, gTp, gsCons, gsNil, dCB, dMt, dMt0, dSl, dPart, dNoPart, dKGet, dDisp, dDispM, dpCons, dpNil, dFrz, dYes, rdSub, rdFdiv, rdMod, rdPow, rdLt, rdLe, rdGt, rdGe, rdAbs, rdMax, rdMin, rdI, rdI1, rdI2, rdNeg, rdInt, List.set_cons_zero, List.set_cons_succ, List.getElem?_cons_zero, List.getElem?_cons_succ, true_and, if_true, if_false, Bool.false_eq_true]
  exact sb (q _)
end TL
namespace TL
open PySem PySem.Spec PyProof.Rows L2
def top (i : Nat) : Stmt := PySem.Challenge.pw_hookrow_k03_hooks_refused.main.body.getD i (.Pass ⟨0, 0, 0, 0⟩)
abbrev shs_Hook : List Shape := [⟨3, ["only", "gives"], [0, 1, 2, 3, 4], []⟩]
abbrev s_InvalidHook___init__ : Stmt := inClass (top 3) 0
theorem sc_InvalidHook___init__ : FnScope ["self", "word", "name"] ["self", "word", "name"] (defScope s_InvalidHook___init__) := ⟨rfl, rfl, rfl, by decide +kernel, rfl, by decide +kernel, by decide +kernel⟩
abbrev s__law_take : Stmt := top 19
abbrev N__law_take : List Str := ["_law_box_here", "_law_many", "_law_digit", "_law_one"]
theorem sc__law_take : FnScope N__law_take ["_law_box_here", "_law_many"] (defScope s__law_take) := ⟨rfl, rfl, rfl, by decide +kernel, rfl, by decide +kernel, by decide +kernel⟩
theorem d__law_take {cA : Nat → Addr} {P : Program} {w : World} {K : PySem.W.Frag} {mg : Str → Option Value} {base : Heap} {k : Nat} (b_len : mg "len" = none) : BodyD cA P w K mg base k "_law_take" s__law_take N__law_take (t__law_take) :=
  fun f cdv A outer s H hr hgd =>
  (dss_cons (ds_if (dt_w (dw_and (dt_eq (hu64 hr) (de_ix (hu1 hr) (dv 0) de_str) de_int) (dw_and1 (dt_gt  (de_len (by rfl) b_len (de_ix (hu1 hr) (dv 0) de_str)) de_int))))
  (dss_one (ds_put (hu1 hr) (dv 0) de_str (de_pop (de_ix (hu1 hr) (dv 0) de_str))))
  dss_nil)
  (dss_cons (ds_if (dt_gt  (de_ix (hu1 hr) (dv 0) de_str) de_int)
  (dss_cons (ds_set (i := 2) sc__law_take.nd rfl (by first | exact Or.inl rfl | exact Or.inr rfl) (de_mod (de_ix (hu1 hr) (dv 0) de_str) (dv 1)))
  (dss_cons (ds_put (hu1 hr) (dv 0) de_str (de_fdiv (de_ix (hu1 hr) (dv 0) de_str) (dv 1)))
  (dss_one (ds_ret (dv 2)))))
  dss_nil)
  (dss_cons (ds_put (hu1 hr) (dv 0) de_str (de_add (de_ix (hu1 hr) (dv 0) de_str) de_int))
  (dss_cons (ds_set (i := 3) sc__law_take.nd rfl (by first | exact Or.inl rfl | exact Or.inr rfl) (de_mod (de_mul (de_mod (de_add (de_ix (hu1 hr) (dv 0) de_str) (de_mul de_int (de_ix (hu1 hr) (dv 0) de_str))) de_int) de_int) de_int))
  (dss_cons (ds_put (hu1 hr) (dv 0) de_str (de_add (de_mod (de_add (dv 3) (de_mul de_int (de_ix (hu1 hr) (dv 0) de_str))) de_int) de_int))
  (dss_one (ds_ret (de_mod (de_fdiv (de_add (de_mul (dv 3) de_int) (de_ix (hu1 hr) (dv 0) de_str)) de_int) (dv 1)))))))))
abbrev s__law_box : Stmt := top 18
abbrev N__law_box : List Str := ["_law_script", "_law_base", "_law_seed", "_law_cell", "_law_great"]
theorem sc__law_box : FnScope N__law_box ["_law_script", "_law_base"] (defScope s__law_box) := ⟨rfl, rfl, rfl, by decide +kernel, rfl, by decide +kernel, by decide +kernel⟩
theorem d__law_box {cA : Nat → Addr} {P : Program} {w : World} {K : PySem.W.Frag} {mg : Str → Option Value} {base : Heap} {k : Nat} (b_abs : mg "abs" = none) : BodyD cA P w K mg base k "_law_box" s__law_box N__law_box (t__law_box) :=
  fun f cdv A outer s H hr hgd =>
  (dss_cons (ds_set (i := 2) sc__law_box.nd rfl (by first | exact Or.inl rfl | exact Or.inr rfl) (de_add de_int (de_mul de_int (dv 1))))
  (dss_cons (ds_for (js := [3]) PassesOwn.never rfl (di_any (de_slice (dv 0) do_none (do_some de_int))) (dg_name (i := 3) sc__law_box.nd rfl (by first | exact Or.inl rfl | exact Or.inr rfl))
  (dss_one (ds_set (i := 2) sc__law_box.nd rfl (by first | exact Or.inl rfl | exact Or.inr rfl) (de_mod (de_add (de_add (de_mul (dv 2) de_int) (de_mod (de_abs (by rfl) b_abs (dv 3)) de_int)) de_int) de_int))))
  (dss_cons (ds_setLc (i := 4) (own := [("_law_cell", 3)]) rfl sc__law_box.nd rfl rfl (sw_true rfl rfl rfl (by decide +kernel)) (di_any (de_slice (dv 0) (do_some (dv 1)) (do_some de_int))) (blkOk_by (own := [("_law_cell", 3)]) (N := N__law_box) (sc := defScope s__law_box) (by decide +kernel)) (fun _ _ _ _ _ => (dg_name (i := 3) sc__law_box.nd rfl (by first | exact Or.inl rfl | exact Or.inr rfl))) (fun _ _ _ _ _ => (dts_one (dt_ge  (de_abs (by rfl) b_abs (dv 3)) (de_pow de_int de_int)))) (fun _ _ _ _ _ => (de_abs (by rfl) b_abs (dv 3))))
  (dss_one (ds_ret (de_dispM (.str (de_revM (dv 4)) (.str de_int (.str (de_add (dv 2) de_int) (.str de_int .nil))))))))))
abbrev s__law_pick : Stmt := top 20
abbrev N__law_pick : List Str := ["_law_box_here", "_law_items"]
theorem sc__law_pick : FnScope N__law_pick ["_law_box_here", "_law_items"] (defScope s__law_pick) := ⟨rfl, rfl, rfl, by decide +kernel, rfl, by decide +kernel, by decide +kernel⟩
theorem d__law_pick {cA : Nat → Addr} {P : Program} {w : World} {K : PySem.W.Frag} {mg : Str → Option Value} {base : Heap} {k : Nat} {k__law_take : Nat} {ps__law_take : List Str} {_law_take : DSp} (c__law_take : Cal cA P w K mg base k__law_take "_law_take" ps__law_take _law_take) (b_len : mg "len" = none) (le__law_take : k__law_take ≤ k) : BodyD cA P w K mg base k "_law_pick" s__law_pick N__law_pick (t__law_pick _law_take) :=
  fun f cdv A outer s H hr hgd =>
  (dss_one (ds_ret (de_ix (hu1 hr) (dv 1) (dc_call c__law_take (hr.mono (by omega)) hgd (by rfl) (da_cons (dv 0) (da_cons (de_len (by rfl) b_len (dv 1)) da_nil))))))
abbrev s__law_mixed : Stmt := top 21
abbrev N__law_mixed : List Str := ["_law_box_here", "_law_items", "_law_left", "_law_found", "_law_turn"]
theorem sc__law_mixed : FnScope N__law_mixed ["_law_box_here", "_law_items"] (defScope s__law_mixed) := ⟨rfl, rfl, rfl, by decide +kernel, rfl, by decide +kernel, by decide +kernel⟩
theorem d__law_mixed {cA : Nat → Addr} {P : Program} {w : World} {K : PySem.W.Frag} {mg : Str → Option Value} {base : Heap} {k : Nat} {k__law_take : Nat} {ps__law_take : List Str} {_law_take : DSp} (c__law_take : Cal cA P w K mg base k__law_take "_law_take" ps__law_take _law_take) (b_list : mg "list" = none) (b_len : mg "len" = none) (b_range : mg "range" = none) (le__law_take : k__law_take ≤ k) : BodyD cA P w K mg base k "_law_mixed" s__law_mixed N__law_mixed (t__law_mixed _law_take) :=
  fun f cdv A outer s H hr hgd =>
  (dss_cons (ds_par (i := 2) (j := 3) rfl sc__law_mixed.nd rfl rfl (by decide) rfl rfl (da_cons (de_listM rfl (by rfl) b_list (dv 1)) (da_cons (de_lstM da_nil) da_nil)) rfl)
  (dss_cons (ds_for (js := [4]) PassesOwn.never rfl (di_range1 (by rfl) b_range (de_len (by rfl) b_len (dv 2))) (dg_name (i := 4) sc__law_mixed.nd rfl (by first | exact Or.inl rfl | exact Or.inr rfl))
  (dss_one (ds_expr (de_append (dv 3) (de_popAt (dv 2) (dc_call c__law_take (hr.mono (by omega)) hgd (by rfl) (da_cons (dv 0) (da_cons (de_len (by rfl) b_len (dv 2)) da_nil))))))))
  (dss_one (ds_ret (de_frz (dv 3))))))
abbrev s__law_names : Stmt := top 22
abbrev N__law_names : List Str := ["_law_box_here", "_law_many", "_law_letters", "_law_found", "_law_form", "_law_stem", "_law_at", "_law_bad", "_law_k", "_law_name", "_law_letter"]
theorem sc__law_names : FnScope N__law_names ["_law_box_here", "_law_many"] (defScope s__law_names) := ⟨rfl, rfl, rfl, by decide +kernel, rfl, by decide +kernel, by decide +kernel⟩
theorem d__law_names {cA : Nat → Addr} {P : Program} {w : World} {K : PySem.W.Frag} {mg : Str → Option Value} {base : Heap} {k : Nat} {k__law_take : Nat} {ps__law_take : List Str} {_law_take : DSp} (c__law_take : Cal cA P w K mg base k__law_take "_law_take" ps__law_take _law_take) {k__law_mixed : Nat} {ps__law_mixed : List Str} {_law_mixed : DSp} (c__law_mixed : Cal cA P w K mg base k__law_mixed "_law_mixed" ps__law_mixed _law_mixed) (b_range : mg "range" = none) (b_len : mg "len" = none) (b_enumerate : mg "enumerate" = none) (le__law_take : k__law_take ≤ k) (le__law_mixed : k__law_mixed ≤ k) : BodyD cA P w K mg base k "_law_names" s__law_names N__law_names (t__law_names _law_take _law_mixed) :=
  fun f cdv A outer s H hr hgd =>
  (dss_cons (ds_asg (js := [2, 3, 4]) (de_tup (da_cons de_str (da_cons (de_lst da_nil) (da_cons (dc_call c__law_take (hr.mono (by omega)) hgd (by rfl) (da_cons (dv 0) (da_cons de_int da_nil))) da_nil)))) (dg_tup rfl (dgs_cons (dg_name (i := 2) sc__law_names.nd rfl (by first | exact Or.inl rfl | exact Or.inr rfl)) (dgs_cons (dg_name (i := 3) sc__law_names.nd rfl (by first | exact Or.inl rfl | exact Or.inr rfl)) (dgs_cons (dg_name (i := 4) sc__law_names.nd rfl (by first | exact Or.inl rfl | exact Or.inr rfl)) dgs_nil)))))
  (dss_cons (ds_set (i := 5) sc__law_names.nd rfl (by first | exact Or.inl rfl | exact Or.inr rfl) (de_join (de_lc (own := [("_law_k", 8)]) rfl sc__law_names.nd (di_range1 (by rfl) b_range (de_ix (hu1 hr) (de_lst (da_cons de_int (da_cons de_int (da_cons de_int (da_cons de_int da_nil))))) (dc_call c__law_take (hr.mono (by omega)) hgd (by rfl) (da_cons (dv 0) (da_cons de_int da_nil))))) (blkOk_by (own := [("_law_k", 8)]) (N := N__law_names) (sc := defScope s__law_names) (by decide +kernel)) (fun _ _ _ _ _ => (dg_name (i := 8) sc__law_names.nd rfl (by first | exact Or.inl rfl | exact Or.inr rfl))) (fun _ _ _ _ _ => dts_nil) (fun _ _ _ _ _ => (de_ix (hu1 hr) (dv 2) (dc_call c__law_take (hr.mono (by omega)) hgd (by rfl) (da_cons (dv 0) (da_cons de_int da_nil))))))))
  (dss_cons (ds_set (i := 6) sc__law_names.nd rfl (by first | exact Or.inl rfl | exact Or.inr rfl) (dc_call c__law_take (hr.mono (by omega)) hgd (by rfl) (da_cons (dv 0) (da_cons (de_add (de_len (by rfl) b_len (dv 5)) de_int) da_nil))))
  (dss_cons (ds_if (dt_eq (hu64 hr) (dv 4) de_int)
  (dss_one (ds_set (i := 3) sc__law_names.nd rfl (by first | exact Or.inl rfl | exact Or.inr rfl) (de_split (by decide +kernel) de_str)))
  dss_nil)
  (dss_cons (ds_set (i := 3) sc__law_names.nd rfl (by first | exact Or.inl rfl | exact Or.inr rfl) (de_add (dv 3) (de_lc (own := [("_law_letter", 10)]) rfl sc__law_names.nd (di_any (dc_call c__law_mixed (hr.mono (by omega)) hgd (by rfl) (da_cons (dv 0) (da_cons (dv 2) da_nil)))) (blkOk_by (own := [("_law_letter", 10)]) (N := N__law_names) (sc := defScope s__law_names) (by decide +kernel)) (fun _ _ _ _ _ => (dg_name (i := 10) sc__law_names.nd rfl (by first | exact Or.inl rfl | exact Or.inr rfl))) (fun _ _ _ _ _ => dts_nil) (fun _ _ _ _ _ => (de_add (de_add (de_slice (dv 5) do_none (do_some (dv 6))) (dv 10)) (de_slice (dv 5) (do_some (dv 6)) do_none))))))
  (dss_cons (ds_set (i := 7) sc__law_names.nd rfl (by first | exact Or.inl rfl | exact Or.inr rfl) de_str)
  (dss_cons (ds_set (i := 7) sc__law_names.nd rfl (by first | exact Or.inl rfl | exact Or.inr rfl) (de_split (by decide +kernel) (de_add (dv 7) de_str)))
  (dss_cons (ds_set (i := 3) sc__law_names.nd rfl (by first | exact Or.inl rfl | exact Or.inr rfl) (de_lc (own := [("_law_k", 8), ("_law_name", 9)]) rfl sc__law_names.nd (di_en (by rfl) b_enumerate (dv 3)) (blkOk_by (own := [("_law_k", 8), ("_law_name", 9)]) (N := N__law_names) (sc := defScope s__law_names) (by decide +kernel)) (fun _ _ _ _ _ => (dg_tup rfl (dgs_cons (dg_name (i := 8) sc__law_names.nd rfl (by first | exact Or.inl rfl | exact Or.inr rfl)) (dgs_cons (dg_name (i := 9) sc__law_names.nd rfl (by first | exact Or.inl rfl | exact Or.inr rfl)) dgs_nil)))) (fun _ _ _ _ _ => (dts_one (dt_w (dw_and (dt_notIn (hu65 hr) (dv 9) (dv 7)) (dw_and1 (dt_notIn (hu65 hr) (dv 9) (de_slice (dv 3) do_none (do_some (dv 8))))))))) (fun _ _ _ _ _ => (dv 9))))
  (dss_one (ds_ret (dc_call c__law_mixed (hr.mono (by omega)) hgd (by rfl) (da_cons (dv 0) (da_cons (de_slice (dv 3) do_none (do_some (dv 1))) da_nil)))))))))))))
abbrev s__law_value : Stmt := top 24
abbrev N__law_value : List Str := ["_law_box_here", "_law_sort"]
theorem sc__law_value : FnScope N__law_value ["_law_box_here", "_law_sort"] (defScope s__law_value) := ⟨rfl, rfl, rfl, by decide +kernel, rfl, by decide +kernel, by decide +kernel⟩
theorem d__law_value {cA : Nat → Addr} {P : Program} {w : World} {K : PySem.W.Frag} {mg : Str → Option Value} {base : Heap} {k : Nat} {k__law_pick : Nat} {ps__law_pick : List Str} {_law_pick : DSp} (c__law_pick : Cal cA P w K mg base k__law_pick "_law_pick" ps__law_pick _law_pick) {k__law_take : Nat} {ps__law_take : List Str} {_law_take : DSp} (c__law_take : Cal cA P w K mg base k__law_take "_law_take" ps__law_take _law_take) (le__law_pick : k__law_pick ≤ k) (le__law_take : k__law_take ≤ k) : BodyD cA P w K mg base k "_law_value" s__law_value N__law_value (t__law_value _law_pick _law_take) :=
  fun f cdv A outer s H hr hgd =>
  (dss_cons (ds_if (dt_eq (hu64 hr) (dv 1) de_str)
  (dss_one (ds_ret (dc_call c__law_pick (hr.mono (by omega)) hgd (by rfl) (da_cons (dv 0) (da_cons (de_lst (da_cons de_str (da_cons de_str (da_cons de_str (da_cons de_str (da_cons de_str (da_cons de_str da_nil))))))) da_nil)))))
  dss_nil)
  (dss_one (ds_ret (de_ix (hu1 hr) (de_lst (da_cons (de_sub (dc_call c__law_take (hr.mono (by omega)) hgd (by rfl) (da_cons (dv 0) (da_cons de_int da_nil))) de_int) (da_cons (de_sub (dc_call c__law_take (hr.mono (by omega)) hgd (by rfl) (da_cons (dv 0) (da_cons de_int da_nil))) de_int) (da_cons (de_sub (dc_call c__law_take (hr.mono (by omega)) hgd (by rfl) (da_cons (dv 0) (da_cons de_int da_nil))) de_int) da_nil)))) (de_fdiv (dc_call c__law_take (hr.mono (by omega)) hgd (by rfl) (da_cons (dv 0) (da_cons de_int da_nil))) de_int)))))
abbrev s__law_hook : Stmt := top 23
abbrev N__law_hook : List Str := ["_law_box_here", "_law_name", "_law_kind", "_law_names_here", "_law_sorts", "_law_many", "_law_wide", "_law_some", "_law_late", "_law_k", "_law_sort", "_law_outs"]
theorem sc__law_hook : FnScope N__law_hook ["_law_box_here", "_law_name", "_law_kind"] (defScope s__law_hook) := ⟨rfl, rfl, rfl, by decide +kernel, rfl, by decide +kernel, by decide +kernel⟩
theorem d__law_hook {cA : Nat → Addr} {P : Program} {w : World} {K : PySem.W.Frag} {mg : Str → Option Value} {base : Heap} {k : Nat} {k__law_names : Nat} {ps__law_names : List Str} {_law_names : DSp} (c__law_names : Cal cA P w K mg base k__law_names "_law_names" ps__law_names _law_names) {k__law_take : Nat} {ps__law_take : List Str} {_law_take : DSp} (c__law_take : Cal cA P w K mg base k__law_take "_law_take" ps__law_take _law_take) {k__law_pick : Nat} {ps__law_pick : List Str} {_law_pick : DSp} (c__law_pick : Cal cA P w K mg base k__law_pick "_law_pick" ps__law_pick _law_pick) {k__law_value : Nat} {ps__law_value : List Str} {_law_value : DSp} (c__law_value : Cal cA P w K mg base k__law_value "_law_value" ps__law_value _law_value) (b_max : mg "max" = none) (b_range : mg "range" = none) (le__law_names : k__law_names ≤ k) (le__law_take : k__law_take ≤ k) (le__law_pick : k__law_pick ≤ k) (le__law_value : k__law_value ≤ k) : BodyD cA P w K mg base k "_law_hook" s__law_hook N__law_hook (t__law_hook _law_names _law_take _law_pick _law_value) :=
  fun f cdv A outer s H hr hgd =>
  (dss_cons (ds_par (i := 3) (j := 4) rfl sc__law_hook.nd rfl rfl (by decide) rfl rfl (da_cons (dc_call c__law_names (hr.mono (by omega)) hgd (by rfl) (da_cons (dv 0) (da_cons de_int da_nil))) (da_cons (de_lst (da_cons de_str (da_cons de_str (da_cons de_str da_nil)))) da_nil)) rfl)
  (dss_cons (ds_set (i := 5) sc__law_hook.nd rfl (by first | exact Or.inl rfl | exact Or.inr rfl) (dc_call c__law_take (hr.mono (by omega)) hgd (by rfl) (da_cons (dv 0) (da_cons de_int da_nil))))
  (dss_cons (ds_set (i := 5) sc__law_hook.nd rfl (by first | exact Or.inl rfl | exact Or.inr rfl) (de_ifExp (dt_eq (hu64 hr) (dv 2) de_str) (de_max rfl (by rfl) b_max (dv 5) de_int) (dv 5)))
  (dss_cons (ds_set (i := 6) sc__law_hook.nd rfl (by first | exact Or.inl rfl | exact Or.inr rfl) (de_sub (dv 5) (dc_call c__law_take (hr.mono (by omega)) hgd (by rfl) (da_cons (dv 0) (da_cons (de_add (dv 5) de_int) da_nil)))))
  (dss_cons (ds_set (i := 6) sc__law_hook.nd rfl (by first | exact Or.inl rfl | exact Or.inr rfl) (de_ifExp (dt_eq (hu64 hr) (dv 2) de_str) (de_max rfl (by rfl) b_max (dv 6) de_int) (dv 6)))
  (dss_cons (ds_par (i := 7) (j := 8) rfl sc__law_hook.nd rfl rfl (by decide) rfl rfl (da_cons (de_lstM da_nil) (da_cons de_bl da_nil)) rfl)
  (dss_cons (ds_for (js := [9]) PassesOwn.never rfl (di_range1 (by rfl) b_range (dv 5)) (dg_name (i := 9) sc__law_hook.nd rfl (by first | exact Or.inl rfl | exact Or.inr rfl))
  (dss_cons (ds_set (i := 10) sc__law_hook.nd rfl (by first | exact Or.inl rfl | exact Or.inr rfl) (dc_call c__law_pick (hr.mono (by omega)) hgd (by rfl) (da_cons (dv 0) (da_cons (dv 4) da_nil))))
  (dss_cons (ds_set (i := 8) sc__law_hook.nd rfl (by first | exact Or.inl rfl | exact Or.inr rfl) (de_or (de_and (dv 8) (de_one (de_lt  (dv 9) (dv 6)))) (de_one (de_eq (hu64 hr) (dc_call c__law_take (hr.mono (by omega)) hgd (by rfl) (da_cons (dv 0) (da_cons de_int da_nil))) de_int))))
  (dss_cons (ds_set (i := 8) sc__law_hook.nd rfl (by first | exact Or.inl rfl | exact Or.inr rfl) (de_and (dv 8) (de_one (de_not (de_and (de_eq (hu64 hr) (dv 2) de_str) (de_one (de_eq (hu64 hr) (dv 9) de_int)))))))
  (dss_one (ds_expr (de_append (dv 7) (de_tup (da_cons (de_ix (hu1 hr) (dv 3) (dv 9)) (da_cons (dv 10) (da_cons (de_ifExp (dt_val (dv 8)) (dc_call c__law_value (hr.mono (by omega)) hgd (by rfl) (da_cons (dv 0) (da_cons (dv 10) da_nil))) de_non) da_nil)))))))))))
  (dss_cons (ds_set (i := 11) sc__law_hook.nd rfl (by first | exact Or.inl rfl | exact Or.inr rfl) (de_ifExp (dt_eq (hu64 hr) (dv 2) de_str) (de_ix (hu1 hr) (de_ix (hu1 hr) (dv 7) de_int) de_int) (dc_call c__law_pick (hr.mono (by omega)) hgd (by rfl) (da_cons (dv 0) (da_cons (dv 4) da_nil)))))
  (dss_one (ds_ret (de_tup (da_cons (dv 1) (da_cons (dv 2) (da_cons (de_slice (dv 7) do_none (do_some (dv 6))) (da_cons (de_slice (dv 7) (do_some (dv 6)) do_none) (da_cons (dv 11) da_nil))))))))))))))))
abbrev s_is_integer : Stmt := top 8
abbrev N_is_integer : List Str := ["thing"]
theorem sc_is_integer : FnScope N_is_integer ["thing"] (defScope s_is_integer) := ⟨rfl, rfl, rfl, by decide +kernel, rfl, by decide +kernel, by decide +kernel⟩
theorem d_is_integer {cA : Nat → Addr} {P : Program} {w : World} {K : PySem.W.Frag} {mg : Str → Option Value} {base : Heap} {k : Nat} (kc : KCls K cA 1 subE) (b_isinstance : mg "isinstance" = none) (b_int : mg "int" = none) (b_bool : mg "bool" = none) : BodyD cA P w K mg base k "is_integer" s_is_integer N_is_integer (t_is_integer) :=
  fun f cdv A outer s H hr hgd =>
  (dss_one (ds_ret (de_and (de_isB (T := .int) kc (by rfl) b_isinstance (by rfl) b_int (by decide +kernel) (dv 0)) (de_one (de_not (de_isB (T := .bool) kc (by rfl) b_isinstance (by rfl) b_bool (by decide +kernel) (dv 0)))))))
abbrev s_is_name : Stmt := top 9
abbrev N_is_name : List Str := ["thing", "letter"]
theorem sc_is_name : FnScope N_is_name ["thing"] (defScope s_is_name) := ⟨rfl, rfl, rfl, by decide +kernel, rfl, by decide +kernel, by decide +kernel⟩
theorem d_is_name {cA : Nat → Addr} {P : Program} {w : World} {K : PySem.W.Frag} {mg : Str → Option Value} {base : Heap} {k : Nat} {u_LETTERS : Value} (m_LETTERS : mg "LETTERS" = some u_LETTERS) (k_LETTERS : CRep K cA u_LETTERS kLETTERS) (kc : KCls K cA 1 subE) (b_isinstance : mg "isinstance" = none) (b_str : mg "str" = none) (b_len : mg "len" = none) (b_all : mg "all" = none) : BodyD cA P w K mg base k "is_name" s_is_name N_is_name (t_is_name) :=
  fun f cdv A outer s H hr hgd =>
  (dss_one (ds_ret (de_and (de_isB (T := .str) kc (by rfl) b_isinstance (by rfl) b_str (by decide +kernel) (dv 0)) (de_and (de_chain op_le op_le de_int (de_len (by rfl) b_len (dv 0)) de_int) (de_one (de_all rfl (by rfl) b_all (de_lc (own := [("letter", 1)]) rfl sc_is_name.nd (di_any (dv 0)) (blkOk_by (own := [("letter", 1)]) (N := N_is_name) (sc := defScope s_is_name) (by decide +kernel)) (fun _ _ _ _ _ => (dg_name (i := 1) sc_is_name.nd rfl (by first | exact Or.inl rfl | exact Or.inr rfl))) (fun _ _ _ _ _ => dts_nil) (fun _ _ _ _ _ => (de_in (hu65 hr) (dv 1) (de_glob (by rfl) m_LETTERS k_LETTERS))))))))))
abbrev s_fits : Stmt := top 10
abbrev N_fits : List Str := ["sort", "thing"]
theorem sc_fits : FnScope N_fits ["sort", "thing"] (defScope s_fits) := ⟨rfl, rfl, rfl, by decide +kernel, rfl, by decide +kernel, by decide +kernel⟩
theorem d_fits {cA : Nat → Addr} {P : Program} {w : World} {K : PySem.W.Frag} {mg : Str → Option Value} {base : Heap} {k : Nat} {k_is_integer : Nat} {ps_is_integer : List Str} {is_integer : DSp} (c_is_integer : Cal cA P w K mg base k_is_integer "is_integer" ps_is_integer is_integer) {k_is_name : Nat} {ps_is_name : List Str} {is_name : DSp} (c_is_name : Cal cA P w K mg base k_is_name "is_name" ps_is_name is_name) (le_is_integer : k_is_integer ≤ k) (le_is_name : k_is_name ≤ k) : BodyD cA P w K mg base k "fits" s_fits N_fits (t_fits is_integer is_name) :=
  fun f cdv A outer s H hr hgd =>
  (dss_one (ds_ret (de_ifExp (dt_eq (hu64 hr) (dv 0) de_str) (dc_call c_is_integer (hr.mono (by omega)) hgd (by rfl) (da_cons (dv 1) da_nil)) (dc_call c_is_name (hr.mono (by omega)) hgd (by rfl) (da_cons (dv 1) da_nil)))))
abbrev s_whole : Stmt := top 14
abbrev N_whole : List Str := ["param"]
theorem sc_whole : FnScope N_whole ["param"] (defScope s_whole) := ⟨rfl, rfl, rfl, by decide +kernel, rfl, by decide +kernel, by decide +kernel⟩
theorem d_whole {cA : Nat → Addr} {P : Program} {w : World} {K : PySem.W.Frag} {mg : Str → Option Value} {base : Heap} {k : Nat} (b_len : mg "len" = none) (b_tuple : mg "tuple" = none) : BodyD cA P w K mg base k "whole" s_whole N_whole (t_whole) :=
  fun f cdv A outer s H hr hgd =>
  (dss_one (ds_ret (de_ifExp (dt_eq (hu64 hr) (de_len (by rfl) b_len (dv 0)) de_int) (de_tuple (by rfl) b_tuple (dv 0)) (de_tup (da_star (dv 0) (da_cons de_non da_nil))))))
abbrev s_Hook_look_param : Stmt := inClass (top 15) 2
abbrev N_Hook_look_param : List Str := ["self", "at", "name", "sort", "default", "elder", "param"]
theorem sc_Hook_look_param : FnScope N_Hook_look_param ["self", "at"] (defScope s_Hook_look_param) := ⟨rfl, rfl, rfl, by decide +kernel, rfl, by decide +kernel, by decide +kernel⟩
theorem d_Hook_look_param {cA cE : Nat → Addr} {P : Program} {w : World} {K : PySem.W.Frag} {mg : Str → Option Value} {base : Heap} {k : Nat} {k_is_name : Nat} {ps_is_name : List Str} {is_name : DSp} (c_is_name : Cal cA P w K mg base k_is_name "is_name" ps_is_name is_name) {k_fits : Nat} {ps_fits : List Str} {fits : DSp} (c_fits : Cal cA P w K mg base k_fits "fits" ps_fits fits) (x_InvalidHook : ExK P w K mg base cE 0 "InvalidHook" ["word", "name"]) {u_KEPT : Value} (m_KEPT : mg "KEPT" = some u_KEPT) (k_KEPT : CRep K cA u_KEPT kKEPT) {u_SORTS : Value} (m_SORTS : mg "SORTS" = some u_SORTS) (k_SORTS : CRep K cA u_SORTS kSORTS) (f_only : FldK K cA "only" [0]) (f_params : FldK K cA "params" [0]) (f_names : FldK K cA "names" [0]) (b_len : mg "len" = none) (le_is_name : k_is_name ≤ k) (le_fits : k_fits ≤ k) (le_x : 2 ≤ k) : BodyX cA cE P w K mg base k "Hook.look_param" s_Hook_look_param N_Hook_look_param (fun Xd => t_Hook_look_param Xd is_name fits) :=
  fun f cdv A outer s H E Xd hr hgd tkx hp =>
  (dzs_cons PostX.kept (dz_of (ds_asg (js := [2, 3, 4]) (de_ix (hu1 hr) (de_tup (da_star (de_fld f_params (dv 0)) (da_star (de_fld f_only (dv 0)) da_nil))) (dv 1)) (dg_tup rfl (dgs_cons (dg_name (i := 2) sc_Hook_look_param.nd rfl (by first | exact Or.inl rfl | exact Or.inr rfl)) (dgs_cons (dg_name (i := 3) sc_Hook_look_param.nd rfl (by first | exact Or.inl rfl | exact Or.inr rfl)) (dgs_cons (dg_name (i := 4) sc_Hook_look_param.nd rfl (by first | exact Or.inl rfl | exact Or.inr rfl)) dgs_nil))))))
  (dzs_cons PostX.kept (dz_if PostX.kept (dt_w (dw_or (dt_not (dt_val (dc_call c_is_name (hr.mono (by omega)) hgd (by rfl) (da_cons (dv 2) da_nil)))) (dw_or1 (dt_in (hu65 hr) (dv 2) (de_glob (by rfl) m_KEPT k_KEPT)))))
  (dzs_one (dz_raise tkx rfl x_InvalidHook (hr.mono (by omega)) (by rfl) (da_cons de_str (da_cons (dv 2) da_nil))))
  (dzs_of dss_nil))
  (dzs_cons PostX.kept (dz_if PostX.kept (dt_in (hu65 hr) (dv 2) (de_slice (de_fld f_names (dv 0)) do_none (do_some (dv 1))))
  (dzs_one (dz_raise tkx rfl x_InvalidHook (hr.mono (by omega)) (by rfl) (da_cons de_str (da_cons (dv 2) da_nil))))
  (dzs_of dss_nil))
  (dzs_cons PostX.kept (dz_if PostX.kept (dt_notIn (hu65 hr) (dv 3) (de_glob (by rfl) m_SORTS k_SORTS))
  (dzs_one (dz_raise tkx rfl x_InvalidHook (hr.mono (by omega)) (by rfl) (da_cons de_str (da_cons (dv 2) da_nil))))
  (dzs_of dss_nil))
  (dzs_cons PostX.kept (dz_if PostX.kept (dt_w (dw_and (dt_notN  (dv 4) de_non) (dw_and1 (dt_not (dt_val (dc_call c_fits (hr.mono (by omega)) hgd (by rfl) (da_cons (dv 3) (da_cons (dv 4) da_nil))))))))
  (dzs_one (dz_raise tkx rfl x_InvalidHook (hr.mono (by omega)) (by rfl) (da_cons de_str (da_cons (dv 2) da_nil))))
  (dzs_of dss_nil))
  (dzs_cons PostX.kept (dz_of (ds_setLc (i := 5) (own := [("param", 6)]) rfl sc_Hook_look_param.nd rfl rfl (sw_true rfl rfl rfl (by decide +kernel)) (di_any (de_slice (de_fld f_params (dv 0)) do_none (do_some (dv 1)))) (blkOk_by (own := [("param", 6)]) (N := N_Hook_look_param) (sc := defScope s_Hook_look_param) (by decide +kernel)) (fun _ _ _ _ _ => (dg_name (i := 6) sc_Hook_look_param.nd rfl (by first | exact Or.inl rfl | exact Or.inr rfl))) (fun _ _ _ _ _ => (dts_one (dt_notN  (de_ix (hu1 hr) (dv 6) de_int) de_non))) (fun _ _ _ _ _ => (dv 6))))
  (dzs_one (dz_if PostX.kept (dt_w (dw_and (dt_lt  (dv 1) (de_len (by rfl) b_len (de_fld f_params (dv 0)))) (dw_and (dt_isN  (dv 4) de_non) (dw_and1 (dt_ne (hu64 hr) (dv 5) (de_lst da_nil))))))
  (dzs_one (dz_raise tkx rfl x_InvalidHook (hr.mono (by omega)) (by rfl) (da_cons de_str (da_cons (dv 2) da_nil))))
  (dzs_of dss_nil)))))))))
abbrev s_Hook_look : Stmt := inClass (top 15) 1
abbrev N_Hook_look : List Str := ["self", "at"]
theorem sc_Hook_look : FnScope N_Hook_look ["self"] (defScope s_Hook_look) := ⟨rfl, rfl, rfl, by decide +kernel, rfl, by decide +kernel, by decide +kernel⟩
theorem d_Hook_look {cA cE : Nat → Addr} {P : Program} {w : World} {K : PySem.W.Frag} {mg : Str → Option Value} {base : Heap} {k : Nat} {k_is_name : Nat} {ps_is_name : List Str} {is_name : DSp} (c_is_name : Cal cA P w K mg base k_is_name "is_name" ps_is_name is_name) {k_look_param : Nat} {ps_look_param : Nat → List Str} {m_look_param : Nat → DSp} (c_look_param : ∀ c ∈ [0], CalMX cA cE P w K mg base k_look_param c "look_param" (ps_look_param c) (m_look_param c)) (x_InvalidHook : ExK P w K mg base cE 0 "InvalidHook" ["word", "name"]) {u_KINDS : Value} (m_KINDS : mg "KINDS" = some u_KINDS) (k_KINDS : CRep K cA u_KINDS kKINDS) {u_SORTS : Value} (m_SORTS : mg "SORTS" = some u_SORTS) (k_SORTS : CRep K cA u_SORTS kSORTS) (f_name : FldK K cA "name" [0]) (f_kind : FldK K cA "kind" [0]) (f_names : FldK K cA "names" [0]) (f_params : FldK K cA "params" [0]) (f_gives : FldK K cA "gives" [0]) (b_len : mg "len" = none) (b_range : mg "range" = none) (le_is_name : k_is_name ≤ k) (le_look_param : k_look_param ≤ k) (le_x : 2 ≤ k) : BodyX cA cE P w K mg base k "Hook.look" s_Hook_look N_Hook_look (fun Xd => t_Hook_look Xd is_name m_look_param) :=
  fun f cdv A outer s H E Xd hr hgd tkx hp =>
  (dzs_cons PostX.kept (dz_if PostX.kept (dt_not (dt_val (dc_call c_is_name (hr.mono (by omega)) hgd (by rfl) (da_cons (de_fld f_name (dv 0)) da_nil))))
  (dzs_one (dz_raise tkx rfl x_InvalidHook (hr.mono (by omega)) (by rfl) (da_cons de_str (da_cons (de_fld f_name (dv 0)) da_nil))))
  (dzs_of dss_nil))
  (dzs_cons PostX.kept (dz_if PostX.kept (dt_notIn (hu65 hr) (de_fld f_kind (dv 0)) (de_glob (by rfl) m_KINDS k_KINDS))
  (dzs_one (dz_raise tkx rfl x_InvalidHook (hr.mono (by omega)) (by rfl) (da_cons de_str (da_cons (de_fld f_name (dv 0)) da_nil))))
  (dzs_of dss_nil))
  (dzs_cons PostX.kept (dz_for (js := [1]) PostX.kept hp rfl (di_range1 (by rfl) b_range (de_len (by rfl) b_len (de_fld f_names (dv 0)))) (dg_name (i := 1) sc_Hook_look.nd rfl (by first | exact Or.inl rfl | exact Or.inr rfl))
  (dzs_one (dz_expr (dmx_call tkx c_look_param (hr.mono (by omega)) hgd (dv 0) (da_cons (dv 1) da_nil)))))
  (dzs_cons PostX.kept (dz_if PostX.kept (dt_gt  (de_len (by rfl) b_len (de_fld f_names (dv 0))) de_int)
  (dzs_one (dz_raise tkx rfl x_InvalidHook (hr.mono (by omega)) (by rfl) (da_cons de_str (da_cons (de_fld f_name (dv 0)) da_nil))))
  (dzs_of dss_nil))
  (dzs_cons PostX.kept (dz_if PostX.kept (dt_w (dw_and (dt_eq (hu64 hr) (de_fld f_kind (dv 0)) de_str) (dw_and1 (dt_w (dw_or (dt_eq (hu64 hr) (de_len (by rfl) b_len (de_fld f_params (dv 0))) de_int) (dw_or1 (dt_notN  (de_ix (hu1 hr) (de_ix (hu1 hr) (de_fld f_params (dv 0)) de_int) de_int) de_non)))))))
  (dzs_one (dz_raise tkx rfl x_InvalidHook (hr.mono (by omega)) (by rfl) (da_cons de_str (da_cons (de_fld f_name (dv 0)) da_nil))))
  (dzs_of dss_nil))
  (dzs_one (dz_if PostX.kept (dt_w (dw_or (dt_notIn (hu65 hr) (de_fld f_gives (dv 0)) (de_glob (by rfl) m_SORTS k_SORTS)) (dw_or1 (dt_w (dw_and (dt_eq (hu64 hr) (de_fld f_kind (dv 0)) de_str) (dw_and1 (dt_ne (hu64 hr) (de_fld f_gives (dv 0)) (de_ix (hu1 hr) (de_ix (hu1 hr) (de_fld f_params (dv 0)) de_int) de_int))))))))
  (dzs_one (dz_raise tkx rfl x_InvalidHook (hr.mono (by omega)) (by rfl) (da_cons de_str (da_cons (de_fld f_name (dv 0)) da_nil))))
  (dzs_of dss_nil))))))))
abbrev s_Hook___init__ : Stmt := inClass (top 15) 0
abbrev N_Hook___init__ : List Str := ["self", "name", "kind", "params", "only", "gives", "param"]
theorem sc_Hook___init__ : FnScope N_Hook___init__ ["self", "name", "kind", "params", "only", "gives"] (defScope s_Hook___init__) := ⟨rfl, rfl, rfl, by decide +kernel, rfl, by decide +kernel, by decide +kernel⟩
theorem d_Hook___init__ {cA cE : Nat → Addr} {P : Program} {w : World} {K : PySem.W.Frag} {mg : Str → Option Value} {base : Heap} {k : Nat} {k_whole : Nat} {ps_whole : List Str} {whole : DSp} (c_whole : Cal cA P w K mg base k_whole "whole" ps_whole whole) {k_look : Nat} {ps_look : Nat → List Str} {m_look : Nat → DSp} (c_look : ∀ c ∈ [0], CalMX cA cE P w K mg base k_look c "look" (ps_look c) (m_look c)) (f_name : FldK K cA "name" [0]) (f_kind : FldK K cA "kind" [0]) (f_gives : FldK K cA "gives" [0]) (f_params : FldK K cA "params" [0]) (f_only : FldK K cA "only" [0]) (f_names : FldK K cA "names" [0]) (b_tuple : mg "tuple" = none) (le_whole : k_whole ≤ k) (le_look : k_look ≤ k) : BodyX cA cE P w K mg base k "Hook.__init__" s_Hook___init__ N_Hook___init__ (fun Xd => t_Hook___init__ Xd whole m_look) :=
  fun f cdv A outer s H E Xd hr hgd tkx hp =>
  (dzs_cons PostX.kept (dz_of (ds_fld f_name (dv 0) (dv 1)))
  (dzs_cons PostX.kept (dz_of (ds_fld f_kind (dv 0) (dv 2)))
  (dzs_cons PostX.kept (dz_of (ds_fld f_gives (dv 0) (dv 5)))
  (dzs_cons PostX.kept (dz_of (ds_fld f_params (dv 0) (de_tuple (by rfl) b_tuple (de_lcC (own := [("param", 6)]) rfl sc_Hook___init__.nd (dv 3) (blkOk_by (own := [("param", 6)]) (N := N_Hook___init__) (sc := defScope s_Hook___init__) (by decide +kernel)) (fun _ _ _ _ _ => (dg_name (i := 6) sc_Hook___init__.nd rfl (by first | exact Or.inl rfl | exact Or.inr rfl))) (fun _ _ _ _ _ => dts_nil) (fun _ _ _ _ _ => (dc_call c_whole (hr.mono (by omega)) hgd (by rfl) (da_cons (dv 6) da_nil)))))))
  (dzs_cons PostX.kept (dz_of (ds_fld f_only (dv 0) (de_tuple (by rfl) b_tuple (de_lcC (own := [("param", 6)]) rfl sc_Hook___init__.nd (dv 4) (blkOk_by (own := [("param", 6)]) (N := N_Hook___init__) (sc := defScope s_Hook___init__) (by decide +kernel)) (fun _ _ _ _ _ => (dg_name (i := 6) sc_Hook___init__.nd rfl (by first | exact Or.inl rfl | exact Or.inr rfl))) (fun _ _ _ _ _ => dts_nil) (fun _ _ _ _ _ => (dc_call c_whole (hr.mono (by omega)) hgd (by rfl) (da_cons (dv 6) da_nil)))))))
  (dzs_cons PostX.kept (dz_of (ds_fld f_names (dv 0) (de_tuple (by rfl) b_tuple (de_lc (own := [("param", 6)]) rfl sc_Hook___init__.nd (di_any (de_tup (da_star (de_fld f_params (dv 0)) (da_star (de_fld f_only (dv 0)) da_nil)))) (blkOk_by (own := [("param", 6)]) (N := N_Hook___init__) (sc := defScope s_Hook___init__) (by decide +kernel)) (fun _ _ _ _ _ => (dg_name (i := 6) sc_Hook___init__.nd rfl (by first | exact Or.inl rfl | exact Or.inr rfl))) (fun _ _ _ _ _ => dts_nil) (fun _ _ _ _ _ => (de_ix (hu1 hr) (dv 6) de_int))))))
  (dzs_one (dz_expr (dmx_call0 tkx c_look (hr.mono (by omega)) hgd (dv 0))))))))))
abbrev s__law_odd : Stmt := top 25
abbrev N__law_odd : List Str := ["_law_box_here", "_law_some"]
theorem sc__law_odd : FnScope N__law_odd ["_law_box_here"] (defScope s__law_odd) := ⟨rfl, rfl, rfl, by decide +kernel, rfl, by decide +kernel, by decide +kernel⟩
theorem d__law_odd {cA : Nat → Addr} {P : Program} {w : World} {K : PySem.W.Frag} {mg : Str → Option Value} {base : Heap} {k : Nat} {k__law_pick : Nat} {ps__law_pick : List Str} {_law_pick : DSp} (c__law_pick : Cal cA P w K mg base k__law_pick "_law_pick" ps__law_pick _law_pick) (le__law_pick : k__law_pick ≤ k) : BodyD cA P w K mg base k "_law_odd" s__law_odd N__law_odd (t__law_odd _law_pick) :=
  fun f cdv A outer s H hr hgd =>
  (dss_cons (ds_set (i := 1) sc__law_odd.nd rfl (by first | exact Or.inl rfl | exact Or.inr rfl) (de_lst (da_cons de_str (da_cons de_str (da_cons de_str (da_cons de_str (da_cons de_str (da_cons de_int (da_cons de_non (da_cons de_bl (da_cons (de_tup (da_cons de_str da_nil)) (da_cons (de_lst (da_cons de_str da_nil)) (da_cons de_str (da_cons de_str (da_cons de_str (da_cons de_str da_nil))))))))))))))))
  (dss_one (ds_ret (dc_call c__law_pick (hr.mono (by omega)) hgd (by rfl) (da_cons (dv 0) (da_cons (de_add (dv 1) (de_lst (da_cons de_str (da_cons de_str da_nil)))) da_nil))))))
abbrev s__law_is_name : Stmt := top 26
abbrev N__law_is_name : List Str := ["_law_thing", "_law_letters", "_law_one"]
theorem sc__law_is_name : FnScope N__law_is_name ["_law_thing"] (defScope s__law_is_name) := ⟨rfl, rfl, rfl, by decide +kernel, rfl, by decide +kernel, by decide +kernel⟩
theorem d__law_is_name {cA : Nat → Addr} {P : Program} {w : World} {K : PySem.W.Frag} {mg : Str → Option Value} {base : Heap} {k : Nat} (kc : KCls K cA 1 subE) (b_isinstance : mg "isinstance" = none) (b_str : mg "str" = none) (b_len : mg "len" = none) : BodyD cA P w K mg base k "_law_is_name" s__law_is_name N__law_is_name (t__law_is_name) :=
  fun f cdv A outer s H hr hgd =>
  (dss_cons (ds_set (i := 1) sc__law_is_name.nd rfl (by first | exact Or.inl rfl | exact Or.inr rfl) de_str)
  (dss_one (ds_ret (de_and (de_isB (T := .str) kc (by rfl) b_isinstance (by rfl) b_str (by decide +kernel) (dv 0)) (de_and (de_chain op_lt op_lt de_int (de_len (by rfl) b_len (dv 0)) de_int) (de_one (de_eq (hu64 hr) (de_lc (own := [("_law_one", 2)]) rfl sc__law_is_name.nd (di_any (dv 0)) (blkOk_by (own := [("_law_one", 2)]) (N := N__law_is_name) (sc := defScope s__law_is_name) (by decide +kernel)) (fun _ _ _ _ _ => (dg_name (i := 2) sc__law_is_name.nd rfl (by first | exact Or.inl rfl | exact Or.inr rfl))) (fun _ _ _ _ _ => (dts_one (dt_notIn (hu65 hr) (dv 2) (dv 1)))) (fun _ _ _ _ _ => de_int)) (de_lst da_nil))))))))
abbrev s__law_fits : Stmt := top 27
abbrev N__law_fits : List Str := ["_law_sort", "_law_value_here"]
theorem sc__law_fits : FnScope N__law_fits ["_law_sort", "_law_value_here"] (defScope s__law_fits) := ⟨rfl, rfl, rfl, by decide +kernel, rfl, by decide +kernel, by decide +kernel⟩
theorem d__law_fits {cA : Nat → Addr} {P : Program} {w : World} {K : PySem.W.Frag} {mg : Str → Option Value} {base : Heap} {k : Nat} {k__law_is_name : Nat} {ps__law_is_name : List Str} {_law_is_name : DSp} (c__law_is_name : Cal cA P w K mg base k__law_is_name "_law_is_name" ps__law_is_name _law_is_name) (kc : KCls K cA 1 subE) (b_isinstance : mg "isinstance" = none) (b_int : mg "int" = none) (b_bool : mg "bool" = none) (le__law_is_name : k__law_is_name ≤ k) : BodyD cA P w K mg base k "_law_fits" s__law_fits N__law_fits (t__law_fits _law_is_name) :=
  fun f cdv A outer s H hr hgd =>
  (dss_cons (ds_if (dt_eq (hu64 hr) (dv 0) de_str)
  (dss_one (ds_ret (dc_call c__law_is_name (hr.mono (by omega)) hgd (by rfl) (da_cons (dv 1) da_nil))))
  dss_nil)
  (dss_one (ds_ret (de_and (de_isB (T := .int) kc (by rfl) b_isinstance (by rfl) b_int (by decide +kernel) (dv 1)) (de_one (de_not (de_isB (T := .bool) kc (by rfl) b_isinstance (by rfl) b_bool (by decide +kernel) (dv 1))))))))
abbrev s__law_param_wrong : Stmt := top 28
abbrev N__law_param_wrong : List Str := ["_law_lots", "_law_wide", "_law_spot", "_law_kept", "_law_name", "_law_sort", "_law_default", "_law_one"]
theorem sc__law_param_wrong : FnScope N__law_param_wrong ["_law_lots", "_law_wide", "_law_spot"] (defScope s__law_param_wrong) := ⟨rfl, rfl, rfl, by decide +kernel, rfl, by decide +kernel, by decide +kernel⟩
theorem d__law_param_wrong {cA : Nat → Addr} {P : Program} {w : World} {K : PySem.W.Frag} {mg : Str → Option Value} {base : Heap} {k : Nat} {k__law_is_name : Nat} {ps__law_is_name : List Str} {_law_is_name : DSp} (c__law_is_name : Cal cA P w K mg base k__law_is_name "_law_is_name" ps__law_is_name _law_is_name) {k__law_fits : Nat} {ps__law_fits : List Str} {_law_fits : DSp} (c__law_fits : Cal cA P w K mg base k__law_fits "_law_fits" ps__law_fits _law_fits) (le__law_is_name : k__law_is_name ≤ k) (le__law_fits : k__law_fits ≤ k) : BodyD cA P w K mg base k "_law_param_wrong" s__law_param_wrong N__law_param_wrong (t__law_param_wrong _law_is_name _law_fits) :=
  fun f cdv A outer s H hr hgd =>
  (dss_cons (ds_set (i := 3) sc__law_param_wrong.nd rfl (by first | exact Or.inl rfl | exact Or.inr rfl) (de_split (by decide +kernel) de_str))
  (dss_cons (ds_asg (js := [4, 5, 6]) (de_ix (hu1 hr) (dv 0) (dv 2)) (dg_tup rfl (dgs_cons (dg_name (i := 4) sc__law_param_wrong.nd rfl (by first | exact Or.inl rfl | exact Or.inr rfl)) (dgs_cons (dg_name (i := 5) sc__law_param_wrong.nd rfl (by first | exact Or.inl rfl | exact Or.inr rfl)) (dgs_cons (dg_name (i := 6) sc__law_param_wrong.nd rfl (by first | exact Or.inl rfl | exact Or.inr rfl)) dgs_nil)))))
  (dss_cons (ds_if (dt_w (dw_or (dt_not (dt_val (dc_call c__law_is_name (hr.mono (by omega)) hgd (by rfl) (da_cons (dv 4) da_nil)))) (dw_or1 (dt_in (hu65 hr) (dv 4) (dv 3)))))
  (dss_one (ds_ret de_str))
  dss_nil)
  (dss_cons (ds_if (dt_in (hu65 hr) (dv 4) (de_lc (own := [("_law_one", 7)]) rfl sc__law_param_wrong.nd (di_any (de_slice (dv 0) do_none (do_some (dv 2)))) (blkOk_by (own := [("_law_one", 7)]) (N := N__law_param_wrong) (sc := defScope s__law_param_wrong) (by decide +kernel)) (fun _ _ _ _ _ => (dg_name (i := 7) sc__law_param_wrong.nd rfl (by first | exact Or.inl rfl | exact Or.inr rfl))) (fun _ _ _ _ _ => dts_nil) (fun _ _ _ _ _ => (de_ix (hu1 hr) (dv 7) de_int))))
  (dss_one (ds_ret de_str))
  dss_nil)
  (dss_cons (ds_if (dt_notIn (hu65 hr) (dv 5) (de_tup (da_cons de_str (da_cons de_str da_nil))))
  (dss_one (ds_ret de_str))
  dss_nil)
  (dss_cons (ds_if (dt_w (dw_and (dt_notN  (dv 6) de_non) (dw_and1 (dt_not (dt_val (dc_call c__law_fits (hr.mono (by omega)) hgd (by rfl) (da_cons (dv 5) (da_cons (dv 6) da_nil))))))))
  (dss_one (ds_ret de_str))
  dss_nil)
  (dss_cons (ds_if (dt_w (dw_and (dt_lt  (dv 2) (dv 1)) (dw_and (dt_isN  (dv 6) de_non) (dw_and1 (dt_ne (hu64 hr) (de_lc (own := [("_law_one", 7)]) rfl sc__law_param_wrong.nd (di_any (de_slice (dv 0) do_none (do_some (dv 2)))) (blkOk_by (own := [("_law_one", 7)]) (N := N__law_param_wrong) (sc := defScope s__law_param_wrong) (by decide +kernel)) (fun _ _ _ _ _ => (dg_name (i := 7) sc__law_param_wrong.nd rfl (by first | exact Or.inl rfl | exact Or.inr rfl))) (fun _ _ _ _ _ => (dts_one (dt_notN  (de_ix (hu1 hr) (dv 7) de_int) de_non))) (fun _ _ _ _ _ => de_int)) (de_lst da_nil))))))
  (dss_one (ds_ret de_str))
  dss_nil)
  (dss_one (ds_ret de_non)))))))))
abbrev s__law_wrong : Stmt := top 29
abbrev N__law_wrong : List Str := ["_law_model", "_law_name", "_law_kind", "_law_some", "_law_more", "_law_outs", "_law_lots", "_law_spot", "_law_word"]
theorem sc__law_wrong : FnScope N__law_wrong ["_law_model"] (defScope s__law_wrong) := ⟨rfl, rfl, rfl, by decide +kernel, rfl, by decide +kernel, by decide +kernel⟩
theorem d__law_wrong {cA : Nat → Addr} {P : Program} {w : World} {K : PySem.W.Frag} {mg : Str → Option Value} {base : Heap} {k : Nat} {k__law_is_name : Nat} {ps__law_is_name : List Str} {_law_is_name : DSp} (c__law_is_name : Cal cA P w K mg base k__law_is_name "_law_is_name" ps__law_is_name _law_is_name) {k__law_param_wrong : Nat} {ps__law_param_wrong : List Str} {_law_param_wrong : DSp} (c__law_param_wrong : Cal cA P w K mg base k__law_param_wrong "_law_param_wrong" ps__law_param_wrong _law_param_wrong) (b_len : mg "len" = none) (b_range : mg "range" = none) (le__law_is_name : k__law_is_name ≤ k) (le__law_param_wrong : k__law_param_wrong ≤ k) : BodyD cA P w K mg base k "_law_wrong" s__law_wrong N__law_wrong (t__law_wrong _law_is_name _law_param_wrong) :=
  fun f cdv A outer s H hr hgd =>
  (dss_cons (ds_asg (js := [1, 2, 3, 4, 5]) (dv 0) (dg_tup rfl (dgs_cons (dg_name (i := 1) sc__law_wrong.nd rfl (by first | exact Or.inl rfl | exact Or.inr rfl)) (dgs_cons (dg_name (i := 2) sc__law_wrong.nd rfl (by first | exact Or.inl rfl | exact Or.inr rfl)) (dgs_cons (dg_name (i := 3) sc__law_wrong.nd rfl (by first | exact Or.inl rfl | exact Or.inr rfl)) (dgs_cons (dg_name (i := 4) sc__law_wrong.nd rfl (by first | exact Or.inl rfl | exact Or.inr rfl)) (dgs_cons (dg_name (i := 5) sc__law_wrong.nd rfl (by first | exact Or.inl rfl | exact Or.inr rfl)) dgs_nil)))))))
  (dss_cons (ds_if (dt_not (dt_val (dc_call c__law_is_name (hr.mono (by omega)) hgd (by rfl) (da_cons (dv 1) da_nil))))
  (dss_one (ds_ret (de_tup (da_cons de_str (da_cons (dv 1) da_nil)))))
  dss_nil)
  (dss_cons (ds_if (dt_notIn (hu65 hr) (dv 2) (de_tup (da_cons de_str (da_cons de_str (da_cons de_str da_nil)))))
  (dss_one (ds_ret (de_tup (da_cons de_str (da_cons (dv 1) da_nil)))))
  dss_nil)
  (dss_cons (ds_set (i := 6) sc__law_wrong.nd rfl (by first | exact Or.inl rfl | exact Or.inr rfl) (de_add (dv 3) (dv 4)))
  (dss_cons (ds_for (js := [7]) PassesOwn.never rfl (di_range1 (by rfl) b_range (de_len (by rfl) b_len (dv 6))) (dg_name (i := 7) sc__law_wrong.nd rfl (by first | exact Or.inl rfl | exact Or.inr rfl))
  (dss_cons (ds_set (i := 8) sc__law_wrong.nd rfl (by first | exact Or.inl rfl | exact Or.inr rfl) (dc_call c__law_param_wrong (hr.mono (by omega)) hgd (by rfl) (da_cons (dv 6) (da_cons (de_len (by rfl) b_len (dv 3)) (da_cons (dv 7) da_nil)))))
  (dss_one (ds_if (dt_notN  (dv 8) de_non)
  (dss_one (ds_ret (de_tup (da_cons (dv 8) (da_cons (de_ix (hu1 hr) (de_ix (hu1 hr) (dv 6) (dv 7)) de_int) da_nil)))))
  dss_nil))))
  (dss_cons (ds_if (dt_gt  (de_len (by rfl) b_len (dv 6)) de_int)
  (dss_one (ds_ret (de_tup (da_cons de_str (da_cons (dv 1) da_nil)))))
  dss_nil)
  (dss_cons (ds_if (dt_w (dw_and (dt_eq (hu64 hr) (dv 2) de_str) (dw_and1 (dt_w (dw_or (dt_eq (hu64 hr) (dv 3) (de_lst da_nil)) (dw_or1 (dt_notN  (de_ix (hu1 hr) (de_ix (hu1 hr) (dv 3) de_int) de_int) de_non)))))))
  (dss_one (ds_ret (de_tup (da_cons de_str (da_cons (dv 1) da_nil)))))
  dss_nil)
  (dss_cons (ds_if (dt_w (dw_or (dt_notIn (hu65 hr) (dv 5) (de_tup (da_cons de_str (da_cons de_str da_nil)))) (dw_or1 (dt_w (dw_and (dt_eq (hu64 hr) (dv 2) de_str) (dw_and1 (dt_ne (hu64 hr) (dv 5) (de_ix (hu1 hr) (de_ix (hu1 hr) (dv 3) de_int) de_int))))))))
  (dss_one (ds_ret (de_tup (da_cons de_str (da_cons (dv 1) da_nil)))))
  dss_nil)
  (dss_one (ds_ret de_non))))))))))
abbrev s__law_spoilt : Stmt := top 30
abbrev N__law_spoilt : List Str := ["_law_box_here", "_law_model", "_law_name", "_law_kind", "_law_some", "_law_more", "_law_outs", "_law_form", "_law_lots", "_law_wide", "_law_spot", "_law_own"]
theorem sc__law_spoilt : FnScope N__law_spoilt ["_law_box_here", "_law_model"] (defScope s__law_spoilt) := ⟨rfl, rfl, rfl, by decide +kernel, rfl, by decide +kernel, by decide +kernel⟩
theorem d__law_spoilt {cA : Nat → Addr} {P : Program} {w : World} {K : PySem.W.Frag} {mg : Str → Option Value} {base : Heap} {k : Nat} {k__law_take : Nat} {ps__law_take : List Str} {_law_take : DSp} (c__law_take : Cal cA P w K mg base k__law_take "_law_take" ps__law_take _law_take) {k__law_odd : Nat} {ps__law_odd : List Str} {_law_odd : DSp} (c__law_odd : Cal cA P w K mg base k__law_odd "_law_odd" ps__law_odd _law_odd) {k__law_pick : Nat} {ps__law_pick : List Str} {_law_pick : DSp} (c__law_pick : Cal cA P w K mg base k__law_pick "_law_pick" ps__law_pick _law_pick) {k__law_names : Nat} {ps__law_names : List Str} {_law_names : DSp} (c__law_names : Cal cA P w K mg base k__law_names "_law_names" ps__law_names _law_names) (b_len : mg "len" = none) (le__law_take : k__law_take ≤ k) (le__law_odd : k__law_odd ≤ k) (le__law_pick : k__law_pick ≤ k) (le__law_names : k__law_names ≤ k) : BodyD cA P w K mg base k "_law_spoilt" s__law_spoilt N__law_spoilt (t__law_spoilt _law_take _law_odd _law_pick _law_names) :=
  fun f cdv A outer s H hr hgd =>
  (dss_cons (ds_asg (js := [2, 3, 4, 5, 6]) (dv 1) (dg_tup rfl (dgs_cons (dg_name (i := 2) sc__law_spoilt.nd rfl (by first | exact Or.inl rfl | exact Or.inr rfl)) (dgs_cons (dg_name (i := 3) sc__law_spoilt.nd rfl (by first | exact Or.inl rfl | exact Or.inr rfl)) (dgs_cons (dg_name (i := 4) sc__law_spoilt.nd rfl (by first | exact Or.inl rfl | exact Or.inr rfl)) (dgs_cons (dg_name (i := 5) sc__law_spoilt.nd rfl (by first | exact Or.inl rfl | exact Or.inr rfl)) (dgs_cons (dg_name (i := 6) sc__law_spoilt.nd rfl (by first | exact Or.inl rfl | exact Or.inr rfl)) dgs_nil)))))))
  (dss_cons (ds_par3 (i := 7) (j := 8) (l := 9) rfl sc__law_spoilt.nd rfl rfl rfl (by decide) (by decide) (by decide) rfl rfl rfl (da_cons (dc_call c__law_take (hr.mono (by omega)) hgd (by rfl) (da_cons (dv 0) (da_cons de_int da_nil))) (da_cons (de_add (dv 4) (dv 5)) (da_cons (de_len (by rfl) b_len (dv 4)) da_nil))) rfl)
  (dss_cons (ds_if (dt_eq (hu64 hr) (dv 7) de_int)
  (dss_one (ds_ret (de_tup (da_cons (dc_call c__law_odd (hr.mono (by omega)) hgd (by rfl) (da_cons (dv 0) da_nil)) (da_cons (dv 3) (da_cons (dv 4) (da_cons (dv 5) (da_cons (dv 6) da_nil))))))))
  dss_nil)
  (dss_cons (ds_if (dt_eq (hu64 hr) (dv 7) de_int)
  (dss_one (ds_ret (de_tup (da_cons (dv 2) (da_cons (dc_call c__law_pick (hr.mono (by omega)) hgd (by rfl) (da_cons (dv 0) (da_cons (de_lst (da_cons de_str (da_cons de_str (da_cons de_str (da_cons de_str da_nil))))) da_nil))) (da_cons (dv 4) (da_cons (dv 5) (da_cons (dv 6) da_nil))))))))
  dss_nil)
  (dss_cons (ds_if (dt_eq (hu64 hr) (dv 7) de_int)
  (dss_one (ds_ret (de_tup (da_cons (dv 2) (da_cons (dv 3) (da_cons (dv 4) (da_cons (dv 5) (da_cons (dc_call c__law_pick (hr.mono (by omega)) hgd (by rfl) (da_cons (dv 0) (da_cons (de_lst (da_cons de_str (da_cons de_str (da_cons de_str da_nil)))) da_nil))) da_nil))))))))
  dss_nil)
  (dss_cons (ds_if (dt_eq (hu64 hr) (dv 7) de_int)
  (dss_one (ds_ret (de_tup (da_cons (dv 2) (da_cons (dv 3) (da_cons (dv 5) (da_cons (dv 4) (da_cons (dv 6) da_nil))))))))
  dss_nil)
  (dss_cons (ds_if (dt_w (dw_or (dt_eq (hu64 hr) (dv 7) de_int) (dw_or1 (dt_eq (hu64 hr) (dv 8) (de_lst da_nil)))))
  (dss_cons (ds_set (i := 8) sc__law_spoilt.nd rfl (by first | exact Or.inl rfl | exact Or.inr rfl) (de_add (dv 8) (de_lst (da_cons (de_tup (da_cons (de_ix (hu1 hr) (dc_call c__law_names (hr.mono (by omega)) hgd (by rfl) (da_cons (dv 0) (da_cons de_int da_nil))) de_int) (da_cons de_str (da_cons (dc_call c__law_pick (hr.mono (by omega)) hgd (by rfl) (da_cons (dv 0) (da_cons (de_lst (da_cons de_non (da_cons de_int da_nil))) da_nil))) da_nil)))) da_nil))))
  (dss_one (ds_ret (de_tup (da_cons (dv 2) (da_cons (dv 3) (da_cons (de_slice (dv 8) do_none (do_some (dv 9))) (da_cons (de_slice (dv 8) (do_some (dv 9)) do_none) (da_cons (dv 6) da_nil)))))))))
  dss_nil)
  (dss_cons (ds_set (i := 10) sc__law_spoilt.nd rfl (by first | exact Or.inl rfl | exact Or.inr rfl) (dc_call c__law_take (hr.mono (by omega)) hgd (by rfl) (da_cons (dv 0) (da_cons (de_len (by rfl) b_len (dv 8)) da_nil))))
  (dss_cons (ds_set (i := 11) sc__law_spoilt.nd rfl (by first | exact Or.inl rfl | exact Or.inr rfl) (de_ix (hu1 hr) (dv 8) (dv 10)))
  (dss_cons (ds_if (dt_eq (hu64 hr) (dv 7) de_int)
  (dss_one (ds_set (i := 11) sc__law_spoilt.nd rfl (by first | exact Or.inl rfl | exact Or.inr rfl) (de_tup (da_cons (dc_call c__law_odd (hr.mono (by omega)) hgd (by rfl) (da_cons (dv 0) da_nil)) (da_cons (de_ix (hu1 hr) (dv 11) de_int) (da_cons (de_ix (hu1 hr) (dv 11) de_int) da_nil))))))
  (dss_one (ds_if (dt_eq (hu64 hr) (dv 7) de_int)
  (dss_one (ds_set (i := 11) sc__law_spoilt.nd rfl (by first | exact Or.inl rfl | exact Or.inr rfl) (de_tup (da_cons (de_ix (hu1 hr) (de_ix (hu1 hr) (dv 8) (dc_call c__law_take (hr.mono (by omega)) hgd (by rfl) (da_cons (dv 0) (da_cons (de_len (by rfl) b_len (dv 8)) da_nil)))) de_int) (da_cons (de_ix (hu1 hr) (dv 11) de_int) (da_cons (de_ix (hu1 hr) (dv 11) de_int) da_nil))))))
  (dss_one (ds_if (dt_eq (hu64 hr) (dv 7) de_int)
  (dss_one (ds_set (i := 11) sc__law_spoilt.nd rfl (by first | exact Or.inl rfl | exact Or.inr rfl) (de_tup (da_cons (de_ix (hu1 hr) (dv 11) de_int) (da_cons (dc_call c__law_pick (hr.mono (by omega)) hgd (by rfl) (da_cons (dv 0) (da_cons (de_lst (da_cons de_str (da_cons de_str (da_cons de_str da_nil)))) da_nil))) (da_cons (de_ix (hu1 hr) (dv 11) de_int) da_nil))))))
  (dss_one (ds_set (i := 11) sc__law_spoilt.nd rfl (by first | exact Or.inl rfl | exact Or.inr rfl) (de_tup (da_cons (de_ix (hu1 hr) (dv 11) de_int) (da_cons (de_ix (hu1 hr) (dv 11) de_int) (da_cons (dc_call c__law_pick (hr.mono (by omega)) hgd (by rfl) (da_cons (dv 0) (da_cons (de_lst (da_cons de_non (da_cons de_int (da_cons de_str (da_cons de_bl (da_cons de_str (da_cons (de_neg de_int) (da_cons de_str (da_cons de_str da_nil))))))))) da_nil))) da_nil)))))))))))
  (dss_cons (ds_set (i := 8) sc__law_spoilt.nd rfl (by first | exact Or.inl rfl | exact Or.inr rfl) (de_add (de_add (de_slice (dv 8) do_none (do_some (dv 10))) (de_lst (da_cons (dv 11) da_nil))) (de_slice (dv 8) (do_some (de_add (dv 10) de_int)) do_none)))
  (dss_one (ds_ret (de_tup (da_cons (dv 2) (da_cons (dv 3) (da_cons (de_slice (dv 8) do_none (do_some (dv 9))) (da_cons (de_slice (dv 8) (do_some (dv 9)) do_none) (da_cons (dv 6) da_nil)))))))))))))))))))
abbrev s__law_heard_of : Stmt := top 31
abbrev N__law_heard_of : List Str := ["_law_model", "_law_found", "e"]
theorem sc__law_heard_of : FnScope N__law_heard_of ["_law_model"] (defScope s__law_heard_of) := ⟨rfl, rfl, rfl, by decide +kernel, rfl, by decide +kernel, by decide +kernel⟩
theorem d__law_heard_of {cA cE : Nat → Addr} {P : Program} {w : World} {K : PySem.W.Frag} {mg : Str → Option Value} {base : Heap} {k : Nat} {k_Hook : Nat} {ps_Hook : List Str} {n_Hook : DSp} (c_Hook : CalNX cA cE P w K mg base k_Hook "Hook" ps_Hook n_Hook shs_Hook) {CH_InvalidHook : Addr} (t_InvalidHook : ExT K mg cE 0 "InvalidHook" "HookError" CH_InvalidHook ["word", "name"]) (b_isinstance : mg "isinstance" = none) (le_Hook : k_Hook + 1 ≤ k) : BodyD cA P w K mg base k "_law_heard_of" s__law_heard_of N__law_heard_of (t__law_heard_of n_Hook) :=
  fun f cdv A outer s H hr hgd =>
  (dss_cons (ds_set (i := 1) sc__law_heard_of.nd rfl (by first | exact Or.inl rfl | exact Or.inr rfl) de_non)
  (dss_cons (ds_try (i := 2) (c0 := 0) rfl rfl sc__law_heard_of.nd rfl rfl ⟨by rfl, by decide, .inl t_InvalidHook.nm⟩ t_InvalidHook.ex
  (fun W Xd pn xe tkx hp => dzs_one (dz_expr (dx_new (sh := ⟨3, ["only", "gives"], [0, 1, 2, 3, 4], []⟩) tkx c_Hook (.head _) (hr.mono (by omega)) hgd (by rfl) (da_cons (de_ix (hu1 hr) (dv 0) de_int) (da_cons (de_ix (hu1 hr) (dv 0) de_int) (da_cons (de_ix (hu1 hr) (dv 0) de_int) da_nil))) (dk_cons (de_ix (hu1 hr) (dv 0) de_int) (dk_cons (de_ix (hu1 hr) (dv 0) de_int) dk_nil)))))
  (su_set (j := 1) sc__law_heard_of.nd rfl (by first | exact Or.inl rfl | exact Or.inr rfl) (fun a oe dd fs pn hz hv => (du_if kf_su (dut_val (du_isE t_InvalidHook.xc t_InvalidHook.kh hz hv (by rfl) b_isinstance (by rfl) t_InvalidHook.nh rfl (by first | exact Or.inl rfl | exact Or.inr (Or.inl rfl) | exact Or.inr (Or.inr rfl)) (by decide) (by decide))) (du_tup (dua_cons kf_su (du_fld t_InvalidHook.xf (t_InvalidHook.no _ (.head _)) hz hv rfl (by first | exact Or.inl rfl | exact Or.inr (Or.inl rfl) | exact Or.inr (Or.inr rfl)) (by decide) (by decide)) (dua_cons kf_su (du_fld t_InvalidHook.xf (t_InvalidHook.no _ (.tail _ (.head _))) hz hv rfl (by first | exact Or.inl rfl | exact Or.inr (Or.inl rfl) | exact Or.inr (Or.inr rfl)) (by decide) (by decide)) dua_nil))) (du_of de_str)))))
  (dss_one (ds_ret (dv 1)))))
abbrev s_law : Stmt := top 32
abbrev N_law : List Str := ["_law_script", "_law_box_here", "_law_turn", "_law_name", "_law_model", "_law_times"]
theorem sc_law : FnScope N_law ["_law_script"] (defScope s_law) := ⟨rfl, rfl, rfl, by decide +kernel, rfl, by decide +kernel, by decide +kernel⟩
theorem d_law {cA : Nat → Addr} {P : Program} {w : World} {K : PySem.W.Frag} {mg : Str → Option Value} {base : Heap} {k : Nat} {k__law_box : Nat} {ps__law_box : List Str} {_law_box : DSp} (c__law_box : Cal cA P w K mg base k__law_box "_law_box" ps__law_box _law_box) {k__law_names : Nat} {ps__law_names : List Str} {_law_names : DSp} (c__law_names : Cal cA P w K mg base k__law_names "_law_names" ps__law_names _law_names) {k__law_take : Nat} {ps__law_take : List Str} {_law_take : DSp} (c__law_take : Cal cA P w K mg base k__law_take "_law_take" ps__law_take _law_take) {k__law_hook : Nat} {ps__law_hook : List Str} {_law_hook : DSp} (c__law_hook : Cal cA P w K mg base k__law_hook "_law_hook" ps__law_hook _law_hook) {k__law_pick : Nat} {ps__law_pick : List Str} {_law_pick : DSp} (c__law_pick : Cal cA P w K mg base k__law_pick "_law_pick" ps__law_pick _law_pick) {k__law_spoilt : Nat} {ps__law_spoilt : List Str} {_law_spoilt : DSp} (c__law_spoilt : Cal cA P w K mg base k__law_spoilt "_law_spoilt" ps__law_spoilt _law_spoilt) {k__law_heard_of : Nat} {ps__law_heard_of : List Str} {_law_heard_of : DSp} (c__law_heard_of : Cal cA P w K mg base k__law_heard_of "_law_heard_of" ps__law_heard_of _law_heard_of) {k__law_wrong : Nat} {ps__law_wrong : List Str} {_law_wrong : DSp} (c__law_wrong : Cal cA P w K mg base k__law_wrong "_law_wrong" ps__law_wrong _law_wrong) (b_range : mg "range" = none) (b_repr : mg "repr" = none) (le__law_box : k__law_box ≤ k) (le__law_names : k__law_names ≤ k) (le__law_take : k__law_take ≤ k) (le__law_hook : k__law_hook ≤ k) (le__law_pick : k__law_pick ≤ k) (le__law_spoilt : k__law_spoilt ≤ k) (le__law_heard_of : k__law_heard_of ≤ k) (le__law_wrong : k__law_wrong ≤ k) : BodyD cA P w K mg base k "law" s_law N_law (t_law _law_box _law_names _law_take _law_hook _law_pick _law_spoilt _law_heard_of _law_wrong) :=
  fun f cdv A outer s H hr hgd =>
  (dss_cons (ds_set (i := 1) sc_law.nd rfl (by first | exact Or.inl rfl | exact Or.inr rfl) (dc_call c__law_box (hr.mono (by omega)) hgd (by rfl) (da_cons (dv 0) (da_cons de_int da_nil))))
  (dss_cons (ds_for (js := [2]) PassesOwn.never rfl (di_range1 (by rfl) b_range de_int) (dg_name (i := 2) sc_law.nd rfl (by first | exact Or.inl rfl | exact Or.inr rfl))
  (dss_cons (ds_set (i := 3) sc_law.nd rfl (by first | exact Or.inl rfl | exact Or.inr rfl) (de_ix (hu1 hr) (dc_call c__law_names (hr.mono (by omega)) hgd (by rfl) (da_cons (dv 1) (da_cons de_int da_nil))) (dc_call c__law_take (hr.mono (by omega)) hgd (by rfl) (da_cons (dv 1) (da_cons de_int da_nil)))))
  (dss_cons (ds_set (i := 4) sc_law.nd rfl (by first | exact Or.inl rfl | exact Or.inr rfl) (dc_call c__law_hook (hr.mono (by omega)) hgd (by rfl) (da_cons (dv 1) (da_cons (dv 3) (da_cons (dc_call c__law_pick (hr.mono (by omega)) hgd (by rfl) (da_cons (dv 1) (da_cons (de_lst (da_cons de_str (da_cons de_str (da_cons de_str da_nil)))) da_nil))) da_nil)))))
  (dss_cons (ds_for (js := [5]) PassesOwn.never rfl (di_range1 (by rfl) b_range (dc_call c__law_take (hr.mono (by omega)) hgd (by rfl) (da_cons (dv 1) (da_cons de_int da_nil)))) (dg_name (i := 5) sc_law.nd rfl (by first | exact Or.inl rfl | exact Or.inr rfl))
  (dss_one (ds_set (i := 4) sc_law.nd rfl (by first | exact Or.inl rfl | exact Or.inr rfl) (dc_call c__law_spoilt (hr.mono (by omega)) hgd (by rfl) (da_cons (dv 1) (da_cons (dv 4) da_nil))))))
  (dss_one (ds_if (dt_ne (hu64 hr) (de_reprN hgd (hu70 hr) (by rfl) b_repr (dc_call c__law_heard_of (hr.mono (by omega)) hgd (by rfl) (da_cons (dv 4) da_nil))) (de_reprN hgd (hu70 hr) (by rfl) b_repr (dc_call c__law_wrong (hr.mono (by omega)) hgd (by rfl) (da_cons (dv 4) da_nil))))
  (dss_one (ds_ret de_bl))
  dss_nil))))))
  (dss_one (ds_ret de_bl))))
end TL
namespace TL
open PySem PySem.Spec PyProof.Rows L2
theorem ch__law_take {cA cE : Nat → Addr} {P : Program} {w : World} {K : PySem.W.Frag} {mg : Str → Option Value} {base : Heap} (W__law_take : FnW K mg "_law_take" s__law_take ["_law_box_here", "_law_many"]) (b_len : mg "len" = none) : Cal cA P w K mg base 1 "_law_take" ["_law_box_here", "_law_many"] spTake :=
  (W__law_take.cal (sp := spTakeO) sc__law_take (by intro ds st Q E h; unfold spTakeO at h; (repeat (obtain ⟨_, h⟩ := h)); all_goals (subst_vars; rfl)) (d__law_take b_len) (by rintro ds s0 Q ⟨n, m, gs, now, seed, turn, many, rfl, h1, h2, h3, h4, h5, q⟩; exact rd_take h1 h2 h3 h4 h5 q)).take rfl
theorem ch__law_box {cA cE : Nat → Addr} {P : Program} {w : World} {K : PySem.W.Frag} {mg : Str → Option Value} {base : Heap} (W__law_box : FnW K mg "_law_box" s__law_box ["_law_script", "_law_base"]) (b_abs : mg "abs" = none) : Cal cA P w K mg base 1 "_law_box" ["_law_script", "_law_base"] spBox :=
  (W__law_box.cal (sp := spBoxO) sc__law_box (by intro ds st Q E h; unfold spBoxO at h; (repeat (obtain ⟨_, h⟩ := h)); all_goals (subst_vars; rfl)) (d__law_box b_abs) (by rintro ds s0 Q ⟨ns, b, rfl, _, _, q⟩; exact rd_box q)).box rfl
theorem ch__law_pick {cA cE : Nat → Addr} {P : Program} {w : World} {K : PySem.W.Frag} {mg : Str → Option Value} {base : Heap} (W__law_pick : FnW K mg "_law_pick" s__law_pick ["_law_box_here", "_law_items"]) (c__law_take : Cal cA P w K mg base 1 "_law_take" ["_law_box_here", "_law_many"] spTake) (b_len : mg "len" = none) : Cal cA P w K mg base 2 "_law_pick" ["_law_box_here", "_law_items"] spPick :=
  W__law_pick.cal (sp := spPick) sc__law_pick (by intro ds st Q E h; unfold spPick at h; (repeat (obtain ⟨_, h⟩ := h)); all_goals (subst_vars; rfl)) (d__law_pick c__law_take b_len (by omega)) (by rintro ds s0 Q ⟨n, d, xs, rfl, h1, h2, h3, h4, q⟩; exact rd_pick h1 h2 h3 h4 q)
theorem ch__law_mixed {cA cE : Nat → Addr} {P : Program} {w : World} {K : PySem.W.Frag} {mg : Str → Option Value} {base : Heap} (W__law_mixed : FnW K mg "_law_mixed" s__law_mixed ["_law_box_here", "_law_items"]) (c__law_take : Cal cA P w K mg base 1 "_law_take" ["_law_box_here", "_law_many"] spTake) (b_list : mg "list" = none) (b_len : mg "len" = none) (b_range : mg "range" = none) : Cal cA P w K mg base 2 "_law_mixed" ["_law_box_here", "_law_items"] spMixed :=
  W__law_mixed.cal (sp := spMixed) sc__law_mixed (by intro ds st Q E h; unfold spMixed at h; (repeat (obtain ⟨_, h⟩ := h)); all_goals (subst_vars; rfl)) (d__law_mixed c__law_take b_list b_len b_range (by omega)) (by rintro ds s0 Q ⟨n, d, xs, rfl, h1, h2, h3, q⟩; exact rd_mixed h1 h2 h3 q)
theorem ch__law_names {cA cE : Nat → Addr} {P : Program} {w : World} {K : PySem.W.Frag} {mg : Str → Option Value} {base : Heap} (W__law_names : FnW K mg "_law_names" s__law_names ["_law_box_here", "_law_many"]) (c__law_take : Cal cA P w K mg base 1 "_law_take" ["_law_box_here", "_law_many"] spTake) (c__law_mixed : Cal cA P w K mg base 2 "_law_mixed" ["_law_box_here", "_law_items"] spMixed) (b_range : mg "range" = none) (b_len : mg "len" = none) (b_enumerate : mg "enumerate" = none) : Cal cA P w K mg base 3 "_law_names" ["_law_box_here", "_law_many"] spNames :=
  W__law_names.cal (sp := spNames) sc__law_names (by intro ds st Q E h; unfold spNames at h; (repeat (obtain ⟨_, h⟩ := h)); all_goals (subst_vars; rfl)) (d__law_names c__law_take c__law_mixed b_range b_len b_enumerate (by omega) (by omega)) (by rintro ds s0 Q ⟨n, many, rfl, h1, h2, h3, q⟩; exact rd_names h1 h2 h3 q)
theorem ch__law_value {cA cE : Nat → Addr} {P : Program} {w : World} {K : PySem.W.Frag} {mg : Str → Option Value} {base : Heap} (W__law_value : FnW K mg "_law_value" s__law_value ["_law_box_here", "_law_sort"]) (c__law_pick : Cal cA P w K mg base 2 "_law_pick" ["_law_box_here", "_law_items"] spPick) (c__law_take : Cal cA P w K mg base 1 "_law_take" ["_law_box_here", "_law_many"] spTake) : Cal cA P w K mg base 3 "_law_value" ["_law_box_here", "_law_sort"] spValue :=
  W__law_value.cal (sp := spValue) sc__law_value (by intro ds st Q E h; unfold spValue at h; (repeat (obtain ⟨_, h⟩ := h)); all_goals (subst_vars; rfl)) (d__law_value c__law_pick c__law_take (by omega) (by omega)) (by rintro ds s0 Q ⟨n, sort, rfl, h1, h2, q⟩; exact rd_value h1 h2 q)
theorem ch__law_hook {cA cE : Nat → Addr} {P : Program} {w : World} {K : PySem.W.Frag} {mg : Str → Option Value} {base : Heap} (W__law_hook : FnW K mg "_law_hook" s__law_hook ["_law_box_here", "_law_name", "_law_kind"]) (c__law_names : Cal cA P w K mg base 3 "_law_names" ["_law_box_here", "_law_many"] spNames) (c__law_take : Cal cA P w K mg base 1 "_law_take" ["_law_box_here", "_law_many"] spTake) (c__law_pick : Cal cA P w K mg base 2 "_law_pick" ["_law_box_here", "_law_items"] spPick) (c__law_value : Cal cA P w K mg base 3 "_law_value" ["_law_box_here", "_law_sort"] spValue) (b_max : mg "max" = none) (b_range : mg "range" = none) : Cal cA P w K mg base 4 "_law_hook" ["_law_box_here", "_law_name", "_law_kind"] spHook :=
  W__law_hook.cal (sp := spHook) sc__law_hook (by intro ds st Q E h; unfold spHook at h; (repeat (obtain ⟨_, h⟩ := h)); all_goals (subst_vars; rfl)) (d__law_hook c__law_names c__law_take c__law_pick c__law_value b_max b_range (by omega) (by omega) (by omega) (by omega)) (by rintro ds s0 Q ⟨n, name, kind, rfl, h1, q⟩; exact rd_hook h1 q)
theorem ch_is_integer {cA cE : Nat → Addr} {P : Program} {w : World} {K : PySem.W.Frag} {mg : Str → Option Value} {base : Heap} (W_is_integer : FnW K mg "is_integer" s_is_integer ["thing"]) (kc : KCls K cA 1 subE) (b_isinstance : mg "isinstance" = none) (b_int : mg "int" = none) (b_bool : mg "bool" = none) : Cal cA P w K mg base 1 "is_integer" ["thing"] spIsInt :=
  W_is_integer.cal (sp := spIsInt) sc_is_integer (by intro ds st Q E h; unfold spIsInt at h; (repeat (obtain ⟨_, h⟩ := h)); all_goals (subst_vars; rfl)) (d_is_integer kc b_isinstance b_int b_bool) (by rintro ds s0 Q ⟨d, rfl, h, q⟩; exact rd_isInt h q)
theorem ch_is_name {cA cE : Nat → Addr} {P : Program} {w : World} {K : PySem.W.Frag} {mg : Str → Option Value} {base : Heap} (W_is_name : FnW K mg "is_name" s_is_name ["thing"]) {u_LETTERS : Value} (m_LETTERS : mg "LETTERS" = some u_LETTERS) (k_LETTERS : CRep K cA u_LETTERS kLETTERS) (kc : KCls K cA 1 subE) (b_isinstance : mg "isinstance" = none) (b_str : mg "str" = none) (b_len : mg "len" = none) (b_all : mg "all" = none) : Cal cA P w K mg base 1 "is_name" ["thing"] spIsName :=
  W_is_name.cal (sp := spIsName) sc_is_name (by intro ds st Q E h; unfold spIsName at h; (repeat (obtain ⟨_, h⟩ := h)); all_goals (subst_vars; rfl)) (d_is_name m_LETTERS k_LETTERS kc b_isinstance b_str b_len b_all) (by rintro ds s0 Q ⟨d, rfl, h, q⟩; exact rd_isName h q)
theorem ch_fits {cA cE : Nat → Addr} {P : Program} {w : World} {K : PySem.W.Frag} {mg : Str → Option Value} {base : Heap} (W_fits : FnW K mg "fits" s_fits ["sort", "thing"]) (c_is_integer : Cal cA P w K mg base 1 "is_integer" ["thing"] spIsInt) (c_is_name : Cal cA P w K mg base 1 "is_name" ["thing"] spIsName) : Cal cA P w K mg base 2 "fits" ["sort", "thing"] spFits :=
  W_fits.cal (sp := spFits) sc_fits (by intro ds st Q E h; unfold spFits at h; (repeat (obtain ⟨_, h⟩ := h)); all_goals (subst_vars; rfl)) (d_fits c_is_integer c_is_name (by omega) (by omega)) (by rintro ds s0 Q ⟨s, d, rfl, h, q⟩; exact rd_fits h q)
theorem ch_whole {cA cE : Nat → Addr} {P : Program} {w : World} {K : PySem.W.Frag} {mg : Str → Option Value} {base : Heap} (W_whole : FnW K mg "whole" s_whole ["param"]) (b_len : mg "len" = none) (b_tuple : mg "tuple" = none) : Cal cA P w K mg base 1 "whole" ["param"] spWhole3 :=
  W_whole.cal (sp := spWhole3) sc_whole (by intro ds st Q E h; unfold spWhole3 at h; (repeat (obtain ⟨_, h⟩ := h)); all_goals (subst_vars; rfl)) (d_whole b_len b_tuple) (by rintro ds s0 Q ⟨p, rfl, q⟩; exact rd_whole3 q)
theorem ch_Hook_look_param {cA cE : Nat → Addr} {P : Program} {w : World} {K : PySem.W.Frag} {mg : Str → Option Value} {base : Heap} (W_Hook_look_param : MeW K (cA 0) "look_param" "Hook.look_param" s_Hook_look_param ["self", "at"]) (c_is_name : Cal cA P w K mg base 1 "is_name" ["thing"] spIsName) (c_fits : Cal cA P w K mg base 2 "fits" ["sort", "thing"] spFits) (XA_InvalidHook : ExA K mg cE 0 "InvalidHook" ["word", "name"]) {u_KEPT : Value} (m_KEPT : mg "KEPT" = some u_KEPT) (k_KEPT : CRep K cA u_KEPT kKEPT) {u_SORTS : Value} (m_SORTS : mg "SORTS" = some u_SORTS) (k_SORTS : CRep K cA u_SORTS kSORTS) (kc : KCls K cA 1 subE) (f_only : FldK K cA "only" [0]) (f_params : FldK K cA "params" [0]) (f_names : FldK K cA "names" [0]) (b_len : mg "len" = none) : CalMX cA cE P w K mg base 3 0 "look_param" ["self", "at"] (spLookPs 0) :=
  W_Hook_look_param.calX (kc.cls 0 (by decide)) sc_Hook_look_param (by intro ds st Q E h; unfold spLookPs at h; (repeat (obtain ⟨_, h⟩ := h)); all_goals (subst_vars; rfl)) (d_Hook_look_param c_is_name c_fits (XA_InvalidHook _ _ _) m_KEPT k_KEPT m_SORTS k_SORTS f_only f_params f_names b_len (by omega) (by omega) (by omega)) (by rintro ds s0 Q Xd ⟨o, k, m, p, rfl, h1, h2, h3, h4, q⟩; exact rd_lookp h1 h2 h3 h4 q)
def pss_look_param : Nat → List Str := fun c => match c with
  | 0 => ["self", "at"]
  | _ => []
theorem ch_Hook_look {cA cE : Nat → Addr} {P : Program} {w : World} {K : PySem.W.Frag} {mg : Str → Option Value} {base : Heap} (W_Hook_look : MeW K (cA 0) "look" "Hook.look" s_Hook_look ["self"]) (c_is_name : Cal cA P w K mg base 1 "is_name" ["thing"] spIsName) (c_look_param : ∀ c ∈ [0], CalMX cA cE P w K mg base 3 c "look_param" (pss_look_param c) (spLookPs c)) (XA_InvalidHook : ExA K mg cE 0 "InvalidHook" ["word", "name"]) {u_KINDS : Value} (m_KINDS : mg "KINDS" = some u_KINDS) (k_KINDS : CRep K cA u_KINDS kKINDS) {u_SORTS : Value} (m_SORTS : mg "SORTS" = some u_SORTS) (k_SORTS : CRep K cA u_SORTS kSORTS) (kc : KCls K cA 1 subE) (f_name : FldK K cA "name" [0]) (f_kind : FldK K cA "kind" [0]) (f_names : FldK K cA "names" [0]) (f_params : FldK K cA "params" [0]) (f_gives : FldK K cA "gives" [0]) (b_len : mg "len" = none) (b_range : mg "range" = none) : CalMX cA cE P w K mg base 4 0 "look" ["self"] (spLooks 0) :=
  W_Hook_look.calX (kc.cls 0 (by decide)) sc_Hook_look (by intro ds st Q E h; unfold spLooks at h; (repeat (obtain ⟨_, h⟩ := h)); all_goals (subst_vars; rfl)) (d_Hook_look c_is_name c_look_param (XA_InvalidHook _ _ _) m_KINDS k_KINDS m_SORTS k_SORTS f_name f_kind f_names f_params f_gives b_len b_range (by omega) (by omega) (by omega)) (by rintro ds s0 Q Xd ⟨o, m, rfl, h1, h2, q⟩; exact rd_look h1 h2 q)
def pss_look : Nat → List Str := fun c => match c with
  | 0 => ["self"]
  | _ => []
theorem ch_Hook___init__ {cA cE : Nat → Addr} {P : Program} {w : World} {K : PySem.W.Frag} {mg : Str → Option Value} {base : Heap} (W_Hook___init__ : InW K mg cA "Hook" 0 "Hook.__init__" s_Hook___init__ ["self", "name", "kind", "params", "only", "gives"] shs_Hook) (c_whole : Cal cA P w K mg base 1 "whole" ["param"] spWhole3) (c_look : ∀ c ∈ [0], CalMX cA cE P w K mg base 4 c "look" (pss_look c) (spLooks c)) (f_name : FldK K cA "name" [0]) (f_kind : FldK K cA "kind" [0]) (f_gives : FldK K cA "gives" [0]) (f_params : FldK K cA "params" [0]) (f_only : FldK K cA "only" [0]) (f_names : FldK K cA "names" [0]) (b_tuple : mg "tuple" = none) : CalNX cA cE P w K mg base 5 "Hook" ["self", "name", "kind", "params", "only", "gives"] spHookN shs_Hook :=
  W_Hook___init__.calX (z := true) sc_Hook___init__ (by intro ds st Q E h; unfold spHookN at h; (repeat (obtain ⟨_, h⟩ := h)); all_goals (subst_vars; rfl)) (d_Hook___init__ c_whole c_look f_name f_kind f_gives f_params f_only f_names b_tuple (by omega) (by omega)) (by rintro ds s0 Q Xd ⟨m, rfl, h, q⟩ n hn; exact rd_init hn h q)
theorem ch__law_odd {cA cE : Nat → Addr} {P : Program} {w : World} {K : PySem.W.Frag} {mg : Str → Option Value} {base : Heap} (W__law_odd : FnW K mg "_law_odd" s__law_odd ["_law_box_here"]) (c__law_pick : Cal cA P w K mg base 2 "_law_pick" ["_law_box_here", "_law_items"] spPick) : Cal cA P w K mg base 3 "_law_odd" ["_law_box_here"] spOddL :=
  W__law_odd.cal (sp := spOddL) sc__law_odd (by intro ds st Q E h; unfold spOddL at h; (repeat (obtain ⟨_, h⟩ := h)); all_goals (subst_vars; rfl)) (d__law_odd c__law_pick (by omega)) (by rintro ds s0 Q ⟨b, rfl, h, q⟩; exact rd_oddL h q)
theorem ch__law_is_name {cA cE : Nat → Addr} {P : Program} {w : World} {K : PySem.W.Frag} {mg : Str → Option Value} {base : Heap} (W__law_is_name : FnW K mg "_law_is_name" s__law_is_name ["_law_thing"]) (kc : KCls K cA 1 subE) (b_isinstance : mg "isinstance" = none) (b_str : mg "str" = none) (b_len : mg "len" = none) : Cal cA P w K mg base 1 "_law_is_name" ["_law_thing"] spIsNameL :=
  W__law_is_name.cal (sp := spIsNameL) sc__law_is_name (by intro ds st Q E h; unfold spIsNameL at h; (repeat (obtain ⟨_, h⟩ := h)); all_goals (subst_vars; rfl)) (d__law_is_name kc b_isinstance b_str b_len) (by rintro ds s0 Q ⟨d, rfl, h, q⟩; exact rd_isNameL h q)
theorem ch__law_fits {cA cE : Nat → Addr} {P : Program} {w : World} {K : PySem.W.Frag} {mg : Str → Option Value} {base : Heap} (W__law_fits : FnW K mg "_law_fits" s__law_fits ["_law_sort", "_law_value_here"]) (c__law_is_name : Cal cA P w K mg base 1 "_law_is_name" ["_law_thing"] spIsNameL) (kc : KCls K cA 1 subE) (b_isinstance : mg "isinstance" = none) (b_int : mg "int" = none) (b_bool : mg "bool" = none) : Cal cA P w K mg base 2 "_law_fits" ["_law_sort", "_law_value_here"] spFitsL :=
  W__law_fits.cal (sp := spFitsL) sc__law_fits (by intro ds st Q E h; unfold spFitsL at h; (repeat (obtain ⟨_, h⟩ := h)); all_goals (subst_vars; rfl)) (d__law_fits c__law_is_name kc b_isinstance b_int b_bool (by omega)) (by rintro ds s0 Q ⟨sort, d, rfl, h1, h2, q⟩; exact rd_fitsL h1 h2 q)
theorem ch__law_param_wrong {cA cE : Nat → Addr} {P : Program} {w : World} {K : PySem.W.Frag} {mg : Str → Option Value} {base : Heap} (W__law_param_wrong : FnW K mg "_law_param_wrong" s__law_param_wrong ["_law_lots", "_law_wide", "_law_spot"]) (c__law_is_name : Cal cA P w K mg base 1 "_law_is_name" ["_law_thing"] spIsNameL) (c__law_fits : Cal cA P w K mg base 2 "_law_fits" ["_law_sort", "_law_value_here"] spFitsL) : Cal cA P w K mg base 3 "_law_param_wrong" ["_law_lots", "_law_wide", "_law_spot"] spParW :=
  W__law_param_wrong.cal (sp := spParW) sc__law_param_wrong (by intro ds st Q E h; unfold spParW at h; (repeat (obtain ⟨_, h⟩ := h)); all_goals (subst_vars; rfl)) (d__law_param_wrong c__law_is_name c__law_fits (by omega) (by omega)) (by rintro ds s0 Q ⟨lots, w, k, p, rfl, h1, h2, h3, h4, q⟩; exact rd_parW h1 h2 h3 h4 q)
theorem ch__law_wrong {cA cE : Nat → Addr} {P : Program} {w : World} {K : PySem.W.Frag} {mg : Str → Option Value} {base : Heap} (W__law_wrong : FnW K mg "_law_wrong" s__law_wrong ["_law_model"]) (c__law_is_name : Cal cA P w K mg base 1 "_law_is_name" ["_law_thing"] spIsNameL) (c__law_param_wrong : Cal cA P w K mg base 3 "_law_param_wrong" ["_law_lots", "_law_wide", "_law_spot"] spParW) (b_len : mg "len" = none) (b_range : mg "range" = none) : Cal cA P w K mg base 4 "_law_wrong" ["_law_model"] spWrongL :=
  W__law_wrong.cal (sp := spWrongL) sc__law_wrong (by intro ds st Q E h; unfold spWrongL at h; (repeat (obtain ⟨_, h⟩ := h)); all_goals (subst_vars; rfl)) (d__law_wrong c__law_is_name c__law_param_wrong b_len b_range (by omega) (by omega)) (by rintro ds s0 Q ⟨m, rfl, h, q⟩; exact rd_wrongL h q)
theorem ch__law_spoilt {cA cE : Nat → Addr} {P : Program} {w : World} {K : PySem.W.Frag} {mg : Str → Option Value} {base : Heap} (W__law_spoilt : FnW K mg "_law_spoilt" s__law_spoilt ["_law_box_here", "_law_model"]) (c__law_take : Cal cA P w K mg base 1 "_law_take" ["_law_box_here", "_law_many"] spTake) (c__law_odd : Cal cA P w K mg base 3 "_law_odd" ["_law_box_here"] spOddL) (c__law_pick : Cal cA P w K mg base 2 "_law_pick" ["_law_box_here", "_law_items"] spPick) (c__law_names : Cal cA P w K mg base 3 "_law_names" ["_law_box_here", "_law_many"] spNames) (b_len : mg "len" = none) : Cal cA P w K mg base 4 "_law_spoilt" ["_law_box_here", "_law_model"] spSpoilt :=
  W__law_spoilt.cal (sp := spSpoilt) sc__law_spoilt (by intro ds st Q E h; unfold spSpoilt at h; (repeat (obtain ⟨_, h⟩ := h)); all_goals (subst_vars; rfl)) (d__law_spoilt c__law_take c__law_odd c__law_pick c__law_names b_len (by omega) (by omega) (by omega) (by omega)) (by rintro ds s0 Q ⟨b, m, rfl, h1, h2, h3, q⟩; exact rd_spoilt h1 h2 q h3)
theorem ch__law_heard_of {cA cE : Nat → Addr} {P : Program} {w : World} {K : PySem.W.Frag} {mg : Str → Option Value} {base : Heap} (W__law_heard_of : FnW K mg "_law_heard_of" s__law_heard_of ["_law_model"]) (c_Hook : CalNX cA cE P w K mg base 5 "Hook" ["self", "name", "kind", "params", "only", "gives"] spHookN shs_Hook) {CH_InvalidHook : Addr} (t_InvalidHook : ExT K mg cE 0 "InvalidHook" "HookError" CH_InvalidHook ["word", "name"]) (b_isinstance : mg "isinstance" = none) : Cal cA P w K mg base 7 "_law_heard_of" ["_law_model"] spHeardL :=
  W__law_heard_of.cal (sp := spHeardL) sc__law_heard_of (by intro ds st Q E h; unfold spHeardL at h; (repeat (obtain ⟨_, h⟩ := h)); all_goals (subst_vars; rfl)) (d__law_heard_of c_Hook t_InvalidHook b_isinstance (by omega)) (by rintro ds s0 Q ⟨m, rfl, h, q⟩; exact rd_heardL h q)
theorem law_body {cA cE : Nat → Addr} {P : Program} {w : World} {K : PySem.W.Frag} {mg : Str → Option Value} (W__law_take : FnW K mg "_law_take" s__law_take ["_law_box_here", "_law_many"]) (W__law_box : FnW K mg "_law_box" s__law_box ["_law_script", "_law_base"]) (W__law_pick : FnW K mg "_law_pick" s__law_pick ["_law_box_here", "_law_items"]) (W__law_mixed : FnW K mg "_law_mixed" s__law_mixed ["_law_box_here", "_law_items"]) (W__law_names : FnW K mg "_law_names" s__law_names ["_law_box_here", "_law_many"]) (W__law_value : FnW K mg "_law_value" s__law_value ["_law_box_here", "_law_sort"]) (W__law_hook : FnW K mg "_law_hook" s__law_hook ["_law_box_here", "_law_name", "_law_kind"]) (W_is_integer : FnW K mg "is_integer" s_is_integer ["thing"]) (W_is_name : FnW K mg "is_name" s_is_name ["thing"]) (W_fits : FnW K mg "fits" s_fits ["sort", "thing"]) (W_whole : FnW K mg "whole" s_whole ["param"]) (W_Hook_look_param : MeW K (cA 0) "look_param" "Hook.look_param" s_Hook_look_param ["self", "at"]) (W_Hook_look : MeW K (cA 0) "look" "Hook.look" s_Hook_look ["self"]) (W_Hook___init__ : InW K mg cA "Hook" 0 "Hook.__init__" s_Hook___init__ ["self", "name", "kind", "params", "only", "gives"] shs_Hook) (W__law_odd : FnW K mg "_law_odd" s__law_odd ["_law_box_here"]) (W__law_is_name : FnW K mg "_law_is_name" s__law_is_name ["_law_thing"]) (W__law_fits : FnW K mg "_law_fits" s__law_fits ["_law_sort", "_law_value_here"]) (W__law_param_wrong : FnW K mg "_law_param_wrong" s__law_param_wrong ["_law_lots", "_law_wide", "_law_spot"]) (W__law_wrong : FnW K mg "_law_wrong" s__law_wrong ["_law_model"]) (W__law_spoilt : FnW K mg "_law_spoilt" s__law_spoilt ["_law_box_here", "_law_model"]) (W__law_heard_of : FnW K mg "_law_heard_of" s__law_heard_of ["_law_model"]) (W_law : FnW K mg "law" s_law ["_law_script"]) (XA_InvalidHook : ExA K mg cE 0 "InvalidHook" ["word", "name"]) {CH_InvalidHook : Addr} (t_InvalidHook : ExT K mg cE 0 "InvalidHook" "HookError" CH_InvalidHook ["word", "name"]) {u_KEPT : Value} (m_KEPT : mg "KEPT" = some u_KEPT) (k_KEPT : CRep K cA u_KEPT kKEPT) {u_KINDS : Value} (m_KINDS : mg "KINDS" = some u_KINDS) (k_KINDS : CRep K cA u_KINDS kKINDS) {u_LETTERS : Value} (m_LETTERS : mg "LETTERS" = some u_LETTERS) (k_LETTERS : CRep K cA u_LETTERS kLETTERS) {u_SORTS : Value} (m_SORTS : mg "SORTS" = some u_SORTS) (k_SORTS : CRep K cA u_SORTS kSORTS) (kc : KCls K cA 1 subE) (f_gives : FldK K cA "gives" [0]) (f_kind : FldK K cA "kind" [0]) (f_name : FldK K cA "name" [0]) (f_names : FldK K cA "names" [0]) (f_only : FldK K cA "only" [0]) (f_params : FldK K cA "params" [0]) (b_abs : mg "abs" = none) (b_all : mg "all" = none) (b_bool : mg "bool" = none) (b_enumerate : mg "enumerate" = none) (b_int : mg "int" = none) (b_isinstance : mg "isinstance" = none) (b_len : mg "len" = none) (b_list : mg "list" = none) (b_max : mg "max" = none) (b_range : mg "range" = none) (b_repr : mg "repr" = none) (b_str : mg "str" = none) (b_tuple : mg "tuple" = none) (base : Heap) : BodyD cA P w K mg base 7 "law" s_law N_law (t_law spBox spNames spTake spHook spPick spSpoilt spHeardL spWrongL) := by
  have c__law_take := ch__law_take (P := P) (cA := cA) (cE := cE) (w := w) (mg := mg) (base := base) W__law_take b_len
  have c__law_box := ch__law_box (P := P) (cA := cA) (cE := cE) (w := w) (mg := mg) (base := base) W__law_box b_abs
  have c__law_pick := ch__law_pick (P := P) (cA := cA) (cE := cE) (w := w) (mg := mg) (base := base) W__law_pick c__law_take b_len
  have c__law_mixed := ch__law_mixed (P := P) (cA := cA) (cE := cE) (w := w) (mg := mg) (base := base) W__law_mixed c__law_take b_list b_len b_range
  have c__law_names := ch__law_names (P := P) (cA := cA) (cE := cE) (w := w) (mg := mg) (base := base) W__law_names c__law_take c__law_mixed b_range b_len b_enumerate
  have c__law_value := ch__law_value (P := P) (cA := cA) (cE := cE) (w := w) (mg := mg) (base := base) W__law_value c__law_pick c__law_take
  have c__law_hook := ch__law_hook (P := P) (cA := cA) (cE := cE) (w := w) (mg := mg) (base := base) W__law_hook c__law_names c__law_take c__law_pick c__law_value b_max b_range
  have c_is_integer := ch_is_integer (P := P) (cA := cA) (cE := cE) (w := w) (mg := mg) (base := base) W_is_integer kc b_isinstance b_int b_bool
  have c_is_name := ch_is_name (P := P) (cA := cA) (cE := cE) (w := w) (mg := mg) (base := base) W_is_name m_LETTERS k_LETTERS kc b_isinstance b_str b_len b_all
  have c_fits := ch_fits (P := P) (cA := cA) (cE := cE) (w := w) (mg := mg) (base := base) W_fits c_is_integer c_is_name
  have c_whole := ch_whole (P := P) (cA := cA) (cE := cE) (w := w) (mg := mg) (base := base) W_whole b_len b_tuple
  have c_Hook_look_param := ch_Hook_look_param (P := P) (cA := cA) (cE := cE) (w := w) (mg := mg) (base := base) W_Hook_look_param c_is_name c_fits XA_InvalidHook m_KEPT k_KEPT m_SORTS k_SORTS kc f_only f_params f_names b_len
  have c_look_param : ∀ c ∈ [0], CalMX cA cE P w K mg base 3 c "look_param" (pss_look_param c) (spLookPs c) := fun c hc => by
    simp only [List.mem_cons, List.not_mem_nil, or_false] at hc
    rcases hc with rfl
    · exact (let ⟨f, fd, a, b⟩ := c_Hook_look_param.ex; ⟨f, fd, a.mono (by omega), b⟩)
  have c_Hook_look := ch_Hook_look (P := P) (cA := cA) (cE := cE) (w := w) (mg := mg) (base := base) W_Hook_look c_is_name c_look_param XA_InvalidHook m_KINDS k_KINDS m_SORTS k_SORTS kc f_name f_kind f_names f_params f_gives b_len b_range
  have c_look : ∀ c ∈ [0], CalMX cA cE P w K mg base 4 c "look" (pss_look c) (spLooks c) := fun c hc => by
    simp only [List.mem_cons, List.not_mem_nil, or_false] at hc
    rcases hc with rfl
    · exact (let ⟨f, fd, a, b⟩ := c_Hook_look.ex; ⟨f, fd, a.mono (by omega), b⟩)
  have c_Hook := ch_Hook___init__ (P := P) (cA := cA) (cE := cE) (w := w) (mg := mg) (base := base) W_Hook___init__ c_whole c_look f_name f_kind f_gives f_params f_only f_names b_tuple
  have c__law_odd := ch__law_odd (P := P) (cA := cA) (cE := cE) (w := w) (mg := mg) (base := base) W__law_odd c__law_pick
  have c__law_is_name := ch__law_is_name (P := P) (cA := cA) (cE := cE) (w := w) (mg := mg) (base := base) W__law_is_name kc b_isinstance b_str b_len
  have c__law_fits := ch__law_fits (P := P) (cA := cA) (cE := cE) (w := w) (mg := mg) (base := base) W__law_fits c__law_is_name kc b_isinstance b_int b_bool
  have c__law_param_wrong := ch__law_param_wrong (P := P) (cA := cA) (cE := cE) (w := w) (mg := mg) (base := base) W__law_param_wrong c__law_is_name c__law_fits
  have c__law_wrong := ch__law_wrong (P := P) (cA := cA) (cE := cE) (w := w) (mg := mg) (base := base) W__law_wrong c__law_is_name c__law_param_wrong b_len b_range
  have c__law_spoilt := ch__law_spoilt (P := P) (cA := cA) (cE := cE) (w := w) (mg := mg) (base := base) W__law_spoilt c__law_take c__law_odd c__law_pick c__law_names b_len
  have c__law_heard_of := ch__law_heard_of (P := P) (cA := cA) (cE := cE) (w := w) (mg := mg) (base := base) W__law_heard_of c_Hook t_InvalidHook b_isinstance
  exact d_law c__law_box c__law_names c__law_take c__law_hook c__law_pick c__law_spoilt c__law_heard_of c__law_wrong b_range b_repr (by omega) (by omega) (by omega) (by omega) (by omega) (by omega) (by omega) (by omega)
theorem law_all {E_0 : Addr} {C_0 : Addr} {P : Program} {w : World} {K : PySem.W.Frag} {mg : Str → Option Value} {fa : Addr} (hfa : mg "law" = some (.ref fa)) (W__law_take : FnW K mg "_law_take" s__law_take ["_law_box_here", "_law_many"]) (W__law_box : FnW K mg "_law_box" s__law_box ["_law_script", "_law_base"]) (W__law_pick : FnW K mg "_law_pick" s__law_pick ["_law_box_here", "_law_items"]) (W__law_mixed : FnW K mg "_law_mixed" s__law_mixed ["_law_box_here", "_law_items"]) (W__law_names : FnW K mg "_law_names" s__law_names ["_law_box_here", "_law_many"]) (W__law_value : FnW K mg "_law_value" s__law_value ["_law_box_here", "_law_sort"]) (W__law_hook : FnW K mg "_law_hook" s__law_hook ["_law_box_here", "_law_name", "_law_kind"]) (W_is_integer : FnW K mg "is_integer" s_is_integer ["thing"]) (W_is_name : FnW K mg "is_name" s_is_name ["thing"]) (W_fits : FnW K mg "fits" s_fits ["sort", "thing"]) (W_whole : FnW K mg "whole" s_whole ["param"]) (W_Hook_look_param : MeW K ((clsA [C_0]) 0) "look_param" "Hook.look_param" s_Hook_look_param ["self", "at"]) (W_Hook_look : MeW K ((clsA [C_0]) 0) "look" "Hook.look" s_Hook_look ["self"]) (W_Hook___init__ : InW K mg (clsA [C_0]) "Hook" 0 "Hook.__init__" s_Hook___init__ ["self", "name", "kind", "params", "only", "gives"] shs_Hook) (W__law_odd : FnW K mg "_law_odd" s__law_odd ["_law_box_here"]) (W__law_is_name : FnW K mg "_law_is_name" s__law_is_name ["_law_thing"]) (W__law_fits : FnW K mg "_law_fits" s__law_fits ["_law_sort", "_law_value_here"]) (W__law_param_wrong : FnW K mg "_law_param_wrong" s__law_param_wrong ["_law_lots", "_law_wide", "_law_spot"]) (W__law_wrong : FnW K mg "_law_wrong" s__law_wrong ["_law_model"]) (W__law_spoilt : FnW K mg "_law_spoilt" s__law_spoilt ["_law_box_here", "_law_model"]) (W__law_heard_of : FnW K mg "_law_heard_of" s__law_heard_of ["_law_model"]) (W_law : FnW K mg "law" s_law ["_law_script"]) (XA_InvalidHook : ExA K mg (clsA [E_0]) 0 "InvalidHook" ["word", "name"]) {CH_InvalidHook : Addr} (t_InvalidHook : ExT K mg (clsA [E_0]) 0 "InvalidHook" "HookError" CH_InvalidHook ["word", "name"]) {u_KEPT : Value} (m_KEPT : mg "KEPT" = some u_KEPT) (k_KEPT : CRep K (clsA [C_0]) u_KEPT kKEPT) {u_KINDS : Value} (m_KINDS : mg "KINDS" = some u_KINDS) (k_KINDS : CRep K (clsA [C_0]) u_KINDS kKINDS) {u_LETTERS : Value} (m_LETTERS : mg "LETTERS" = some u_LETTERS) (k_LETTERS : CRep K (clsA [C_0]) u_LETTERS kLETTERS) {u_SORTS : Value} (m_SORTS : mg "SORTS" = some u_SORTS) (k_SORTS : CRep K (clsA [C_0]) u_SORTS kSORTS) (kc : KCls K (clsA [C_0]) 1 subE) (f_gives : FldK K (clsA [C_0]) "gives" [0]) (f_kind : FldK K (clsA [C_0]) "kind" [0]) (f_name : FldK K (clsA [C_0]) "name" [0]) (f_names : FldK K (clsA [C_0]) "names" [0]) (f_only : FldK K (clsA [C_0]) "only" [0]) (f_params : FldK K (clsA [C_0]) "params" [0]) (b_abs : mg "abs" = none) (b_all : mg "all" = none) (b_bool : mg "bool" = none) (b_enumerate : mg "enumerate" = none) (b_int : mg "int" = none) (b_isinstance : mg "isinstance" = none) (b_len : mg "len" = none) (b_list : mg "list" = none) (b_max : mg "max" = none) (b_range : mg "range" = none) (b_repr : mg "repr" = none) (b_str : mg "str" = none) (b_tuple : mg "tuple" = none) :
    ∃ (fd : FuncData) (cA : Nat → Addr), (∀ (s : Shared) (u : Value), BindsTo s fd ⟨[u], []⟩ [("_law_script", u)]) ∧ ∀ base : Heap, K.In base → base.Ns mainGlobals mg → FnT cA P w K mg base 8 fa fd ["_law_script"] spLaw03 :=
  law_fin W_law hfa sc_law (by intro ds st Q E h; unfold spLaw03 at h; (repeat (obtain ⟨_, h⟩ := h)); all_goals (subst_vars; rfl)) (fun base => law_body W__law_take W__law_box W__law_pick W__law_mixed W__law_names W__law_value W__law_hook W_is_integer W_is_name W_fits W_whole W_Hook_look_param W_Hook_look W_Hook___init__ W__law_odd W__law_is_name W__law_fits W__law_param_wrong W__law_wrong W__law_spoilt W__law_heard_of W_law XA_InvalidHook t_InvalidHook m_KEPT k_KEPT m_KINDS k_KINDS m_LETTERS k_LETTERS m_SORTS k_SORTS kc f_gives f_kind f_name f_names f_only f_params b_abs b_all b_bool b_enumerate b_int b_isinstance b_len b_list b_max b_range b_repr b_str b_tuple base) (by rintro ds s0 Q ⟨ns, rfl, q⟩; exact rd_law03 q)
end TL
open PySem PySem.W PyProof.Rows
set_option maxRecDepth 100000 in
set_option maxHeartbeats 0 in
theorem PySem.Challenge.cw_hookrow_k03_hooks_refused_holds : PySem.Challenge.rw_hookrow_k03_hooks_refused.Holds := by
  w_on; o_law; k_head; (case hw => w_witness2)
  k_fill
  refine TL.walk_t (l := PySem.Challenge.rw_hookrow_k03_hooks_refused) (n := 63) (k := 8) (x := "_law_script") (sp := TL.spLaw03) rfl (by decide) rfl ⟨rfl, by decide, by decide⟩ (fun w h Y => PySem.W.kIn_of Y) ?F (fun ns hn => ⟨ns, rfl, fun _ => rfl⟩)
  case F =>
    intro w mg fa h KX G hmg
    refine' TL.law_all  hmg (TL.fnw_mk KX G ?a1 ?l1 ?c1 ?k1 (fun _ _ _ _ _ _ us hl => match us, hl with | [_, _], _ => rfl)) (TL.fnw_mk KX G ?a2 ?l2 ?c2 ?k2 (fun _ _ _ _ _ _ us hl => match us, hl with | [_, _], _ => rfl)) (TL.fnw_mk KX G ?a3 ?l3 ?c3 ?k3 (fun _ _ _ _ _ _ us hl => match us, hl with | [_, _], _ => rfl)) (TL.fnw_mk KX G ?a4 ?l4 ?c4 ?k4 (fun _ _ _ _ _ _ us hl => match us, hl with | [_, _], _ => rfl)) (TL.fnw_mk KX G ?a5 ?l5 ?c5 ?k5 (fun _ _ _ _ _ _ us hl => match us, hl with | [_, _], _ => rfl)) (TL.fnw_mk KX G ?a6 ?l6 ?c6 ?k6 (fun _ _ _ _ _ _ us hl => match us, hl with | [_, _], _ => rfl)) (TL.fnw_mk KX G ?a7 ?l7 ?c7 ?k7 (fun _ _ _ _ _ _ us hl => match us, hl with | [_, _, _], _ => rfl)) (TL.fnw_mk KX G ?a8 ?l8 ?c8 ?k8 (fun _ _ _ _ _ _ us hl => match us, hl with | [_], _ => rfl)) (TL.fnw_mk KX G ?a9 ?l9 ?c9 ?k9 (fun _ _ _ _ _ _ us hl => match us, hl with | [_], _ => rfl)) (TL.fnw_mk KX G ?a10 ?l10 ?c10 ?k10 (fun _ _ _ _ _ _ us hl => match us, hl with | [_, _], _ => rfl)) (TL.fnw_mk KX G ?a11 ?l11 ?c11 ?k11 (fun _ _ _ _ _ _ us hl => match us, hl with | [_], _ => rfl)) (TL.mew_mk ?a12 ?i12 ?k12 ?l12 ?c12 ?f12 (fun _ _ _ _ _ _ us hl => match us, hl with | [_, _], _ => rfl)) (TL.mew_mk ?a13 ?i13 ?k13 ?l13 ?c13 ?f13 (fun _ _ _ _ _ _ us hl => match us, hl with | [_], _ => rfl)) (TL.inw_mk KX G ?C_Hook rfl ?a14 ?l14 ?c14 ?m14 ?i14 ?k14 (TL.all_cons ?s14_0 TL.all_nil)) (TL.fnw_mk KX G ?a15 ?l15 ?c15 ?k15 (fun _ _ _ _ _ _ us hl => match us, hl with | [_], _ => rfl)) (TL.fnw_mk KX G ?a16 ?l16 ?c16 ?k16 (fun _ _ _ _ _ _ us hl => match us, hl with | [_], _ => rfl)) (TL.fnw_mk KX G ?a17 ?l17 ?c17 ?k17 (fun _ _ _ _ _ _ us hl => match us, hl with | [_, _], _ => rfl)) (TL.fnw_mk KX G ?a18 ?l18 ?c18 ?k18 (fun _ _ _ _ _ _ us hl => match us, hl with | [_, _, _], _ => rfl)) (TL.fnw_mk KX G ?a19 ?l19 ?c19 ?k19 (fun _ _ _ _ _ _ us hl => match us, hl with | [_], _ => rfl)) (TL.fnw_mk KX G ?a20 ?l20 ?c20 ?k20 (fun _ _ _ _ _ _ us hl => match us, hl with | [_, _], _ => rfl)) (TL.fnw_mk KX G ?a21 ?l21 ?c21 ?k21 (fun _ _ _ _ _ _ us hl => match us, hl with | [_], _ => rfl)) (TL.fnw_mk KX G ?a22 ?l22 ?c22 ?k22 (fun _ _ _ _ _ _ us hl => match us, hl with | [_], _ => rfl)) (TL.exa_two KX G ?EC_InvalidHook rfl ?xl_InvalidHook ?xb_InvalidHook ?xs_InvalidHook ?xe_InvalidHook ?xt_InvalidHook ?xk_InvalidHook ?xi_InvalidHook ?xj_InvalidHook ?xf_InvalidHook ?xc_InvalidHook ?xq_InvalidHook ?xn0_InvalidHook ?xn1_InvalidHook TL.sc_InvalidHook___init__ rfl (by first | exact Or.inl rfl | exact Or.inr (Or.inl rfl) | exact Or.inr (Or.inr rfl)) (by first | exact Or.inl rfl | exact Or.inr (Or.inl rfl) | exact Or.inr (Or.inr rfl)) (by first | exact Or.inl rfl | exact Or.inr (Or.inl rfl) | exact Or.inr (Or.inr rfl)) (by decide) (by decide) (by decide) (by decide) (fun _ _ _ _ _ _ us hl => match us, hl with | [_, _, _], _ => rfl)) (TL.ext_of KX G ?EC_InvalidHook rfl ?CH_InvalidHook ?eb_InvalidHook) (PySem.W.mg_of KX G ?m_KEPT) ?t_KEPT (PySem.W.mg_of KX G ?m_KINDS) ?t_KINDS (PySem.W.mg_of KX G ?m_LETTERS) ?t_LETTERS (PySem.W.mg_of KX G ?m_SORTS) ?t_SORTS (TL.kcls_of ?kcb) (TL.fld_of (TL.kcls_of ?kcb) ?fb_gives) (TL.fld_of (TL.kcls_of ?kcb) ?fb_kind) (TL.fld_of (TL.kcls_of ?kcb) ?fb_name) (TL.fld_of (TL.kcls_of ?kcb) ?fb_names) (TL.fld_of (TL.kcls_of ?kcb) ?fb_only) (TL.fld_of (TL.kcls_of ?kcb) ?fb_params) (PySem.W.mg_none_of KX G ?z_abs) (PySem.W.mg_none_of KX G ?z_all) (PySem.W.mg_none_of KX G ?z_bool) (PySem.W.mg_none_of KX G ?z_enumerate) (PySem.W.mg_none_of KX G ?z_int) (PySem.W.mg_none_of KX G ?z_isinstance) (PySem.W.mg_none_of KX G ?z_len) (PySem.W.mg_none_of KX G ?z_list) (PySem.W.mg_none_of KX G ?z_max) (PySem.W.mg_none_of KX G ?z_range) (PySem.W.mg_none_of KX G ?z_repr) (PySem.W.mg_none_of KX G ?z_str) (PySem.W.mg_none_of KX G ?z_tuple)
    (case C_Hook => k_is)
    (case EC_InvalidHook => k_is)
    (case a1 => k_is)
    (case l1 => k_is)
    (case c1 => k_is)
    (case k1 => k_is)
    (case a2 => k_is)
    (case l2 => k_is)
    (case c2 => k_is)
    (case k2 => k_is)
    (case a3 => k_is)
    (case l3 => k_is)
    (case c3 => k_is)
    (case k3 => k_is)
    (case a4 => k_is)
    (case l4 => k_is)
    (case c4 => k_is)
    (case k4 => k_is)
    (case a5 => k_is)
    (case l5 => k_is)
    (case c5 => k_is)
    (case k5 => k_is)
    (case a6 => k_is)
    (case l6 => k_is)
    (case c6 => k_is)
    (case k6 => k_is)
    (case a7 => k_is)
    (case l7 => k_is)
    (case c7 => k_is)
    (case k7 => k_is)
    (case a8 => k_is)
    (case l8 => k_is)
    (case c8 => k_is)
    (case k8 => k_is)
    (case a9 => k_is)
    (case l9 => k_is)
    (case c9 => k_is)
    (case k9 => k_is)
    (case a10 => k_is)
    (case l10 => k_is)
    (case c10 => k_is)
    (case k10 => k_is)
    (case a11 => k_is)
    (case l11 => k_is)
    (case c11 => k_is)
    (case k11 => k_is)
    (case a12 => k_is)
    (case i12 => k_is)
    (case k12 => k_is)
    (case l12 => k_is)
    (case c12 => k_is)
    (case f12 => k_is)
    (case a13 => k_is)
    (case i13 => k_is)
    (case k13 => k_is)
    (case l13 => k_is)
    (case c13 => k_is)
    (case f13 => k_is)
    (case a14 => k_is)
    (case l14 => k_is)
    (case c14 => k_is)
    (case m14 => k_is)
    (case i14 => k_is)
    (case k14 => k_is)
    (case s14_0 => (refine' TL.bnd_kw TL.kw_nil ?q3 ?q4; (case q3 => trivial); (case q4 => exact fun us ws its h1 h2 h3 => match us, ws, its, h1, h2, h3 with | [_, _, _, _], [_, _], [], _, _, _ => rfl)))
    (case a15 => k_is)
    (case l15 => k_is)
    (case c15 => k_is)
    (case k15 => k_is)
    (case a16 => k_is)
    (case l16 => k_is)
    (case c16 => k_is)
    (case k16 => k_is)
    (case a17 => k_is)
    (case l17 => k_is)
    (case c17 => k_is)
    (case k17 => k_is)
    (case a18 => k_is)
    (case l18 => k_is)
    (case c18 => k_is)
    (case k18 => k_is)
    (case a19 => k_is)
    (case l19 => k_is)
    (case c19 => k_is)
    (case k19 => k_is)
    (case a20 => k_is)
    (case l20 => k_is)
    (case c20 => k_is)
    (case k20 => k_is)
    (case a21 => k_is)
    (case l21 => k_is)
    (case c21 => k_is)
    (case k21 => k_is)
    (case a22 => k_is)
    (case l22 => k_is)
    (case c22 => k_is)
    (case k22 => k_is)
    (case xl_InvalidHook => k_is)
    (case xs_InvalidHook => k_is)
    (case xe_InvalidHook => k_is)
    (case xt_InvalidHook => k_is)
    (case xk_InvalidHook => k_is)
    (case xi_InvalidHook => k_is)
    (case xj_InvalidHook => k_is)
    (case xf_InvalidHook => k_is)
    (case xc_InvalidHook => k_is)
    (case xq_InvalidHook => k_is)
    (case xn0_InvalidHook => k_is)
    (case xn1_InvalidHook => k_is)
    (case xb_InvalidHook => rfl)
    (case CH_InvalidHook => k_is)
    (case m_KEPT => k_is)
    (case t_KEPT => (refine' TL.crep_tup ?t1 ?t2 ?t3 ?t4 ?t5; (case t1 => k_is); (case t2 => rfl); (case t3 => rfl); (case t4 => decide); (case t5 => repeat' (first | exact trivial | exact TL.crep_str | exact TL.crep_int | exact TL.crep_non | apply And.intro))))
    (case m_KINDS => k_is)
    (case t_KINDS => (refine' TL.crep_tup ?t1 ?t2 ?t3 ?t4 ?t5; (case t1 => k_is); (case t2 => rfl); (case t3 => rfl); (case t4 => decide); (case t5 => repeat' (first | exact trivial | exact TL.crep_str | exact TL.crep_int | exact TL.crep_non | apply And.intro))))
    (case m_LETTERS => k_is)
    (case t_LETTERS => exact TL.crep_str)
    (case m_SORTS => k_is)
    (case t_SORTS => (refine' TL.crep_tup ?t1 ?t2 ?t3 ?t4 ?t5; (case t1 => k_is); (case t2 => rfl); (case t3 => rfl); (case t4 => decide); (case t5 => repeat' (first | exact trivial | exact TL.crep_str | exact TL.crep_int | exact TL.crep_non | apply And.intro))))
    (case z_abs => k_is)
    (case z_all => k_is)
    (case z_bool => k_is)
    (case z_enumerate => k_is)
    (case z_int => k_is)
    (case z_isinstance => k_is)
    (case z_len => k_is)
    (case z_list => k_is)
    (case z_max => k_is)
    (case z_range => k_is)
    (case z_repr => k_is)
    (case z_str => k_is)
    (case z_tuple => k_is)
    (case kcb => kernel_rfl)
    (case fb_gives => kernel_rfl)
    (case fb_kind => kernel_rfl)
    (case fb_name => kernel_rfl)
    (case fb_names => kernel_rfl)
    (case fb_only => kernel_rfl)
    (case fb_params => kernel_rfl)
    (case eb_InvalidHook => kernel_rfl)
