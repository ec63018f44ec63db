import PyProof.Rows.All
import Wide.All
import OpenK.AllK
import Wide.FinOn
import HandS.ForMost
import HandS.Flow
import HandS.IsInst
import HandS.Walk
import HandS.Exc
import HandS.WordsExc
import HandS.Deep
import HandS.TupAny
import HandS.DictTup
import HandS.SortInts
import HandS.Set
import HandS.Strs
import HandS.SetIn
import HandS.TupLen
import PyProof.Rows.ReprR
import PyProof.ReprLen
import HandS.Small
import HandS.WordsDict
import HandS.Style
import HandS.Iter
import HandS.Zip
import HandS.Ends
import HandS.EndBits
import KE.GoesZip
import KE.GoesMore
import HandS.SetFor
import HandS.More
import PyProof.SetRoads
import PyProof.Rows.SortShellAny
import HandS.DictComp
import HandS.NoneIn
import HandS.TupMul
import HandS.FStr
import HandS.Comp
import HandS.WrittenGet
import HandS.List
import HandS.TupLe
import HandS.Text
import KE.GoesEnum
import PyProof.EnumMake
import PyProof.WalksEnum
import KE.KDictZip
import PyProof.EqKinds
import KE.KEqNest
import PySem.Challenge.RW_reinways_k10_states_of_any_value
set_option Elab.async false
set_option maxRecDepth 100000
set_option maxHeartbeats 4000000
set_option linter.all false
/-! The data layer: values as trees, mutable objects in a store; readings over these. -/
namespace DL
open PySem L2

inductive D where
  | at (v : V)
  | tup (l : List D)
  | fl (l : List D)
  | wt (l : List D)
  deriving Inhabited

abbrev D.int (i : Int) : D := .at (.int i)
abbrev D.str (s : Str) : D := .at (.str s)
abbrev D.bl (b : Bool) : D := .at (.bl b)
abbrev D.non : D := .at .non
abbrev D.ref (a : Addr) : D := .at (.ref a)

mutual
def D.dec : (x y : D) → Decidable (x = y)
  | .at u, .at v => if h : u = v then .isTrue (h ▸ rfl) else .isFalse fun e => h (D.at.inj e)
  | .at _, .tup _ => .isFalse fun e => nomatch e
  | .tup _, .at _ => .isFalse fun e => nomatch e
  | .at _, .fl _ => .isFalse fun e => nomatch e
  | .fl _, .at _ => .isFalse fun e => nomatch e
  | .tup _, .fl _ => .isFalse fun e => nomatch e
  | .fl _, .tup _ => .isFalse fun e => nomatch e
  | .wt _, .at _ => .isFalse fun e => nomatch e
  | .at _, .wt _ => .isFalse fun e => nomatch e
  | .wt _, .tup _ => .isFalse fun e => nomatch e
  | .tup _, .wt _ => .isFalse fun e => nomatch e
  | .wt _, .fl _ => .isFalse fun e => nomatch e
  | .fl _, .wt _ => .isFalse fun e => nomatch e
  | .wt xs, .wt ys => match D.decs xs ys with
    | .isTrue h => .isTrue (h ▸ rfl)
    | .isFalse h => .isFalse fun e => h (D.wt.inj e)
  | .tup xs, .tup ys => match D.decs xs ys with
    | .isTrue h => .isTrue (h ▸ rfl)
    | .isFalse h => .isFalse fun e => h (D.tup.inj e)
  | .fl xs, .fl ys => match D.decs xs ys with
    | .isTrue h => .isTrue (h ▸ rfl)
    | .isFalse h => .isFalse fun e => h (D.fl.inj e)
def D.decs : (xs ys : List D) → Decidable (xs = ys)
  | [], [] => .isTrue rfl
  | [], _ :: _ => .isFalse fun e => nomatch e
  | _ :: _, [] => .isFalse fun e => nomatch e
  | x :: xs, y :: ys => match D.dec x y, D.decs xs ys with
    | .isTrue h, .isTrue k => .isTrue (by rw [h, k])
    | .isFalse h, _ => .isFalse fun e => h (List.cons.inj e).1
    | _, .isFalse h => .isFalse fun e => h (List.cons.inj e).2
end
instance : DecidableEq D := D.dec

/-! ### the store -/
inductive MO where
  | lst (xs : List D)
  | dk (kvs : List (Key × D))
  | dt (kvs : List (List Key × D))
  | ins (C : Addr) (fs : List (Str × D))
abbrev Sto := Addr → Option MO
def up (S : Sto) (a : Addr) (o : MO) : Sto := fun b => if b = a then some o else S b
def del (S : Sto) (a : Addr) : Sto := fun b => if b = a then none else S b
theorem up_same {S : Sto} {a : Addr} {o : MO} : up S a o a = some o := by unfold up; rw [if_pos rfl]
theorem up_ne {S : Sto} {a b : Addr} {o : MO} (h : b ≠ a) : up S a o b = S b := by unfold up; rw [if_neg h]
theorem up_up {S : Sto} {a : Addr} {o u : MO} : up (up S a o) a u = up S a u := by funext b; unfold up; split <;> rfl
theorem del_same {S : Sto} {a : Addr} : del S a a = none := by unfold del; rw [if_pos rfl]
theorem del_ne {S : Sto} {a b : Addr} (h : b ≠ a) : del S a b = S b := by unfold del; rw [if_neg h]
theorem sne {S : Sto} {a b : Addr} {o : MO} (h : S a = some o) (k : S b = none) : a ≠ b := fun e => by subst e; rw [h] at k; cases k

/-- the written part, and the addresses that nobody may take for frozen -/
structure Kx where
  k : PySem.W.Frag
  n : Addr → Prop
/-- a list of the written part -/
def Wl (K : PySem.W.Frag) (a : Addr) (xs : List V) : Prop := ∃ (o : Obj) (its : Array Value) (n : Nat), K.lookup a = some o ∧ o.cls = .type "list" ∧ o.dict = none ∧ o.data = .seq its n ∧ its.size ≤ sizeLine ∧ Vals xs its.toList
/-- a tuple of the written part -/
def Wt (K : PySem.W.Frag) (a : Addr) (xs : List V) : Prop := ∃ (o : Obj) (its : Array Value) (n : Nat), K.lookup a = some o ∧ o.cls = .type "tuple" ∧ o.data = .seq its n ∧ its.size ≤ sizeLine ∧ Vals xs its.toList
/-- a list that nobody may change: the store does not speak of it -/
def Fz (K : Kx) (H : Hp) (S : Sto) (a : Addr) (xs : List V) : Prop := (Rd H a (.lst xs) ∧ S a = none ∧ ¬ K.n a) ∨ Wl K.k a xs
theorem Fz.sq {K : Kx} {H : Hp} {S : Sto} {a : Addr} {xs : List V} (h : Fz K H S a xs) : SqL K.k H a xs := h.elim (fun x => .inl x.1) .inr
section
variable (K : Kx) (H : Hp) (S : Sto)
mutual
/-- the value v stands for the tree -/
def RD : V → D → Prop
  | v, .at u => v = u
  | v, .tup ds => ∃ a vs, v = .ref a ∧ H a = some (.tup vs) ∧ RDs vs ds
  | v, .wt ds => ∃ a vs, v = .ref a ∧ Wt K.k a vs ∧ RDs vs ds
  | v, .fl ds => ∃ a vs, v = .ref a ∧ Fz K H S a vs ∧ RDs vs ds
def RDs : List V → List D → Prop
  | [], [] => True
  | v :: vs, d :: ds => RD v d ∧ RDs vs ds
  | [], _ :: _ => False
  | _ :: _, [] => False
end
end

section
variable {K K' : Kx} {H H' : Hp} {S S' : Sto}
theorem RDs.nil : RDs K H S [] [] := by unfold RDs; trivial
theorem RDs.cons {v : V} {d : D} {vs : List V} {ds : List D} (a : RD K H S v d) (b : RDs K H S vs ds) : RDs K H S (v :: vs) (d :: ds) := by
  unfold RDs; exact ⟨a, b⟩
theorem RDs.of_cons {v : V} {vs : List V} {d : D} {ds : List D} (h : RDs K H S (v :: vs) (d :: ds)) : RD K H S v d ∧ RDs K H S vs ds := by
  unfold RDs at h; exact h
theorem RDs.inv_cons {vs : List V} {d : D} {ds : List D} (h : RDs K H S vs (d :: ds)) : ∃ v ws, vs = v :: ws ∧ RD K H S v d ∧ RDs K H S ws ds := by
  cases vs with
  | nil => unfold RDs at h; exact h.elim
  | cons v ws => exact ⟨v, ws, rfl, h.of_cons⟩
theorem RDs.inv_nil {vs : List V} (h : RDs K H S vs []) : vs = [] := by
  cases vs with
  | nil => rfl
  | cons v ws => unfold RDs at h; exact h.elim
theorem RDs.length : ∀ {vs : List V} {ds : List D}, RDs K H S vs ds → vs.length = ds.length
  | [], [], _ => rfl
  | v :: vs, d :: ds, h => by
    have q := RDs.length h.of_cons.2
    simp only [List.length_cons, q]
  | [], _ :: _, h => by unfold RDs at h; exact h.elim
  | _ :: _, [], h => by unfold RDs at h; exact h.elim
theorem RDs.get : ∀ {vs : List V} {ds : List D} {i : Nat} {d : D}, RDs K H S vs ds → ds[i]? = some d → ∃ v, vs[i]? = some v ∧ RD K H S v d
  | _, [], _, _, _, e => by simp at e
  | vs, d :: ds, 0, d', h, e => by
    obtain ⟨v, ws, rfl, a, b⟩ := h.inv_cons
    simp only [List.getElem?_cons_zero, Option.some.injEq] at e
    subst e
    exact ⟨v, rfl, a⟩
  | vs, d :: ds, i + 1, d', h, e => by
    obtain ⟨v, ws, rfl, a, b⟩ := h.inv_cons
    simp only [List.getElem?_cons_succ] at e ⊢
    exact RDs.get b e
theorem RDs.getV {vs : List V} {ds : List D} {i : Nat} {v : V} (h : RDs K H S vs ds) (e : vs[i]? = some v) : ∃ d, ds[i]? = some d ∧ RD K H S v d := by
  obtain ⟨hi, _⟩ := List.getElem?_eq_some_iff.mp e
  have hl := h.length
  have q : ds[i]? = some (ds[i]'(by omega)) := by simp [show i < ds.length by omega]
  obtain ⟨v', e', r⟩ := h.get q
  rw [e] at e'; cases e'
  exact ⟨_, q, r⟩
theorem RDs.append : ∀ {vs ws : List V} {ds es : List D}, RDs K H S vs ds → RDs K H S ws es → RDs K H S (vs ++ ws) (ds ++ es)
  | vs, ws, [], es, h, k => by rw [h.inv_nil]; exact k
  | vs, ws, d :: ds, es, h, k => by
    obtain ⟨v, us, rfl, a, b⟩ := h.inv_cons
    exact .cons a (RDs.append b k)
theorem RDs.take : ∀ {vs : List V} {ds : List D} (n : Nat), RDs K H S vs ds → RDs K H S (vs.take n) (ds.take n)
  | vs, ds, 0, h => by simp; exact .nil
  | vs, [], n + 1, h => by rw [h.inv_nil]; exact .nil
  | vs, d :: ds, n + 1, h => by
    obtain ⟨v, us, rfl, a, b⟩ := h.inv_cons
    exact .cons a (RDs.take n b)
theorem RDs.drop : ∀ {vs : List V} {ds : List D} (n : Nat), RDs K H S vs ds → RDs K H S (vs.drop n) (ds.drop n)
  | vs, ds, 0, h => h
  | vs, [], n + 1, h => by rw [h.inv_nil]; exact .nil
  | vs, d :: ds, n + 1, h => by
    obtain ⟨v, us, rfl, a, b⟩ := h.inv_cons
    exact RDs.drop n b
theorem RDs.set {v : V} {d : D} (r : RD K H S v d) : ∀ {vs : List V} {ds : List D} (n : Nat), RDs K H S vs ds → RDs K H S (vs.set n v) (ds.set n d)
  | vs, [], n, h => by rw [h.inv_nil]; exact .nil
  | vs, e :: ds, 0, h => by
    obtain ⟨w, us, rfl, a, b⟩ := h.inv_cons
    exact .cons r b
  | vs, e :: ds, n + 1, h => by
    obtain ⟨w, us, rfl, a, b⟩ := h.inv_cons
    exact .cons a (RDs.set r n b)
theorem RDs.of_get {vs : List V} {ds : List D} (hl : vs.length = ds.length) (h : ∀ (i : Nat) (v : V) (d : D), vs[i]? = some v → ds[i]? = some d → RD K H S v d) : RDs K H S vs ds := by
  induction vs generalizing ds with
  | nil =>
    cases ds with
    | nil => exact .nil
    | cons d ds => simp at hl
  | cons v vs ih =>
    cases ds with
    | nil => simp at hl
    | cons d ds =>
      refine .cons (h 0 v d rfl rfl) (ih (by simpa using hl) fun i u e a b => h (i + 1) u e (by simpa using a) (by simpa using b))
theorem RDs.reverse {vs : List V} {ds : List D} (h : RDs K H S vs ds) : RDs K H S vs.reverse ds.reverse := by
  refine .of_get (by simp [h.length]) fun i v d a b => ?_
  have hl := h.length
  obtain ⟨hi, _⟩ := List.getElem?_eq_some_iff.mp a
  simp only [List.length_reverse] at hi
  rw [List.getElem?_reverse (by omega)] at a
  rw [List.getElem?_reverse (by omega)] at b
  obtain ⟨d', e, r⟩ := h.getV a
  rw [hl] at e
  rw [e] at b
  cases b
  exact r
theorem RDs.dropLast {vs : List V} {ds : List D} (h : RDs K H S vs ds) : RDs K H S vs.dropLast ds.dropLast := by
  rw [List.dropLast_eq_take, List.dropLast_eq_take, h.length]
  exact h.take _
theorem RDs.atoms {vs us : List V} (h : RDs K H S vs (us.map D.at)) : vs = us := by
  induction us generalizing vs with
  | nil => exact h.inv_nil
  | cons u us ih =>
    obtain ⟨v, ws, rfl, a, b⟩ := RDs.inv_cons (d := D.at u) (ds := us.map D.at) h
    have a' : v = u := by unfold RD at a; exact a
    rw [a', ih b]
theorem RDs.of_atoms : ∀ (us : List V), RDs K H S us (us.map D.at)
  | [] => .nil
  | u :: us => .cons (d := D.at u) (by unfold RD; rfl) (RDs.of_atoms us)
theorem RD.at_ {v u : V} (h : RD K H S v (.at u)) : v = u := by unfold RD at h; exact h
theorem RD.of (v : V) : RD K H S v (.at v) := by unfold RD; rfl
theorem RD.tup_ {v : V} {ds : List D} (h : RD K H S v (.tup ds)) : ∃ a vs, v = .ref a ∧ H a = some (.tup vs) ∧ RDs K H S vs ds := by unfold RD at h; exact h
theorem RD.of_tup {a : Addr} {vs : List V} {ds : List D} (h : H a = some (.tup vs)) (k : RDs K H S vs ds) : RD K H S (.ref a) (.tup ds) := by
  unfold RD; exact ⟨a, vs, rfl, h, k⟩

theorem RD.wt_ {v : V} {ds : List D} (h : RD K H S v (.wt ds)) : ∃ a vs, v = .ref a ∧ Wt K.k a vs ∧ RDs K H S vs ds := by unfold RD at h; exact h
theorem RD.of_wt {a : Addr} {vs : List V} {ds : List D} (h : Wt K.k a vs) (k : RDs K H S vs ds) : RD K H S (.ref a) (.wt ds) := by
  unfold RD; exact ⟨a, vs, rfl, h, k⟩
theorem RD.fl_ {v : V} {ds : List D} (h : RD K H S v (.fl ds)) : ∃ a vs, v = .ref a ∧ Fz K H S a vs ∧ RDs K H S vs ds := by unfold RD at h; exact h
theorem RD.of_fl {a : Addr} {vs : List V} {ds : List D} (h : Fz K H S a vs) (k : RDs K H S vs ds) : RD K H S (.ref a) (.fl ds) := by
  unfold RD; exact ⟨a, vs, rfl, h, k⟩
/-- tuples and frozen lists stay -/
structure TupLe (K : Kx) (H : Hp) (S : Sto) (K' : Kx) (H' : Hp) (S' : Sto) : Prop where
  t : ∀ a xs, H a = some (.tup xs) → H' a = some (.tup xs)
  w : ∀ a xs, Wt K.k a xs → Wt K'.k a xs
  l : ∀ a xs, Fz K H S a xs → Fz K' H' S' a xs
mutual
theorem RD.le (le : TupLe K H S K' H' S') : ∀ {v : V} {d : D}, RD K H S v d → RD K' H' S' v d
  | v, .at u, h => by rw [h.at_]; exact .of _
  | v, .tup ds, h => by
    obtain ⟨a, vs, rfl, t, r⟩ := h.tup_
    exact .of_tup (le.t _ _ t) (RDs.le le r)
  | v, .wt ds, h => by
    obtain ⟨a, vs, rfl, t, r⟩ := h.wt_
    exact .of_wt (le.w _ _ t) (RDs.le le r)
  | v, .fl ds, h => by
    obtain ⟨a, vs, rfl, t, r⟩ := h.fl_
    exact .of_fl (le.l _ _ t) (RDs.le le r)
theorem RDs.le (le : TupLe K H S K' H' S') : ∀ {vs : List V} {ds : List D}, RDs K H S vs ds → RDs K' H' S' vs ds
  | vs, [], h => by rw [h.inv_nil]; exact .nil
  | vs, d :: ds, h => by
    obtain ⟨v, ws, rfl, a, b⟩ := h.inv_cons
    exact .cons (RD.le le a) (RDs.le le b)
end
end

end DL

/-! Data layer, second part: how the store lies over the abstract heap; readings over data, lifted. -/
namespace DL
open PySem L2

/-- what the store says of an address, over the abstract heap -/
def RO (K : Kx) (H : Hp) (S : Sto) (a : Addr) : MO → Prop
  | .lst ds => ∃ vs, H a = some (.lst vs) ∧ RDs K H S vs ds
  | .dk kvs => ∃ ks, H a = some (.dK ks) ∧ ks.map (·.1) = kvs.map (·.1) ∧ RDs K H S (ks.map (·.2)) (kvs.map (·.2))
  | .dt kvs => ∃ ks, H a = some (.dT ks) ∧ ks.map (·.1) = kvs.map (·.1) ∧ RDs K H S (ks.map (·.2)) (kvs.map (·.2))
  | .ins C fs => ∃ dx gs, H a = some (.ins C dx gs) ∧ gs.map (·.1) = fs.map (·.1) ∧ RDs K H S (gs.map (·.2)) (fs.map (·.2))
/-- the store is held -/
structure RS (K : Kx) (H : Hp) (S : Sto) : Prop where
  ob : ∀ a o, S a = some o → RO K H S a o
  hid : ∀ a, K.n a → ∃ o, H a = some o
  hidS : ∀ a, K.n a → S a = none
/-- the names' values are held -/
def RE (K : Kx) (H : Hp) (S : Sto) (σ : L2.St) (δ : List (Option D)) : Prop := σ.length = δ.length ∧ ∀ (i : Nat) (d : D), δ[i]? = some (some d) → ∃ v, σ[i]? = some (some v) ∧ RD K H S v d
/-- what the store does not speak of stays as it is -/
def Fr (H : Hp) (S : Sto) (H' : Hp) (S' : Sto) : Prop := ∀ a o, H a = some o → S a = none → H' a = some o ∧ S' a = none
/-- a smaller store -/
def Sub (S S' : Sto) : Prop := ∀ a o, S a = some o → S' a = some o

section
variable {K K' : Kx} {H H' H'' : Hp} {S S' S'' : Sto}
theorem Sub.refl : Sub S S := fun _ _ h => h
theorem Sub.trans (a : Sub S S') (b : Sub S' S'') : Sub S S'' := fun c o h => b c o (a c o h)
theorem Sub.non (a : Sub S S') {p : Addr} (h : S' p = none) : S p = none := by
  cases e : S p with
  | none => rfl
  | some o => rw [a p o e] at h; cases h
theorem Sub.u (a : Sub S S') {p : Addr} {o : MO} (h : S p = none) : Sub S (up S' p o) := fun b u e => by
  rw [up_ne (sne e h)]; exact a b u e
theorem Sub.un (a : Sub S S') {p : Addr} {o : MO} (h : S' p = none) : Sub S (up S' p o) := a.u (a.non h)
theorem Sub.u2 (a : Sub S S') {p : Addr} {o : MO} : Sub (up S p o) (up S' p o) := fun b u e => by
  by_cases z : b = p
  · subst z; rw [up_same] at e ⊢; exact e
  · rw [up_ne z] at e ⊢; exact a b u e
theorem Fr.refl : Fr H S H S := fun _ _ h k => ⟨h, k⟩
theorem Fr.trans (a : Fr H S H' S') (b : Fr H' S' H'' S'') : Fr H S H'' S'' := fun c o h k => let ⟨h', k'⟩ := a c o h k; b c o h' k'
theorem Fr.sub (a : Fr H S H' S') (b : Sub S'' S') : Fr H S H' S'' := fun c o h k => let ⟨h', k'⟩ := a c o h k; ⟨h', b.non k'⟩
/-- a tracked thing is no tuple -/
def notTup : HO → Prop
  | .tup _ => False
  | .frz _ _ => False
  | _ => True
theorem RO.some {a : Addr} {o : MO} (h : RO K H S a o) : ∃ u, H a = some u ∧ notTup u := by
  cases o with
  | lst ds => obtain ⟨vs, h1, h2⟩ := h; exact ⟨_, h1, trivial⟩
  | dk kvs => obtain ⟨ks, h1, h2, h3⟩ := h; exact ⟨_, h1, trivial⟩
  | dt kvs => obtain ⟨ks, h1, h2, h3⟩ := h; exact ⟨_, h1, trivial⟩
  | ins C fs => obtain ⟨dx, gs, h1, h2, h3⟩ := h; exact ⟨_, h1, trivial⟩
theorem RS.nofz (r : RS K H S) {a : Addr} {u : HO} (h : H a = some u) (n : ¬ notTup u) : S a = none := by
  cases e : S a with
  | none => rfl
  | some o =>
    obtain ⟨u', h1, h2⟩ := (r.ob a o e).some
    rw [h] at h1; cases h1; exact (n h2).elim
theorem RS.le (r : RS K H S) (f : Fr H S H' S') : TupLe K H S K H' S' := by
  refine ⟨fun a xs h => (f a _ h (r.nofz h fun z => z)).1, fun _ _ h => h, fun a xs h => ?_⟩
  rcases h with ⟨h | ⟨o, h⟩, n⟩ | h
  · exact .inl ⟨.inl (f a _ h n.1).1, (f a _ h n.1).2, n.2⟩
  · exact .inl ⟨.inr ⟨o, (f a _ h n.1).1⟩, (f a _ h n.1).2, n.2⟩
  · exact .inr h
theorem Sub.le (b : Sub S' S) : TupLe K H S K H S' := ⟨fun a xs h => h, fun _ _ h => h, fun a xs h => h.elim (fun ⟨x, n, m⟩ => .inl ⟨x, b.non n, m⟩) .inr⟩
theorem TupLe.trans {K1 K2 K3 : Kx} {H1 H2 H3 : Hp} {S1 S2 S3 : Sto} (a : TupLe K1 H1 S1 K2 H2 S2) (b : TupLe K2 H2 S2 K3 H3 S3) : TupLe K1 H1 S1 K3 H3 S3 := ⟨fun c xs h => b.t c xs (a.t c xs h), fun c xs h => b.w c xs (a.w c xs h), fun c xs h => b.l c xs (a.l c xs h)⟩
theorem RE.le {σ : L2.St} {δ : List (Option D)} (le : TupLe K H S K' H' S') (r : RE K H S σ δ) : RE K' H' S' σ δ :=
  ⟨r.1, fun i d e => let ⟨v, h, q⟩ := r.2 i d e; ⟨v, h, q.le le⟩⟩
theorem RE.set {σ : L2.St} {δ : List (Option D)} (r : RE K H S σ δ) {v : V} {d : D} (q : RD K H S v d) (i : Nat) : RE K H S (σ.set i (some v)) (δ.set i (some d)) := by
  refine ⟨by simp [r.1], fun j e h => ?_⟩
  by_cases hj : i = j
  · subst hj
    by_cases hl : i < δ.length
    · rw [List.getElem?_set_self hl] at h
      cases h
      exact ⟨v, by rw [List.getElem?_set_self (by rw [r.1]; exact hl)], q⟩
    · rw [List.getElem?_eq_none (by simp; omega)] at h
      cases h
  · rw [List.getElem?_set_ne hj] at h ⊢
    exact r.2 j e h
theorem RO.le (le : TupLe K H S K' H' S') {a : Addr} {o : MO} (e : H' a = H a) (h : RO K H S a o) : RO K' H' S' a o := by
  cases o with
  | lst ds => obtain ⟨vs, h1, h2⟩ := h; exact ⟨vs, e.trans h1, h2.le le⟩
  | dk kvs => obtain ⟨ks, h1, h2, h3⟩ := h; exact ⟨ks, e.trans h1, h2, h3.le le⟩
  | dt kvs => obtain ⟨ks, h1, h2, h3⟩ := h; exact ⟨ks, e.trans h1, h2, h3.le le⟩
  | ins C fs => obtain ⟨dx, gs, h1, h2, h3⟩ := h; exact ⟨dx, gs, e.trans h1, h2, h3.le le⟩
theorem RS.free (r : RS K H S) {p : Addr} (h : H p = none) : S p = none := by
  cases e : S p with
  | none => rfl
  | some o =>
    obtain ⟨u, h1, _⟩ := (r.ob p o e).some
    rw [h] at h1; cases h1
theorem RS.sub (r : RS K H S) (h : Sub S' S) : RS K H S' := ⟨fun a o e => (r.ob a o (h a o e)).le h.le rfl, r.hid, fun a n => h.non (r.hidS a n)⟩
theorem RS.kn (r : RS K H S) {p : Addr} {o : MO} (h : S p = some o) : ¬ K.n p := fun z => by rw [r.hidS p z] at h; cases h
theorem hid_upd {p : Addr} {o : HO} (r : ∀ a, K.n a → ∃ o, H a = some o) : ∀ a, K.n a → ∃ u, upd H p o a = some u := fun a h => by
  by_cases z : a = p
  · subst z; exact ⟨o, upd_same⟩
  · rw [upd_ne z]; exact r a h
theorem RS.nhid (r : RS K H S) {p : Addr} (h : H p = none) : ¬ K.n p := fun z => by
  obtain ⟨o, e⟩ := r.hid p z
  rw [h] at e; cases e
/-- a tuple new, or any other thing that the store does not speak of -/
theorem RS.laid (r : RS K H S) {p : Addr} {o : HO} (h : H p = none) : RS K (upd H p o) S ∧ Fr H S (upd H p o) S ∧ TupLe K H S K (upd H p o) S := by
  have f : Fr H S (upd H p o) S := fun a u e k => ⟨by rw [upd_ne (ne_of_none e h)]; exact e, k⟩
  have le := r.le f
  refine ⟨⟨fun a u e => ?_, hid_upd r.hid, r.hidS⟩, f, le⟩
  have q := r.ob a u e
  have ne : a ≠ p := fun z => by subst z; rw [r.free h] at e; cases e
  exact q.le le (upd_ne ne)
/-- a mutable thing new -/
theorem RS.new (r : RS K H S) {p : Addr} {o : HO} {m : MO} (h : H p = none) (q : TupLe K H S K (upd H p o) (up S p m) → RO K (upd H p o) (up S p m) p m) : RS K (upd H p o) (up S p m) ∧ Fr H S (upd H p o) (up S p m) := by
  have f : Fr H S (upd H p o) (up S p m) := fun x u e k => by
    have ne := ne_of_none e h
    exact ⟨by rw [upd_ne ne]; exact e, by rw [up_ne ne]; exact k⟩
  have le := r.le f
  refine ⟨⟨fun x u e => ?_, hid_upd r.hid, fun a n => by rw [up_ne (fun z => by subst z; exact r.nhid h n)]; exact r.hidS a n⟩, f⟩
  by_cases z : x = p
  · subst z; rw [up_same] at e; cases e; exact q le
  · rw [up_ne z] at e; exact (r.ob x u e).le le (upd_ne z)
/-- a mutable thing changed -/
theorem RS.write (r : RS K H S) {p : Addr} {o : HO} {m m' : MO} (h : S p = some m) (q : TupLe K H S K (upd H p o) (up S p m') → RO K (upd H p o) (up S p m') p m') : RS K (upd H p o) (up S p m') ∧ Fr H S (upd H p o) (up S p m') := by
  have f : Fr H S (upd H p o) (up S p m') := fun a u e k => by
    have ne : a ≠ p := fun z => by subst z; rw [h] at k; cases k
    exact ⟨by rw [upd_ne ne]; exact e, by rw [up_ne ne]; exact k⟩
  have le := r.le f
  refine ⟨⟨fun x u e => ?_, hid_upd r.hid, fun a n => by rw [up_ne (fun z => by subst z; exact r.kn h n)]; exact r.hidS a n⟩, f⟩
  by_cases z : x = p
  · subst z; rw [up_same] at e; cases e; exact q le
  · rw [up_ne z] at e; exact (r.ob x u e).le le (upd_ne z)
end

/-! ### readings over data -/
abbrev DSt := List (Option D)
abbrev KD := D → Sto → Prop
abbrev TDE := DSt → Sto → KD → Prop
abbrev TDT := DSt → Sto → (Bool → Sto → Prop) → Prop
abbrev TDA := DSt → Sto → (List D → Sto → Prop) → Prop
structure DEnds where
  nx : DSt → Sto → Prop
  rt : KD
  bk : DSt → Sto → Prop := fun _ _ => False
  ct : DSt → Sto → Prop := fun _ _ => False
abbrev TDS := DEnds → DSt → Sto → Prop
abbrev TDG := D → DSt → Sto → (DSt → Sto → Prop) → Prop
abbrev TDGs := List D → DSt → Sto → (DSt → Sto → Prop) → Prop

section
variable (K : PySem.W.Frag)
/-- behind a step -/
structure Bh (K : Kx) (H : Hp) (S : Sto) (H' : Hp) (S' : Sto) : Prop where
  fr : Fr H S H' S'
  rs : RS K H' S'
def lE (t : TDE) : TE := fun σ H Q => ∃ N δ S Q', RE ⟨K, N⟩ H S σ δ ∧ RS ⟨K, N⟩ H S ∧ t δ S Q' ∧ ∀ d S' v H', Bh ⟨K, N⟩ H S H' S' → RD ⟨K, N⟩ H' S' v d → Q' d S' → Q v H'
def lT (t : TDT) : TT := fun σ H Q => ∃ N δ S Q', RE ⟨K, N⟩ H S σ δ ∧ RS ⟨K, N⟩ H S ∧ t δ S Q' ∧ ∀ b S' H', Bh ⟨K, N⟩ H S H' S' → Q' b S' → Q b H'
def lA (t : TDA) : TA := fun σ H Q => ∃ N δ S Q', RE ⟨K, N⟩ H S σ δ ∧ RS ⟨K, N⟩ H S ∧ t δ S Q' ∧ ∀ ds S' vs H', Bh ⟨K, N⟩ H S H' S' → RDs ⟨K, N⟩ H' S' vs ds → Q' ds S' → Q vs H'
def lG (t : TDG) : TG := fun v σ H Q => ∃ N d δ S Q', RD ⟨K, N⟩ H S v d ∧ RE ⟨K, N⟩ H S σ δ ∧ RS ⟨K, N⟩ H S ∧ t d δ S Q' ∧ ∀ δ' S' σ' H', Bh ⟨K, N⟩ H S H' S' → RE ⟨K, N⟩ H' S' σ' δ' → Q' δ' S' → Q σ' H'
def lGs (t : TDGs) : TGs := fun vs σ H Q => ∃ N ds δ S Q', RDs ⟨K, N⟩ H S vs ds ∧ RE ⟨K, N⟩ H S σ δ ∧ RS ⟨K, N⟩ H S ∧ t ds δ S Q' ∧ ∀ δ' S' σ' H', Bh ⟨K, N⟩ H S H' S' → RE ⟨K, N⟩ H' S' σ' δ' → Q' δ' S' → Q σ' H'
structure LEnds (K : Kx) (D' : DEnds) (H : Hp) (S : Sto) (D : Ends) : Prop where
  nx : ∀ δ' S' σ' H', Bh K H S H' S' → RE K H' S' σ' δ' → D'.nx δ' S' → D.nx σ' H'
  rt : ∀ d S' v H', Bh K H S H' S' → RD K H' S' v d → D'.rt d S' → D.rt v H'
  bk : ∀ δ' S' σ' H', Bh K H S H' S' → RE K H' S' σ' δ' → D'.bk δ' S' → D.bk σ' H'
  ct : ∀ δ' S' σ' H', Bh K H S H' S' → RE K H' S' σ' δ' → D'.ct δ' S' → D.ct σ' H'
def lS (t : TDS) : TS := fun D σ H => ∃ N δ S D', RE ⟨K, N⟩ H S σ δ ∧ RS ⟨K, N⟩ H S ∧ t D' δ S ∧ LEnds ⟨K, N⟩ D' H S D
end

section
variable {K : Kx} {H H' H'' : Hp} {S S' S'' : Sto}
theorem Bh.refl (r : RS K H S) : Bh K H S H S := ⟨.refl, r⟩
theorem Bh.trans (a : Bh K H S H' S') (b : Bh K H' S' H'' S'') : Bh K H S H'' S'' := ⟨a.fr.trans b.fr, b.rs⟩
theorem LEnds.from {D' : DEnds} {D : Ends} (l : LEnds K D' H S D) (b : Bh K H S H' S') : LEnds K D' H' S' D :=
  ⟨fun δ' S2 σ' H2 c => l.nx δ' S2 σ' H2 (b.trans c), fun d S2 v H2 c => l.rt d S2 v H2 (b.trans c), fun δ' S2 σ' H2 c => l.bk δ' S2 σ' H2 (b.trans c), fun δ' S2 σ' H2 c => l.ct δ' S2 σ' H2 (b.trans c)⟩
end

section
variable {X : Cx}
theorem PE.wk {e : Expr} {t t' : TE} (h : PE X e t) (k : ∀ σ H Q, t' σ H Q → t σ H Q) : PE X e t' := ⟨fun pins s σ H Q I q => h.run pins s σ H Q I (k σ H Q q)⟩
theorem PT.wk {e : Expr} {t t' : TT} (h : PT X e t) (k : ∀ σ H Q, t' σ H Q → t σ H Q) : PT X e t' := ⟨fun pins s σ H Q I q => h.run pins s σ H Q I (k σ H Q q)⟩
theorem PW.wk {e : Expr} {t t' : TT} (h : PW X e t) (k : ∀ σ H Q, t' σ H Q → t σ H Q) : PW X e t' := ⟨fun wh pins s σ H Q I q => h.run wh pins s σ H Q I (k σ H Q q)⟩
theorem PA.wk {e : List Expr} {t t' : TA} (h : PA X e t) (k : ∀ σ H Q, t' σ H Q → t σ H Q) : PA X e t' := ⟨fun pos pins s σ H Q I q => h.run pos pins s σ H Q I (k σ H Q q)⟩
theorem PS.wk {st : Stmt} {t t' : TS} (h : PS X st t) (k : ∀ D σ H, t' D σ H → t D σ H) : PS X st t' := ⟨fun pins s σ H D I q => h.run pins s σ H D I (k D σ H q)⟩
theorem PSs.wk {st : List Stmt} {t t' : TS} (h : PSs X st t) (k : ∀ D σ H, t' D σ H → t D σ H) : PSs X st t' := ⟨fun pins s σ H D I q => h.run pins s σ H D I (k D σ H q)⟩
theorem PG.wk {e : Expr} {t t' : TG} (h : PG X e t) (k : ∀ v σ H Q, t' v σ H Q → t v σ H Q) : PG X e t' := ⟨fun pins s σ H v u Q I r q => h.run pins s σ H v u Q I r (k v σ H Q q)⟩
theorem PGs.wk {e : List Expr} {t t' : TGs} (h : PGs X e t) (k : ∀ v σ H Q, t' v σ H Q → t v σ H Q) : PGs X e t' := ⟨fun pins s σ H v u Q I r q => h.run pins s σ H v u Q I r (k v σ H Q q)⟩

/-! names, constants -/
def dVar (i : Nat) : TDE := fun δ S Q => ∃ d, δ[i]? = some (some d) ∧ Q d S
theorem de_var (i : Nat) {x : Str} {pos : Pos} (hN : X.N[i]? = some x := by rfl) (hv : Vis X.env.scope x := by first | exact Or.inl rfl | exact Or.inr (Or.inl rfl) | exact Or.inr (Or.inr rfl)) (hd : (x == ("__debug__" : Str)) = false := by decide)
    (hcd : (x == ("__classdict__" : Str)) = false := by decide) : PE X (.Name x pos) (lE X.K (dVar i)) :=
  PE.wk (pv i hN hv hd hcd) fun σ H Q ⟨N, δ, S, Q', re, rs, ⟨d, e, q⟩, k⟩ => by
    obtain ⟨v, h, r⟩ := re.2 i d e
    exact ⟨v, h, k d S v H (.refl rs) r q⟩
def dC (d : D) : TDE := fun _ S Q => Q d S
theorem de_of {e : Expr} {v : V} {d : D} (h : PE X e (tC v)) (r : ∀ N H S, RD ⟨X.K, N⟩ H S v d) : PE X e (lE X.K (dC d)) :=
  PE.wk h fun σ H Q ⟨N, δ, S, Q', re, rs, q, k⟩ => k d S v H (.refl rs) (r N H S) q
theorem de_int {i j pos} : PE X (.Constant (.int i) j pos) (lE X.K (dC (.int i))) := de_of pe_int fun _ _ _ => .of _
theorem de_bl {b j pos} : PE X (.Constant (.bool b) j pos) (lE X.K (dC (.bl b))) := de_of pe_bl fun _ _ _ => .of _
theorem de_non {j pos} : PE X (.Constant .none j pos) (lE X.K (dC .non)) := de_of pe_non fun _ _ _ => .of _
theorem de_str {x j pos} : PE X (.Constant (.str x) j pos) (lE X.K (dC (.str x))) := de_of pe_str fun _ _ _ => .of _
/-- a constant of the module: a written thing -/
theorem de_glob {x : Str} {v : V} {u : Value} {d : D} {pos : Pos} (hg : Gl X x) (hm : X.mg x = some u) (r : RelV v u) (q : ∀ N H S, RD ⟨X.K, N⟩ H S v d) (hd : (x == ("__debug__" : Str)) = false := by decide) : PE X (.Name x pos) (lE X.K (dC d)) :=
  de_of (pe_glob hg hm r hd) q

/-! two things by values -/
abbrev RD2 := D → D → Sto → KD → Prop
abbrev RD1 := D → Sto → KD → Prop
abbrev RDL := List D → Sto → KD → Prop
def l2 (K : PySem.W.Frag) (r : RD2) : R2 := fun v u H Q => ∃ N x y S Q', RD ⟨K, N⟩ H S v x ∧ RD ⟨K, N⟩ H S u y ∧ RS ⟨K, N⟩ H S ∧ r x y S Q' ∧ ∀ d S' w H', Bh ⟨K, N⟩ H S H' S' → RD ⟨K, N⟩ H' S' w d → Q' d S' → Q w H'
def l1 (K : PySem.W.Frag) (r : RD1) : V → Hp → VK → Prop := fun v H Q => ∃ N x S Q', RD ⟨K, N⟩ H S v x ∧ RS ⟨K, N⟩ H S ∧ r x S Q' ∧ ∀ d S' w H', Bh ⟨K, N⟩ H S H' S' → RD ⟨K, N⟩ H' S' w d → Q' d S' → Q w H'
def lL (K : PySem.W.Frag) (r : RDL) : List V → Hp → VK → Prop := fun vs H Q => ∃ N xs S Q', RDs ⟨K, N⟩ H S vs xs ∧ RS ⟨K, N⟩ H S ∧ r xs S Q' ∧ ∀ d S' w H', Bh ⟨K, N⟩ H S H' S' → RD ⟨K, N⟩ H' S' w d → Q' d S' → Q w H'
def dOp (r : RD2) (ta tb : TDE) : TDE := fun δ S Q => ta δ S fun x S1 => tb δ S1 fun y S2 => r x y S2 Q
def dUn (r : RD1) (ta : TDE) : TDE := fun δ S Q => ta δ S fun x S1 => r x S1 Q
theorem lift_op {K : PySem.W.Frag} {r : RD2} {ta tb : TDE} {σ : L2.St} {H : Hp} {Q : VK} (h : lE K (dOp r ta tb) σ H Q) : tOp (l2 K r) (lE K ta) (lE K tb) σ H Q := by
  obtain ⟨N, δ, S, Q', re, rs, q, k⟩ := h
  refine ⟨N, δ, S, _, re, rs, q, fun x S1 v H1 b1 rx q1 => ?_⟩
  refine ⟨N, δ, S1, _, re.le (rs.le b1.fr), b1.rs, q1, fun y S2 u H2 b2 ry q2 => ?_⟩
  exact ⟨N, x, y, S2, Q', rx.le (b1.rs.le b2.fr), ry, b2.rs, q2, fun d S' w H' b3 => k d S' w H' ((b1.trans b2).trans b3)⟩
theorem lift_un {K : PySem.W.Frag} {r : RD1} {ta : TDE} {σ : L2.St} {H : Hp} {Q : VK} (h : lE K (dUn r ta) σ H Q) : tUn (l1 K r) (lE K ta) σ H Q := by
  obtain ⟨N, δ, S, Q', re, rs, q, k⟩ := h
  refine ⟨N, δ, S, _, re, rs, q, fun x S1 v H1 b1 rx q1 => ?_⟩
  exact ⟨N, x, S1, Q', rx, b1.rs, q1, fun d S' w H' b3 => k d S' w H' (b1.trans b3)⟩
variable {a b c : Expr} {ta tb tc : TDE} {pos : Pos} {r r' : RD2}
theorem de_op {op : Operator} (ho : OpR X (binaryOp op) (l2 X.K r)) (ha : PE X a (lE X.K ta)) (hb : PE X b (lE X.K tb)) : PE X (.BinOp a op b pos) (lE X.K (dOp r ta tb)) :=
  PE.wk (pe_op ho ha hb) fun _ _ _ h => lift_op h
theorem de_un {op : UnaryOp} {r : RD1} (ho : UnR X (unaryOp op) (l1 X.K r)) (ha : PE X a (lE X.K ta)) : PE X (.UnaryOp op a pos) (lE X.K (dUn r ta)) :=
  PE.wk (pe_un ho ha) fun _ _ _ h => lift_un h
theorem de_cmp {op : CmpOp} (ho : OpR X (compareOp op) (l2 X.K r)) (ha : PE X a (lE X.K ta)) (hb : PE X b (lE X.K tb)) (hm : behindInMarks op b = false := by first | exact nobehind _ (by decide) (by decide) | rfl) : PE X (.Compare a [op] [b] pos) (lE X.K (dOp r ta tb)) :=
  PE.wk (pe_cmpR ho ha hb hm) fun _ _ _ h => lift_op h
theorem de_ix (ho : IxR X (l2 X.K r)) (ha : PE X a (lE X.K ta)) (hb : PE X b (lE X.K tb)) (hs : PlainIx b := by exact fun _ _ => rfl) : PE X (.Subscript a b pos) (lE X.K (dOp r ta tb)) :=
  PE.wk (pe_ix ho ha hb hs) fun _ _ _ h => lift_op h
/-- a < b < c -/
def dChain (r r' : RD2) (ta tb tc : TDE) : TDE := fun δ S Q => ta δ S fun x S1 => tb δ S1 fun y S2 => r x y S2 fun z S3 => ∃ k, z = .bl k ∧ (if k = true then tc δ S3 fun w S4 => r' y w S4 Q else Q (.bl false) S3)
theorem de_chain {op op' : CmpOp} (ho : OpR X (compareOp op) (l2 X.K r)) (ho' : OpR X (compareOp op') (l2 X.K r')) (ha : PE X a (lE X.K ta)) (hb : PE X b (lE X.K tb)) (hc : PE X c (lE X.K tc)) (hm : lastMarks [op, op'] [b, c] = false := by first | rfl | decide) : PE X (.Compare a [op, op'] [b, c] pos) (lE X.K (dChain r r' ta tb tc)) :=
  PE.wk (pe_chain ho ho' ha hb hc hm) fun σ H Q ⟨N, δ, S, Q', re, rs, q, k⟩ => by
    refine ⟨N, δ, S, _, re, rs, q, fun x S1 v H1 b1 rx q1 => ?_⟩
    refine ⟨N, δ, S1, _, re.le (rs.le b1.fr), b1.rs, q1, fun y S2 u H2 b2 ry q2 => ?_⟩
    refine ⟨N, x, y, S2, _, rx.le (b1.rs.le b2.fr), ry, b2.rs, q2, fun z S3 w H3 b3 rz q3 => ?_⟩
    obtain ⟨i, rfl, q3⟩ := q3
    refine ⟨i, rz.at_, ?_⟩
    have bb := (b1.trans b2).trans b3
    cases i with
    | true =>
      rw [if_pos rfl] at q3 ⊢
      refine ⟨N, δ, S3, _, re.le (rs.le bb.fr), b3.rs, q3, fun w' S4 x' H4 b4 rw' q4 => ?_⟩
      exact ⟨N, y, w', S4, Q', (ry.le (b2.rs.le b3.fr)).le (b3.rs.le b4.fr), rw', b4.rs, q4, fun d S' w2 H' b5 => k d S' w2 H' ((bb.trans b4).trans b5)⟩
    | false =>
      rw [if_neg Bool.false_ne_true] at q3 ⊢
      exact k _ S3 _ H3 bb (.of _) q3

/-! tests -/
/-- a value's truth -/
def lTr (K : PySem.W.Frag) (r : D → Sto → (Bool → Sto → Prop) → Prop) : V → Hp → (Bool → Hp → Prop) → Prop := fun v H Q => ∃ N x S Q', RD ⟨K, N⟩ H S v x ∧ RS ⟨K, N⟩ H S ∧ r x S Q' ∧ ∀ b S' H', Bh ⟨K, N⟩ H S H' S' → Q' b S' → Q b H'
def dTr (r : D → Sto → (Bool → Sto → Prop) → Prop) (ta : TDE) : TDT := fun δ S Q => ta δ S fun x S1 => r x S1 Q
theorem dt_tr {r : D → Sto → (Bool → Sto → Prop) → Prop} (hr : TruR X (lTr X.K r)) {e : Expr} {t : TDE} (he : PE X e (lE X.K t)) (hw : ∀ whole, isTrue e X.env whole = (do let v ← whole; standAt e.pos; holding [v] (truthy v)) := by intro _; rfl) : PT X e (lT X.K (dTr r t)) := by
  refine ⟨fun pins s σ H Q I h => ?_⟩
  obtain ⟨N, δ, S, Q', re, rs, q, k⟩ := h
  refine PyProof.Rows.isTrue_plain (thn (he.run pins s σ H _ I ⟨N, δ, S, _, re, rs, q, fun x S1 v H1 b1 rx q1 => (show lTr X.K r v H1 Q from ⟨N, x, S1, Q', rx, b1.rs, q1, fun b S' H' b2 => k b S' H' (b1.trans b2)⟩)⟩) fun v s1 hh => ?_) (hw _)
  obtain ⟨x, H1, I1, r1, q1⟩ := hh
  exact hr pins s1 σ H1 x v Q I1 r1 q1
/-- a comparison as a test: its value a bool -/
def dB (t : TDE) : TDT := fun δ S Q => t δ S fun x S1 => ∃ c, x = .bl c ∧ Q c S1
theorem lift_B {K : PySem.W.Frag} {t : TDE} {σ : L2.St} {H : Hp} {Q : Bool → Hp → Prop} (h : lT K (dB t) σ H Q) : tB (lE K t) σ H Q := by
  obtain ⟨N, δ, S, Q', re, rs, q, k⟩ := h
  refine ⟨N, δ, S, _, re, rs, q, fun x S1 v H1 b1 rx q1 => ?_⟩
  obtain ⟨c, rfl, q1⟩ := q1
  exact ⟨c, rx.at_, k c S1 H1 b1 q1⟩
theorem dt_val {e : Expr} {t : TDE} (h : PE X e (lE X.K t)) (he : ∀ whole, isTrue e X.env whole = (do let v ← whole; standAt e.pos; holding [v] (truthy v)) := by intro _; rfl) : PT X e (lT X.K (dB t)) :=
  PT.wk (pt_val h he) fun _ _ _ h => lift_B h
theorem dt_cmp {op : CmpOp} (ho : OpR X (compareOp op) (l2 X.K r)) (ha : PE X a (lE X.K ta)) (hb : PE X b (lE X.K tb)) (hm : behindInMarks op b = false := by first | exact nobehind _ (by decide) (by decide) | rfl) : PT X (.Compare a [op] [b] pos) (lT X.K (dB (dOp r ta tb))) :=
  PT.wk (pt_cmpR ho ha hb hm) fun _ _ _ ⟨N, δ, S, Q', re, rs, q, k⟩ => by
    refine ⟨N, δ, S, _, re, rs, q, fun x S1 v H1 b1 rx q1 => ?_⟩
    refine ⟨N, δ, S1, _, re.le (rs.le b1.fr), b1.rs, q1, fun y S2 u H2 b2 ry q2 => ?_⟩
    refine ⟨N, x, y, S2, _, rx.le (b1.rs.le b2.fr), ry, b2.rs, q2, fun z S3 w H3 b3 rz q3 => ?_⟩
    obtain ⟨c, rfl, q3⟩ := q3
    exact ⟨c, rz.at_, k c S3 H3 ((b1.trans b2).trans b3) q3⟩
def dAnd (t u : TDT) : TDT := fun δ S Q => t δ S fun c S1 => if c = true then u δ S1 Q else Q false S1
def dOr (t u : TDT) : TDT := fun δ S Q => t δ S fun c S1 => if c = true then Q true S1 else u δ S1 Q
def dNot (t : TDT) : TDT := fun δ S Q => t δ S fun c S1 => Q (!c) S1
variable {tA tB' : TDT} {rest : List Expr}
theorem dw_and1 (ha : PT X a (lT X.K tA)) : PW X (.BoolOp .And [a] pos) (lT X.K tA) := pw_and1 ha
theorem dw_or1 (ha : PT X a (lT X.K tA)) : PW X (.BoolOp .Or [a] pos) (lT X.K tA) := pw_or1 ha
theorem dw_and (ha : PT X a (lT X.K tA)) (hb : PW X (.BoolOp .And (b :: rest) pos) (lT X.K tB')) : PW X (.BoolOp .And (a :: b :: rest) pos) (lT X.K (dAnd tA tB')) :=
  PW.wk (pw_and ha hb) fun _ _ _ ⟨N, δ, S, Q', re, rs, q, k⟩ => by
    refine ⟨N, δ, S, _, re, rs, q, fun c S1 H1 b1 q1 => ?_⟩
    cases c with
    | true => rw [if_pos rfl] at q1 ⊢; exact ⟨N, δ, S1, Q', re.le (rs.le b1.fr), b1.rs, q1, fun c S' H' b2 => k c S' H' (b1.trans b2)⟩
    | false => rw [if_neg Bool.false_ne_true] at q1 ⊢; exact k _ S1 H1 b1 q1
theorem dw_or (ha : PT X a (lT X.K tA)) (hb : PW X (.BoolOp .Or (b :: rest) pos) (lT X.K tB')) : PW X (.BoolOp .Or (a :: b :: rest) pos) (lT X.K (dOr tA tB')) :=
  PW.wk (pw_or ha hb) fun _ _ _ ⟨N, δ, S, Q', re, rs, q, k⟩ => by
    refine ⟨N, δ, S, _, re, rs, q, fun c S1 H1 b1 q1 => ?_⟩
    cases c with
    | true => rw [if_pos rfl] at q1 ⊢; exact k _ S1 H1 b1 q1
    | false => rw [if_neg Bool.false_ne_true] at q1 ⊢; exact ⟨N, δ, S1, Q', re.le (rs.le b1.fr), b1.rs, q1, fun c S' H' b2 => k c S' H' (b1.trans b2)⟩
theorem dt_not (ha : PT X a (lT X.K tA)) : PT X (.UnaryOp .Not a pos) (lT X.K (dNot tA)) :=
  PT.wk (pt_not ha) fun _ _ _ ⟨N, δ, S, Q', re, rs, q, k⟩ => ⟨N, δ, S, _, re, rs, q, fun c S1 H1 b1 q1 => k _ S1 H1 b1 q1⟩
def dIf (t : TDT) (ta tb : TDE) : TDE := fun δ S Q => t δ S fun c S1 => if c = true then ta δ S1 Q else tb δ S1 Q
theorem de_ifExp (hc : PT X c (lT X.K tA)) (ha : PE X a (lE X.K ta)) (hb : PE X b (lE X.K tb)) : PE X (.IfExp c a b pos) (lE X.K (dIf tA ta tb)) :=
  PE.wk (pe_ifExp hc ha hb) fun _ _ _ ⟨N, δ, S, Q', re, rs, q, k⟩ => by
    refine ⟨N, δ, S, _, re, rs, q, fun i S1 H1 b1 q1 => ?_⟩
    cases i with
    | true => rw [if_pos rfl] at q1 ⊢; exact ⟨N, δ, S1, Q', re.le (rs.le b1.fr), b1.rs, q1, fun d S' v H' b2 => k d S' v H' (b1.trans b2)⟩
    | false => rw [if_neg Bool.false_ne_true] at q1 ⊢; exact ⟨N, δ, S1, Q', re.le (rs.le b1.fr), b1.rs, q1, fun d S' v H' b2 => k d S' v H' (b1.trans b2)⟩
/-- and, or, not as values of bools -/
def dAndV (ta tb : TDE) : TDE := fun δ S Q => ta δ S fun x S1 => ∃ c, x = .bl c ∧ if c = true then tb δ S1 Q else Q (.bl false) S1
def dOrV (ta tb : TDE) : TDE := fun δ S Q => ta δ S fun x S1 => ∃ c, x = .bl c ∧ if c = true then Q (.bl true) S1 else tb δ S1 Q
def dNotV (ta : TDE) : TDE := fun δ S Q => ta δ S fun x S1 => ∃ c, x = .bl c ∧ Q (.bl (!c)) S1
theorem de_one {op} {t : TDE} (h : PE X a (lE X.K t)) : PE X (.BoolOp op [a] pos) (lE X.K t) := pe_one h
theorem de_and (ha : PE X a (lE X.K ta)) (hb : PE X (.BoolOp .And (b :: rest) pos) (lE X.K tb)) : PE X (.BoolOp .And (a :: b :: rest) pos) (lE X.K (dAndV ta tb)) :=
  PE.wk (pe_and ha hb) fun _ _ _ ⟨N, δ, S, Q', re, rs, q, k⟩ => by
    refine ⟨N, δ, S, _, re, rs, q, fun x S1 v H1 b1 rx q1 => ?_⟩
    obtain ⟨c, rfl, q1⟩ := q1
    refine ⟨c, rx.at_, ?_⟩
    cases c with
    | true => rw [if_pos rfl] at q1 ⊢; exact ⟨N, δ, S1, Q', re.le (rs.le b1.fr), b1.rs, q1, fun d S' v H' b2 => k d S' v H' (b1.trans b2)⟩
    | false => rw [if_neg Bool.false_ne_true] at q1 ⊢; exact k _ S1 _ H1 b1 (.of _) q1
theorem de_or (ha : PE X a (lE X.K ta)) (hb : PE X (.BoolOp .Or (b :: rest) pos) (lE X.K tb)) : PE X (.BoolOp .Or (a :: b :: rest) pos) (lE X.K (dOrV ta tb)) :=
  PE.wk (pe_or ha hb) fun _ _ _ ⟨N, δ, S, Q', re, rs, q, k⟩ => by
    refine ⟨N, δ, S, _, re, rs, q, fun x S1 v H1 b1 rx q1 => ?_⟩
    obtain ⟨c, rfl, q1⟩ := q1
    refine ⟨c, rx.at_, ?_⟩
    cases c with
    | true => rw [if_pos rfl] at q1 ⊢; exact k _ S1 _ H1 b1 (.of _) q1
    | false => rw [if_neg Bool.false_ne_true] at q1 ⊢; exact ⟨N, δ, S1, Q', re.le (rs.le b1.fr), b1.rs, q1, fun d S' v H' b2 => k d S' v H' (b1.trans b2)⟩
theorem de_not (ha : PE X a (lE X.K ta)) : PE X (.UnaryOp .Not a pos) (lE X.K (dNotV ta)) :=
  PE.wk (pe_not ha) fun _ _ _ ⟨N, δ, S, Q', re, rs, q, k⟩ => by
    refine ⟨N, δ, S, _, re, rs, q, fun x S1 v H1 b1 rx q1 => ?_⟩
    obtain ⟨c, rfl, q1⟩ := q1
    exact ⟨c, rx.at_, k _ S1 _ H1 b1 (.of _) q1⟩

/-! arguments, displays -/
def dNil : TDA := fun _ S Q => Q [] S
def dCons (ta : TDE) (tr : TDA) : TDA := fun δ S Q => ta δ S fun x S1 => tr δ S1 fun xs S2 => Q (x :: xs) S2
variable {e : Expr} {es : List Expr} {te : TDE} {t : TDA}
theorem da_nil : PA X [] (lA X.K dNil) := PA.wk pa_nil fun σ H Q ⟨N, δ, S, Q', re, rs, q, k⟩ => k [] S [] H (.refl rs) .nil q
theorem da_cons (ha : PE X e (lE X.K te)) (hr : PA X es (lA X.K t)) (hs : starEach (e :: es) X.env = (false, eval e X.env) :: starEach es X.env := by rfl) : PA X (e :: es) (lA X.K (dCons te t)) :=
  PA.wk (pa_cons ha hr hs) fun σ H Q ⟨N, δ, S, Q', re, rs, q, k⟩ => by
    refine ⟨N, δ, S, _, re, rs, q, fun x S1 v H1 b1 rx q1 => ?_⟩
    refine ⟨N, δ, S1, _, re.le (rs.le b1.fr), b1.rs, q1, fun xs S2 vs H2 b2 rxs q2 => ?_⟩
    exact k (x :: xs) S2 (v :: vs) H2 (b1.trans b2) (.cons (rx.le (b1.rs.le b2.fr)) rxs) q2
def dTup (t : TDA) : TDE := fun δ S Q => t δ S fun xs S1 => xs.length ≤ sizeLine ∧ Q (.tup xs) S1
def dLst (t : TDA) : TDE := fun δ S Q => t δ S fun xs S1 => xs.length ≤ sizeLine ∧ ∀ p, S1 p = none → Q (.ref p) (up S1 p (.lst xs))
theorem new_tup {K : Kx} {H : Hp} {S : Sto} {p : Addr} {vs : List V} {ds : List D} (rs : RS K H S) (np : H p = none) (r : RDs K H S vs ds) : Bh K H S (upd H p (.tup vs)) S ∧ RD K (upd H p (.tup vs)) S (.ref p) (.tup ds) := by
  obtain ⟨a, b, c⟩ := rs.laid (o := .tup vs) np
  exact ⟨⟨b, a⟩, .of_tup upd_same (r.le c)⟩
theorem new_fl {K : Kx} {H : Hp} {S : Sto} {p : Addr} {vs : List V} {ds : List D} (rs : RS K H S) (np : H p = none) (r : RDs K H S vs ds) : Bh K H S (upd H p (.lst vs)) S ∧ RD K (upd H p (.lst vs)) S (.ref p) (.fl ds) := by
  obtain ⟨a, b, c⟩ := rs.laid (o := .lst vs) np
  exact ⟨⟨b, a⟩, .of_fl (.inl ⟨.inl upd_same, rs.free np, rs.nhid np⟩) (r.le c)⟩
theorem new_lst {K : Kx} {H : Hp} {S : Sto} {p : Addr} {vs : List V} {ds : List D} (rs : RS K H S) (np : H p = none) (r : RDs K H S vs ds) : Bh K H S (upd H p (.lst vs)) (up S p (.lst ds)) := by
  obtain ⟨a, b⟩ := rs.new (o := .lst vs) (m := .lst ds) np fun c => ⟨vs, upd_same, r.le c⟩
  exact ⟨b, a⟩
/-- a list that nobody will change any more -/
def dLf (t : TDA) : TDE := fun δ S Q => t δ S fun xs S1 => xs.length ≤ sizeLine ∧ Q (.fl xs) S1
theorem de_lf (h : PA X es (lA X.K t)) : PE X (.List es pos) (lE X.K (dLf t)) :=
  PE.wk (pe_lst h) fun σ H Q ⟨N, δ, S, Q', re, rs, q, k⟩ => by
    refine ⟨N, δ, S, _, re, rs, q, fun xs S1 vs H1 b1 rx q1 => ?_⟩
    refine ⟨by rw [rx.length]; exact q1.1, fun p np => ?_⟩
    obtain ⟨b2, r2⟩ := new_fl b1.rs np rx
    exact k _ S1 _ _ (b1.trans b2) r2 q1.2
theorem de_tup {x1} (h : PA X es (lA X.K t)) : PE X (.Tuple es x1 pos) (lE X.K (dTup t)) :=
  PE.wk (pe_tup h) fun σ H Q ⟨N, δ, S, Q', re, rs, q, k⟩ => by
    refine ⟨N, δ, S, _, re, rs, q, fun xs S1 vs H1 b1 rx q1 => ?_⟩
    refine ⟨by rw [rx.length]; exact q1.1, fun p np => ?_⟩
    obtain ⟨b2, r2⟩ := new_tup b1.rs np rx
    exact k _ S1 _ _ (b1.trans b2) r2 q1.2
theorem de_lst (h : PA X es (lA X.K t)) : PE X (.List es pos) (lE X.K (dLst t)) :=
  PE.wk (pe_lst h) fun σ H Q ⟨N, δ, S, Q', re, rs, q, k⟩ => by
    refine ⟨N, δ, S, _, re, rs, q, fun xs S1 vs H1 b1 rx q1 => ?_⟩
    refine ⟨by rw [rx.length]; exact q1.1, fun p np => ?_⟩
    exact k _ _ _ _ (b1.trans (new_lst b1.rs np rx)) (.of _) (q1.2 p (b1.rs.free np))
end

/-! ### statements -/
section
variable {X : Cx} {st : Stmt} {rest : List Stmt} {t u : TDS} {e : Expr} {te : TDE} {pos : Pos}
def dNext : TDS := fun D δ S => D.nx δ S
def dSeq (t u : TDS) : TDS := fun D δ S => t { D with nx := u D } δ S
theorem dss_nil : PSs X [] (lS X.K dNext) := PSs.wk pss_nil fun D σ H ⟨N, δ, S, D', re, rs, q, l⟩ => l.nx δ S σ H (.refl rs) re q
theorem dss_cons (h1 : PS X st (lS X.K t)) (h2 : PSs X rest (lS X.K u)) : PSs X (st :: rest) (lS X.K (dSeq t u)) :=
  PSs.wk (pss_cons h1 h2) fun D σ H ⟨N, δ, S, D', re, rs, q, l⟩ => by
    refine ⟨N, δ, S, _, re, rs, q, fun δ' S' σ' H' b r q' => ?_, l.rt, l.bk, l.ct⟩
    exact ⟨N, δ', S', D', r, b.rs, q', l.from b⟩
theorem dss_one (h1 : PS X st (lS X.K t)) : PSs X [st] (lS X.K t) := pss_one h1
def dBreak : TDS := fun D δ S => D.bk δ S
def dCont : TDS := fun D δ S => D.ct δ S
theorem ds_pass : PS X (.Pass pos) (lS X.K dNext) := PS.wk ps_pass fun D σ H ⟨N, δ, S, D', re, rs, q, l⟩ => l.nx δ S σ H (.refl rs) re q
theorem ds_break : PS X (.Break pos) (lS X.K dBreak) := PS.wk ps_break fun D σ H ⟨N, δ, S, D', re, rs, q, l⟩ => l.bk δ S σ H (.refl rs) re q
theorem ds_continue : PS X (.Continue pos) (lS X.K dCont) := PS.wk ps_continue fun D σ H ⟨N, δ, S, D', re, rs, q, l⟩ => l.ct δ S σ H (.refl rs) re q
def dDrop (te : TDE) : TDS := fun D δ S => te δ S fun _ S1 => D.nx δ S1
theorem ds_expr (he : PE X e (lE X.K te)) (hs : swapsWith e none pos.line X.env = pure false := by rfl) : PS X (.Expr e pos) (lS X.K (dDrop te)) :=
  PS.wk (ps_expr he hs) fun D σ H ⟨N, δ, S, D', re, rs, q, l⟩ => ⟨N, δ, S, _, re, rs, q, fun d S1 v H1 b1 _ q1 => l.nx δ S1 σ H1 b1 (re.le (rs.le b1.fr)) q1⟩
def dRet (te : TDE) : TDS := fun D δ S => te δ S D.rt
theorem ds_ret (he : PE X e (lE X.K te)) : PS X (.Return (some e) pos) (lS X.K (dRet te)) :=
  PS.wk (ps_ret he) fun D σ H ⟨N, δ, S, D', re, rs, q, l⟩ => ⟨N, δ, S, _, re, rs, q, fun d S1 v H1 b1 r1 q1 => l.rt d S1 v H1 b1 r1 q1⟩
def dRetN : TDS := fun D _ S => D.rt .non S
theorem ds_retN : PS X (.Return none pos) (lS X.K dRetN) := PS.wk ps_retN fun D σ H ⟨N, δ, S, D', re, rs, q, l⟩ => l.rt _ S _ H (.refl rs) (.of _) q
def dIfS (c : TDT) (t u : TDS) : TDS := fun D δ S => c δ S fun b S1 => if b = true then t D δ S1 else u D δ S1
theorem ds_if {c : Expr} {a b : List Stmt} {tc : TDT} (hc : PT X c (lT X.K tc)) (ha : PSs X a (lS X.K t)) (hb : PSs X b (lS X.K u)) : PS X (.If c a b pos) (lS X.K (dIfS tc t u)) :=
  PS.wk (ps_if hc ha hb) fun D σ H ⟨N, δ, S, D', re, rs, q, l⟩ => by
    refine ⟨N, δ, S, _, re, rs, q, fun i S1 H1 b1 q1 => ?_⟩
    cases i with
    | true => rw [if_pos rfl] at q1 ⊢; exact ⟨N, δ, S1, D', re.le (rs.le b1.fr), b1.rs, q1, l.from b1⟩
    | false => rw [if_neg Bool.false_ne_true] at q1 ⊢; exact ⟨N, δ, S1, D', re.le (rs.le b1.fr), b1.rs, q1, l.from b1⟩
def dNever : TDS := fun _ _ _ => False
theorem ds_never : PS X st (lS X.K dNever) := PS.wk ps_never fun _ _ _ ⟨_, _, _, _, _, _, q, _⟩ => q
theorem dss_never {sts : List Stmt} : PSs X sts (lS X.K dNever) := PSs.wk pss_never fun _ _ _ ⟨_, _, _, _, _, _, q, _⟩ => q
/-! targets -/
def gdName (i : Nat) : TDG := fun d δ S Q => Q (δ.set i (some d)) S
theorem dg_name (i : Nat) {x : Str} (hN : X.N.Nodup) (hi : X.N[i]? = some x := by rfl) (hx : Loc X.env.scope x := by first | exact Or.inl rfl | exact Or.inr rfl) (hf : X.fn x = true ∨ X.env.scope.names.lookup x = some .local := by first | exact .inl rfl | exact .inr rfl | assumption) : PG X (.Name x pos) (lG X.K (gdName i)) :=
  PG.wk (pg_name hN hi hx hf) fun v σ H Q ⟨N, d, δ, S, Q', rd, re, rs, q, k⟩ => k _ S _ H (.refl rs) (re.set rd i) q
def gdNil : TDGs := fun ds δ S Q => ds = [] ∧ Q δ S
def gdCons (t : TDG) (u : TDGs) : TDGs := fun ds δ S Q => ∃ d r, ds = d :: r ∧ t d δ S fun δ' S' => u r δ' S' Q
theorem dgs_nil : PGs X [] (lGs X.K gdNil) := PGs.wk pgs_nil fun v σ H Q ⟨N, d, δ, S, Q', rd, re, rs, q, k⟩ => by
  obtain ⟨rfl, q⟩ := q
  exact ⟨rd.inv_nil, k _ S _ H (.refl rs) re q⟩
theorem dgs_cons {e : Expr} {es : List Expr} {t : TDG} {u : TDGs} (h1 : PG X e (lG X.K t)) (h2 : PGs X es (lGs X.K u))
    (hs : (assignEach (e :: es) X.env).map (·.2) = assign e X.env :: (assignEach es X.env).map (·.2) := by rfl) : PGs X (e :: es) (lGs X.K (gdCons t u)) :=
  PGs.wk (pgs_cons h1 h2 hs) fun vs σ H Q ⟨N, ds, δ, S, Q', rd, re, rs, q, k⟩ => by
    obtain ⟨d, r, rfl, q⟩ := q
    obtain ⟨v, ws, rfl, r1, r2⟩ := rd.inv_cons
    refine ⟨v, ws, rfl, N, d, δ, S, _, r1, re, rs, q, fun δ' S' σ' H' b r' q' => ?_⟩
    exact ⟨N, r, δ', S', Q', r2.le (rs.le b.fr), r', b.rs, q', fun δ2 S2 σ2 H2 b2 => k δ2 S2 σ2 H2 (b.trans b2)⟩
def gdTup (n : Nat) (t : TDGs) : TDG := fun d δ S Q => ∃ ds, d = .tup ds ∧ ds.length = n ∧ t ds δ S Q
theorem dg_tup {es : List Expr} {k : Nat} {t : TDGs} {n : Nat} (hc : X.calm = true) (h : PGs X es (lGs X.K t))
    (hn : (assignEach es X.env).length = n := by rfl) (hst : (assignEach es X.env).findIdx? (·.1) = none := by rfl) : PG X (.Tuple es k pos) (lG X.K (gdTup n t)) :=
  PG.wk (pg_tup hc h hn hst) fun v σ H Q ⟨N, d, δ, S, Q', rd, re, rs, q, k⟩ => by
    obtain ⟨ds, rfl, hl, q⟩ := q
    obtain ⟨a, vs, rfl, sq, rv⟩ := rd.tup_
    exact ⟨a, vs, rfl, .of sq, by rw [rv.length, hl], N, ds, δ, S, Q', rv, re, rs, q, k⟩
def dAsg (te : TDE) (g : TDG) : TDS := fun D δ S => te δ S fun x S1 => g x δ S1 D.nx
theorem lift_asg {K : PySem.W.Frag} {te : TDE} {g : TDG} {D : Ends} {σ : L2.St} {H : Hp} (h : lS K (dAsg te g) D σ H) : tAsg (lE K te) (lG K g) D σ H := by
  obtain ⟨N, δ, S, D', re, rs, q, l⟩ := h
  refine ⟨N, δ, S, _, re, rs, q, fun d S1 v H1 b1 r1 q1 => ?_⟩
  exact ⟨N, d, δ, S1, _, r1, re.le (rs.le b1.fr), b1.rs, q1, fun δ' S' σ' H' b2 => l.nx δ' S' σ' H' (b1.trans b2)⟩
theorem ds_asg {tg e : Expr} {te : TDE} {g : TDG} (he : PE X e (lE X.K te)) (hg : PG X tg (lG X.K g)) (hs : swapsWithSole [tg] e pos.line X.env = pure false := by rfl) (hw : swappedStores [tg] e X.env = pure none := by rfl)
    (h1 : (assignEach [tg] X.env).map (·.2) = [assign tg X.env] := by rfl) : PS X (.Assign [tg] e pos) (lS X.K (dAsg te g)) :=
  PS.wk (ps_asg he hg hs hw h1) fun _ _ _ h => lift_asg h
theorem ds_set (i : Nat) {x : Str} {e : Expr} {te : TDE} {pos' : Pos} (hN : X.N.Nodup) (he : PE X e (lE X.K te)) (hi : X.N[i]? = some x := by rfl) (hx : Loc X.env.scope x := by first | exact Or.inl rfl | exact Or.inr rfl) (hs : swapsWith e (some (.Name x pos')) pos.line X.env = pure false := by rfl) (hf : X.fn x = true ∨ X.env.scope.names.lookup x = some .local := by first | exact .inl rfl | exact .inr rfl | assumption) :
    PS X (.Assign [.Name x pos'] e pos) (lS X.K (dAsg te (gdName i))) :=
  PS.wk (ps_set hN hi hx he hs hf) fun D σ H ⟨N, δ, S, D', re, rs, q, l⟩ => ⟨N, δ, S, _, re, rs, q, fun d S1 v H1 b1 r1 q1 => l.nx _ S1 _ H1 b1 ((re.le (rs.le b1.fr)).set r1 i) q1⟩
def dPar (i j : Nat) (ta : TDA) : TDS := fun D δ S => ta δ S fun ds S1 => ∃ d e, ds = [d, e] ∧ D.nx ((δ.set i (some d)).set j (some e)) S1
theorem ds_par (i j : Nat) {x y : Str} {a b : Expr} {ta : TDA} {px py pt : Pos} {kt k2 pt2} (hc : X.calm = true) (hN : X.N.Nodup) (ha : PA X [a, b] (lA X.K ta)) (hi : X.N[i]? = some x := by rfl) (hj : X.N[j]? = some y := by rfl) (hij : i ≠ j := by decide)
    (hx : X.env.scope.names.lookup x = some .local := by rfl) (hy : X.env.scope.names.lookup y = some .local := by rfl)
    (hw : swappedStores [.Tuple [.Name x px, .Name y py] kt pt] (.Tuple [a, b] k2 pt2) X.env = pure (some [x, y]) := by rfl) (hs : swapsWithSole [.Tuple [.Name x px, .Name y py] kt pt] (.Tuple [a, b] k2 pt2) pos.line X.env = pure false := by rfl) :
    PS X (.Assign [.Tuple [.Name x px, .Name y py] kt pt] (.Tuple [a, b] k2 pt2) pos) (lS X.K (dPar i j ta)) :=
  PS.wk (ps_par hc hN hi hj hij hx hy ha hw hs) fun D σ H ⟨N, δ, S, D', re, rs, q, l⟩ => by
    refine ⟨N, δ, S, _, re, rs, q, fun ds S1 vs H1 b1 r1 q1 => ?_⟩
    obtain ⟨d, e, rfl, q1⟩ := q1
    obtain ⟨v, ws, rfl, ra, rb⟩ := r1.inv_cons
    obtain ⟨w, ws', rfl, rb, rc⟩ := rb.inv_cons
    rw [rc.inv_nil]
    exact ⟨v, w, rfl, l.nx _ S1 _ H1 b1 (((re.le (rs.le b1.fr)).set ra i).set rb j) q1⟩
/-! while -/
def dWhile (c : TDT) (tb : TDS) : TDS := fun D δ S => ∃ W : Nat → DSt → Sto → Prop, (∃ m, W m δ S) ∧ ∀ m δ S, W m δ S →
  c δ S fun b S1 => if b = true then tb { D with nx := fun δ' S' => ∃ m', m' < m ∧ W m' δ' S', ct := fun δ' S' => ∃ m', m' < m ∧ W m' δ' S', bk := D.nx } δ S1 else D.nx δ S1
theorem ds_while {c : Expr} {body : List Stmt} {tc : TDT} {tb : TDS} (hp : PassesOwn (model X.prog X.w) X.A X.env X.xe) (hc : PT X c (lT X.K tc)) (hb : PSs X body (lS X.K tb)) : PS X (.While c body [] pos) (lS X.K (dWhile tc tb)) :=
  PS.wk (ps_while hp hc hb) fun D σ H ⟨N, δ, S, D', re, rs, q, l⟩ => by
    obtain ⟨W, ⟨m, w0⟩, turn⟩ := q
    refine ⟨fun n σ1 H1 => ∃ δ1 S1, W n δ1 S1 ∧ RE ⟨X.K, N⟩ H1 S1 σ1 δ1 ∧ Bh ⟨X.K, N⟩ H S H1 S1, ⟨m, δ, S, w0, re, .refl rs⟩, ?_⟩
    rintro n σ1 H1 ⟨δ1, S1, w1, re1, b1⟩
    refine ⟨N, δ1, S1, _, re1, b1.rs, turn n δ1 S1 w1, fun i S2 H2 b2 q2 => ?_⟩
    have b12 := b1.trans b2
    have re2 := re1.le (b1.rs.le b2.fr)
    cases i with
    | false =>
      rw [if_neg Bool.false_ne_true] at q2
      exact iteF (l.nx δ1 S2 σ1 H2 b12 re2 q2)
    | true =>
      rw [if_pos rfl] at q2
      refine iteT ⟨fun σ' H' => ∃ m' δ' S', m' < n ∧ W m' δ' S' ∧ RE ⟨X.K, N⟩ H' S' σ' δ' ∧ Bh ⟨X.K, N⟩ H S H' S', fun σ' H' ⟨m', δ', S', h1, h2, h3, h4⟩ => ⟨m', h1, δ', S', h2, h3, h4⟩, ?_⟩
      refine ⟨N, δ1, S2, _, re2, b2.rs, q2, ⟨?_, ?_, ?_, ?_⟩⟩
      · rintro δ' S' σ' H' b3 r3 ⟨m', h1, h2⟩
        exact ⟨m', δ', S', h1, h2, r3, b12.trans b3⟩
      · intro d S' v H' b3 r3 q3
        exact l.rt d S' v H' (b12.trans b3) r3 q3
      · intro δ' S' σ' H' b3 r3 q3
        exact l.nx δ' S' σ' H' (b12.trans b3) r3 q3
      · rintro δ' S' σ' H' b3 r3 ⟨m', h1, h2⟩
        exact ⟨m', δ', S', h1, h2, r3, b12.trans b3⟩
end
end DL

/-! Data layer, third part: defs and their calls, loops, comprehensions. -/
namespace DL
open PySem L2 PyProof.Rows

/-! ### a def's promise, kept where no repr is under way -/
structure FnG (P : Program) (w : World) (K : PySem.W.Frag) (mg : Str → Option Value) (base : Heap) (CX : CXT) (k : Nat) (f : Addr) (fd : FuncData) (ps : List Str) (sp : Sp) : Prop where
  len : ∀ vs H Q E, sp vs H Q E → vs.length = ps.length
  run : ∀ (A : Around) (outer : List Env) (s : Shared) (H : Hp) (args : Args) (us : List Value) (vs : List V) (Q : VK) (E : XK), Room k A → A.guards = some [] →
    Env0 P w K mg base A outer s H → BindsTo s fd args (ps.zip us) → Vals vs us → sp vs H Q E → codeAny (model P w) A (.call (.ref f) args) (CR CX outer P w H s Q E) s
/-- room, and no guard -/
structure Rg (k : Nat) (A : Around) : Prop where
  r : Room k A
  g : A.guards = some []
theorem Rg.mono {j k : Nat} {A : Around} (r : Rg k A) (h : j ≤ k) : Rg j A := ⟨r.r.mono h, r.g⟩
section
variable {X : Cx} {CX : CXT} {k : Nat} {f C : Addr} {fd : FuncData} {ps : List Str} {sp : Sp} {E : XK}
/-- the value f called with values -/
def CallG (X : Cx) (f : Addr) (sp : Sp) (E : XK) (dv : List V) : Prop := ∀ (pins : List (Addr × Obj)) (σ : L2.St) (H : Hp) (s : Shared) (Q : VK) (us : List Value) (vs : List V), Inv X pins σ H s → Vals vs us → sp (vs ++ dv) H Q E →
  wpAny (model X.prog X.w) X.A (call (.ref f) us) (EP X pins σ Q) X.xe s
theorem FnG.call {dv : List V} {ds : List Value} (F : FnG X.prog X.w X.K X.mg X.base CX k f fd ps sp) (hr : Rg k X.A) (hb : Binds X.K fd ps ds) (hd : Vals dv ds) (hx : Passes CX X E) : CallG X f sp E dv := by
  intro pins σ H s Q us vs I rv h
  have rr : Vals (vs ++ dv) (us ++ ds) := rv.append hd
  have hl : (us ++ ds).length = ps.length := rr.length.symm.trans (F.len _ _ _ _ h)
  apply wpAny_call
  apply codeAny_mono (F.run X.A X.stack s H ⟨us, []⟩ (us ++ ds) (vs ++ dv) Q E hr.r hr.g I.env0 (hb s us I.kIn hl) rr h)
  intro res s' hq
  match res, hq with
  | .error e, hq => exact hx pins σ H s e s' I hq
  | .ok (.ret u), hq => exact I.after hq
  | .ok .next, hq => exact hq.elim
  | .ok .brk, hq => exact hq.elim
  | .ok .cont, hq => exact hq.elim
variable {x m : Str} {p pos apos : Pos} {e o : Expr} {es : List Expr} {ta : TE} {t : TA} {dv : List V}
/-- f(e, ..) of a def of the module -/
theorem pg_call (G : CallG X f sp E dv) (hg : Gl X x) (hm : X.mg x = some (.ref f)) (hk : PySem.W.keepIn X.K (.ref f) = true) (ha : PA X (e :: es) t) (hdb : (x == ("__debug__" : Str)) = false := by decide)
    (he : starEach (e :: es) X.env = (false, eval e X.env) :: starEach es X.env := by rfl) (hpl : (backTo pos (starEach es X.env)).any (·.1) = false := by rfl) : PE X (.Call (.Name x p) (e :: es) [] pos) (tCall sp dv E t) := by
  constructor
  intro pins s σ H Q I h
  apply wpAny_Call_Name_kw
  apply ld_glob I hg hm _ hdb
  apply PySem.W.callWith_K (h₀ := X.base) I.ok.mod.kin hk _ he hpl
  apply thn (ha.run pos pins s σ H _ I h)
  rintro us s1 ⟨vs, H1, I1, rv, q⟩
  exact ⟨I1.kIn, G pins σ H1 s1 Q us vs I1 rv q⟩
theorem pg_call0 (G : CallG X f sp E dv) (hg : Gl X x) (hm : X.mg x = some (.ref f)) (hk : PySem.W.keepIn X.K (.ref f) = true) (hdb : (x == ("__debug__" : Str)) = false := by decide) : PE X (.Call (.Name x p) [] [] pos) (tCall sp dv E tNil) := by
  constructor
  intro pins s σ H Q I h
  apply wpAny_Call_Name_kw
  apply ld_glob I hg hm _ hdb
  apply PySem.W.callWith_K0 I.kIn hk
  exact G pins σ H s Q [] [] I .nil h
/-- with keywords -/
def CallGK (X : Cx) (f : Addr) (sp : Sp) (E : XK) (ks : List Str) (gV : List V → List V → List V) : Prop := ∀ (pins : List (Addr × Obj)) (σ : L2.St) (H : Hp) (s : Shared) (Q : VK) (us ws : List Value) (vs zs : List V), Inv X pins σ H s → Vals vs us → Vals zs ws → sp (gV vs zs) H Q E →
  wpAny (model X.prog X.w) X.A (call (.ref f) us (ks.zip ws)) (EP X pins σ Q) X.xe s
theorem FnG.callK {ks : List Str} {g : List Value → List Value → List Value} {gV : List V → List V → List V} (F : FnG X.prog X.w X.K X.mg X.base CX k f fd ps sp) (hr : Rg k X.A) (hb : KBinds X.K fd ps ks g gV) (hx : Passes CX X E) : CallGK X f sp E ks gV := by
  intro pins σ H s Q us ws vs zs I rv rz h
  have rr := hb.rel rv rz
  have hl : (g us ws).length = ps.length := rr.length.symm.trans (F.len _ _ _ _ h)
  apply wpAny_call
  apply codeAny_mono (F.run X.A X.stack s H ⟨us, ks.zip ws⟩ (g us ws) (gV vs zs) Q E hr.r hr.g I.env0 (hb.to s us ws I.kIn hl) rr h)
  intro res s' hq
  match res, hq with
  | .error e, hq => exact hx pins σ H s e s' I hq
  | .ok (.ret u), hq => exact I.after hq
  | .ok .next, hq => exact hq.elim
  | .ok .brk, hq => exact hq.elim
  | .ok .cont, hq => exact hq.elim
theorem pg_callK {ks : List Str} {gV : List V → List V → List V} {kws : List Keyword} {tk : TA} (G : CallGK X f sp E ks gV) (hg : Gl X x) (hm : X.mg x = some (.ref f)) (hk : PySem.W.keepIn X.K (.ref f) = true)
    (ha : PA X (e :: es) t) (hkw : PK X kws tk) (hall : (backToKw pos (keywordEach kws X.env)).all (·.1.isSome) = true := by rfl) (hks : (backToKw pos (keywordEach kws X.env)).filterMap (·.1) = ks := by rfl) (hdb : (x == ("__debug__" : Str)) = false := by decide) (he : starEach (e :: es) X.env = (false, eval e X.env) :: starEach es X.env := by rfl) (hpl : ((backTo pos (starEach (e :: es) X.env)).any (·.1) || (backToKw pos (keywordEach kws X.env)).any (·.1.isNone)) = false := by rfl) :
    PE X (.Call (.Name x p) (e :: es) kws pos) (tCallK sp gV E t tk) := by
  constructor
  intro pins s σ H Q I h
  apply wpAny_Call_Name_kw
  apply ld_glob I hg hm _ hdb
  apply PySem.W.callWith_KW (h₀ := X.base) I.ok.mod.kin hk hall _ hpl he
  apply thn (ha.run pos pins s σ H _ I h)
  rintro us s1 ⟨vs, H1, I1, rv, q⟩
  apply thn (hkw.run pos pins s1 σ H1 _ I1 q)
  rintro ws s2 ⟨zs, H2, I2, rz, q2⟩
  rw [hks]
  exact ⟨I2.kIn, G pins σ H2 s2 Q us ws vs zs I2 rv rz q2⟩
theorem pg_callK0 {ks : List Str} {gV : List V → List V → List V} {kws : List Keyword} {tk : TA} (G : CallGK X f sp E ks gV) (hg : Gl X x) (hm : X.mg x = some (.ref f)) (hk : PySem.W.keepIn X.K (.ref f) = true)
    (hkw : PK X kws tk) (hall : (backToKw pos (keywordEach kws X.env)).all (·.1.isSome) = true := by rfl) (hks : (backToKw pos (keywordEach kws X.env)).filterMap (·.1) = ks := by rfl) (hdb : (x == ("__debug__" : Str)) = false := by decide) (hpl : ((backTo pos (starEach [] X.env)).any (·.1) || (backToKw pos (keywordEach kws X.env)).any (·.1.isNone)) = false := by rfl) :
    PE X (.Call (.Name x p) [] kws pos) (tCallK sp gV E tNil tk) := by
  constructor
  intro pins s σ H Q I h
  apply wpAny_Call_Name_kw
  apply ld_glob I hg hm _ hdb
  apply PySem.W.callWith_KW0 (h₀ := X.base) I.ok.mod.kin hk hall _ hpl
  apply thn (hkw.run pos pins s σ H _ I h)
  rintro ws s2 ⟨zs, H2, I2, rz, q2⟩
  rw [hks]
  exact ⟨I2.kIn, G pins σ H2 s2 Q [] ws [] zs I2 .nil rz q2⟩
end
/-- a def by its body -/
theorem fnG_of {CX : CXT} {P : Program} {w : World} {K : PySem.W.Frag} {mg : Str → Option Value} {base : Heap} {k : Nat} {x qual : Str} {st : Stmt} {f : Addr} {fd : FuncData} {N ps : List Str} {sp : Sp} (F : Fun K x qual st f fd) (S : FnScope N ps (defScope st)) (len : ∀ vs H Q E, sp vs H Q E → vs.length = ps.length)
    (hbody : ∀ (cdv : Value) (A : Around) (outer : List Env) (s : Shared) (H : Hp) (vs : List V) (Q : VK) (E : XK), PySem.W.codeIn K cdv qual = true → Rg k (A.deeper (envOfC qual (defScope st) s.heap.objs.size f cdv)) → sp vs H Q E →
      ∃ t, PSs (cxOf CX P w K mg base N qual (defScope st) f cdv A outer s H E) (defBody st) t ∧ t { nx := fun _ H' => Q .non H', rt := Q } (L2.start N vs) H) : FnG P w K mg base CX (k + 1) f fd ps sp := by
  obtain ⟨oc, od, kV, doc, pm, an, cdv, ct, osl, rfl, lk, hcd⟩ := F.ex
  refine ⟨len, ?_⟩
  intro A outer s H args us vs Q E hr hg e0 hb rv hsp
  have hl := len _ _ _ _ hsp
  have KX : K.In s.heap := e0.mod.kin.keeps fun b o e => (e0.bs b o e).1
  have lim : s.heap.NoLimit := e0.mod.nolimit.keeps fun b o e => (e0.bs b o e).1
  have kinds : ∀ y ∈ ps.zip us, (defScope st).names.lookup y.1 = some .local ∨ ((defScope st).names.lookup y.1 = some .cell ∧ ((cellsFrom (s.heap.objs.size + 1) (defScope st).names []).lookup y.1).isSome = true) := by
    rintro ⟨n, v⟩ hy
    have hn := (List.of_mem_zip hy).1
    exact (S.par n hn).elim Or.inl fun q => Or.inr ⟨q, PySem.W.cellsFrom_some _ _ _ (.inl q)⟩
  apply codeAny_call_function hr.depth (KX _ _ lk) rfl S.co S.gen rfl (PySem.W.codeRec_of KX hcd)
  apply hb
  apply wpAny_newFunctionEnv_cells S.kind kinds
  intro env he s1 xc
  subst he
  refine ⟨lim.keeps xc.toInCall.keep, codeAny_func ?_⟩
  obtain ⟨t, ht, hq⟩ := hbody cdv A outer s H vs Q E hcd ⟨hr.deeper _, hg⟩ hsp
  have I : Inv (cxOf CX P w K mg base N qual (defScope st) f cdv A outer s H E) [] (L2.start N vs) H s1 := inv_start S hr.hd e0 hl rv xc
  apply wpAny_mono (ht.run [] s1 (L2.start N vs) H _ I hq) _ fun _ _ z => z
  intro fl s' hs
  match fl, hs with
  | .ret u, ⟨v, σ', H', J, rv, q⟩ => exact ⟨v, H', J.os, J.bare, J.base, J.hok, rv, q⟩
  | .next, ⟨σ', H', J, q⟩ => exact ⟨V.non, H', J.os, J.bare, J.base, J.hok, rfl, q⟩
  | .brk, ⟨_, _, _, q⟩ => exact q.elim
  | .cont, ⟨_, _, _, q⟩ => exact q.elim

/-! ### promises over data -/
/-- an exception: its class, its attributes, the store -/
abbrev XD := Value → List (Str × D) → Sto → Prop
abbrev SpD := List D → Sto → KD → XD → Prop
def X0 : XD := fun _ _ _ => False
section
variable (K : PySem.W.Frag)
/-- how an exception's attributes lie -/
def XAt (K : Kx) (H' : Hp) (S' : Sto) (fs : List (Str × D)) (dd : Option Addr) : Prop := (fs = [] ∧ dd = none) ∨ ∃ dx gs, dd = some dx ∧ H' dx = some (.xd gs) ∧ gs.map (·.1) = fs.map (·.1) ∧ RDs K H' S' (gs.map (·.2)) (fs.map (·.2))
def lSp (sp : SpD) : Sp := fun vs H Q E => ∃ N ds S Q' E', RDs ⟨K, N⟩ H S vs ds ∧ RS ⟨K, N⟩ H S ∧ sp ds S Q' E' ∧ (∀ d S' v H', Bh ⟨K, N⟩ H S H' S' → RD ⟨K, N⟩ H' S' v d → Q' d S' → Q v H') ∧
  ∀ c fs S' dd H', Bh ⟨K, N⟩ H S H' S' → XAt ⟨K, N⟩ H' S' fs dd → E' c fs S' → E c dd H'
end
abbrev FnD (P : Program) (w : World) (K : PySem.W.Frag) (mg : Str → Option Value) (base : Heap) (CX : CXT) (k : Nat) (f : Addr) (fd : FuncData) (ps : List Str) (sp : SpD) : Prop := FnG P w K mg base CX k f fd ps (lSp K sp)
/-- the names' values at the entry -/
def startD (N : List Str) (ds : List D) : DSt := ds.map some ++ List.replicate (N.length - ds.length) none
theorem re_start {K : Kx} {H : Hp} {S : Sto} {N : List Str} {vs : List V} {ds : List D} (r : RDs K H S vs ds) : RE K H S (L2.start N vs) (startD N ds) := by
  have hl := r.length
  refine ⟨by simp [L2.start, startD, hl], fun i d e => ?_⟩
  unfold startD at e
  by_cases hi : i < ds.length
  · rw [List.getElem?_append_left (by simpa using hi), List.getElem?_map] at e
    cases q : ds[i]? with
    | none => rw [q] at e; cases e
    | some d' =>
      rw [q] at e
      cases e
      obtain ⟨v, hv, rv⟩ := r.get q
      refine ⟨v, ?_, rv⟩
      unfold L2.start
      rw [List.getElem?_append_left (by simp; omega), List.getElem?_map, hv]
      rfl
  · rw [List.getElem?_append_right (by simpa using hi), List.getElem?_replicate] at e
    split at e <;> cases e
/-- a value may be seen as another one, over a smaller store -/
def VW (d : D) (S' : Sto) (d1 : D) (S1 : Sto) : Prop := Sub S1 S' ∧ ∀ K H v, RS K H S' → RD K H S' v d → RD K H S1 v d1
theorem VW.refl (d : D) (S : Sto) : VW d S d S := ⟨.refl, fun _ _ _ _ h => h⟩
theorem VW.sub {d : D} {S S1 : Sto} (h : Sub S1 S) : VW d S d S1 := ⟨h, fun _ _ _ _ r => r.le h.le⟩
/-- a list that is handed out is changed no more -/
theorem VW.fz {p : Addr} {ds : List D} {S S1 : Sto} (h : Sub S1 S) (e : S p = some (.lst ds)) (n : S1 p = none) : VW (.ref p) S (.fl ds) S1 := by
  refine ⟨h, fun K H v rs r => ?_⟩
  rw [r.at_]
  obtain ⟨vs, h1, h2⟩ := rs.ob p _ e
  exact .of_fl (.inl ⟨.inl h1, n, rs.kn e⟩) (h2.le h.le)
/-- what a body is to reach -/
def bodyE (Q : KD) : DEnds where
  nx := fun _ S' => ∃ S1, Sub S1 S' ∧ Q .non S1
  rt := fun d S' => ∃ d1 S1, VW d S' d1 S1 ∧ Q d1 S1
section
variable {P : Program} {w : World} {K : PySem.W.Frag} {mg : Str → Option Value} {base : Heap} {CX : CXT} {k : Nat} {x qual : Str} {st : Stmt} {f : Addr} {fd : FuncData} {N ps : List Str} {sp : SpD}
/-- a def that lets nothing out -/
theorem okD (F : Fun K x qual st f fd) (S : FnScope N ps (defScope st)) (len : ∀ ds S Q E, sp ds S Q E → ds.length = ps.length)
    (hbody : ∀ (cdv : Value) (A : Around) (outer : List Env) (s : Shared) (H : Hp) (E : XK) (ds : List D) (S : Sto) (Q : KD) (E' : XD), PySem.W.codeIn K cdv qual = true → Rg k (A.deeper (envOfC qual (defScope st) s.heap.objs.size f cdv)) → sp ds S Q E' →
      ∃ t, PSs (cxOf CX P w K mg base N qual (defScope st) f cdv A outer s H E).nox (defBody st) (lS K t) ∧ t (bodyE Q) (startD N ds) S) : FnD P w K mg base CX (k + 1) f fd ps sp := by
  refine fnG_of F S (fun vs H Q E => ?_) fun cdv A outer s H vs Q E hcd hr h => ?_
  · rintro ⟨N, ds, S, Q', E', r, rs, q, _⟩
    exact r.length.trans (len _ _ _ _ q)
  · obtain ⟨N', ds, S, Q', E', r, rs, q, k1, k2⟩ := h
    obtain ⟨t, ht, hq⟩ := hbody cdv A outer s H E ds S Q' E' hcd hr q
    refine ⟨_, ht.nox, N', startD N ds, S, bodyE Q', re_start r, rs, hq, ⟨?_, ?_, fun _ _ _ _ _ _ z => z.elim, fun _ _ _ _ _ _ z => z.elim⟩⟩
    · rintro δ' S' σ' H' b re ⟨S1, su, q1⟩
      exact k1 .non S1 .non H' ⟨b.fr.sub su, b.rs.sub su⟩ (.of _) q1
    · rintro d S' v H' b rv ⟨d1, S1, ⟨su, vw⟩, q1⟩
      exact k1 d1 S1 v H' ⟨b.fr.sub su, b.rs.sub su⟩ (vw _ _ _ b.rs rv) q1
end

/-! ### calls over data -/
section
variable {X : Cx} {CX : CXT} {k : Nat} {f C : Addr} {fd : FuncData} {ps : List Str} {sp : SpD}
def dCall (sp : SpD) (dv : List D) (E : XD) (t : TDA) : TDE := fun δ S Q => t δ S fun ds S1 => sp (ds ++ dv) S1 Q E
/-- an exception of the callee, lifted -/
def lX (K : PySem.W.Frag) (E : XD) : XK := fun c dd H' => ∃ N fs S', RS ⟨K, N⟩ H' S' ∧ XAt ⟨K, N⟩ H' S' fs dd ∧ E c fs S'
theorem lX0 {K : PySem.W.Frag} : lX K X0 = E0 := by
  funext c dd H'
  apply propext
  constructor
  · rintro ⟨_, _, _, _, _, h⟩; exact h
  · intro h; exact h.elim
theorem lift_sp {K : PySem.W.Frag} {N : Addr → Prop} {sp : SpD} {E : XD} {ds : List D} {S : Sto} {Q' : KD} {vs : List V} {H : Hp} {Q : VK} (r : RDs ⟨K, N⟩ H S vs ds) (rs : RS ⟨K, N⟩ H S) (q : sp ds S Q' E) (kk : ∀ d S' v H', Bh ⟨K, N⟩ H S H' S' → RD ⟨K, N⟩ H' S' v d → Q' d S' → Q v H') : lSp K sp vs H Q (lX K E) :=
  ⟨N, ds, S, Q', E, r, rs, q, kk, fun c fs S' dd H' b e h => ⟨N, fs, S', b.rs, e, h⟩⟩
variable {x m : Str} {p pos apos : Pos} {e o : Expr} {es : List Expr} {ta : TDE} {t : TDA}
theorem de_call (F : FnD X.prog X.w X.K X.mg X.base CX0 k f fd ps sp) (hr : Rg k X.A) (hb : Binds X.K fd ps []) (hg : Gl X x) (hm : X.mg x = some (.ref f)) (hk : PySem.W.keepIn X.K (.ref f) = true) (ha : PA X (e :: es) (lA X.K t)) (hdb : (x == ("__debug__" : Str)) = false := by decide)
    (he : starEach (e :: es) X.env = (false, eval e X.env) :: starEach es X.env := by rfl) (hpl : (backTo pos (starEach es X.env)).any (·.1) = false := by rfl) : PE X (.Call (.Name x p) (e :: es) [] pos) (lE X.K (dCall sp [] X0 t)) := by
  refine PE.wk (pg_call (F.call hr hb .nil pass0) hg hm hk ha hdb he hpl) fun σ H Q h => ?_
  obtain ⟨N, δ, S, Q', re, rs, q, kk⟩ := h
  refine ⟨N, δ, S, _, re, rs, q, fun ds S1 vs H1 b1 r1 q1 => ?_⟩
  rw [List.append_nil] at q1 ⊢
  rw [← lX0 (K := X.K)]
  exact lift_sp r1 b1.rs q1 fun d S' v H' b2 => kk d S' v H' (b1.trans b2)
/-- with defaults -/
theorem de_callD {dv : List V} {dd : List D} {us : List Value} (F : FnD X.prog X.w X.K X.mg X.base CX0 k f fd ps sp) (hr : Rg k X.A) (hb : Binds X.K fd ps us) (hd : Vals dv us) (hdd : ∀ N H S, RDs ⟨X.K, N⟩ H S dv dd) (hg : Gl X x) (hm : X.mg x = some (.ref f)) (hk : PySem.W.keepIn X.K (.ref f) = true) (ha : PA X (e :: es) (lA X.K t)) (hdb : (x == ("__debug__" : Str)) = false := by decide)
    (he : starEach (e :: es) X.env = (false, eval e X.env) :: starEach es X.env := by rfl) (hpl : (backTo pos (starEach es X.env)).any (·.1) = false := by rfl) : PE X (.Call (.Name x p) (e :: es) [] pos) (lE X.K (dCall sp dd X0 t)) := by
  refine PE.wk (pg_call (F.call hr hb hd pass0) hg hm hk ha hdb he hpl) fun σ H Q h => ?_
  obtain ⟨N, δ, S, Q', re, rs, q, kk⟩ := h
  refine ⟨N, δ, S, _, re, rs, q, fun ds S1 vs H1 b1 r1 q1 => ?_⟩
  rw [← lX0 (K := X.K)]
  exact lift_sp (r1.append (hdd _ _ _)) b1.rs q1 fun d S' v H' b2 => kk d S' v H' (b1.trans b2)
theorem de_call0 (F : FnD X.prog X.w X.K X.mg X.base CX0 k f fd ps sp) (hr : Rg k X.A) (hb : Binds X.K fd ps []) (hg : Gl X x) (hm : X.mg x = some (.ref f)) (hk : PySem.W.keepIn X.K (.ref f) = true) (hdb : (x == ("__debug__" : Str)) = false := by decide) : PE X (.Call (.Name x p) [] [] pos) (lE X.K (dCall sp [] X0 dNil)) := by
  refine PE.wk (pg_call0 (F.call hr hb .nil pass0) hg hm hk hdb) fun σ H Q h => ?_
  obtain ⟨N, δ, S, Q', re, rs, q, kk⟩ := h
  show lSp X.K sp ([] ++ []) H Q E0
  rw [← lX0 (K := X.K)]
  exact lift_sp .nil rs q kk
/-- keywords: how they are put in order, for values and for data -/
structure PutK (gV : List V → List V → List V) (gD : List D → List D → List D) : Prop where
  to : ∀ {K : Kx} {H : Hp} {S : Sto} {vs zs : List V} {ds es : List D}, RDs K H S vs ds → RDs K H S zs es → RDs K H S (gV vs zs) (gD ds es)
def dCallK (sp : SpD) (gD : List D → List D → List D) (E : XD) (t tk : TDA) : TDE := fun δ S Q => t δ S fun ds S1 => tk δ S1 fun es S2 => sp (gD ds es) S2 Q E
theorem dk_nil : PK X [] (lA X.K dNil) := ⟨fun pos pins s σ H Q I ⟨N, δ, S, Q', re, rs, q, k⟩ => pk_nil.run pos pins s σ H Q I (k [] S [] H (.refl rs) .nil q)⟩
theorem dk_cons {nm : Option Str} {kpos : Pos} {kws : List Keyword} {te : TDE} (ha : PE X e (lE X.K te)) (hr : PK X kws (lA X.K t)) : PK X (⟨nm, e, kpos⟩ :: kws) (lA X.K (dCons te t)) :=
  ⟨fun pos pins s σ H Q I ⟨N, δ, S, Q', re, rs, q, k⟩ => (pk_cons ha hr).run pos pins s σ H Q I (by
    refine ⟨N, δ, S, _, re, rs, q, fun x S1 v H1 b1 rx q1 => ?_⟩
    refine ⟨N, δ, S1, _, re.le (rs.le b1.fr), b1.rs, q1, fun xs S2 vs H2 b2 rxs q2 => ?_⟩
    exact k (x :: xs) S2 (v :: vs) H2 (b1.trans b2) (.cons (rx.le (b1.rs.le b2.fr)) rxs) q2)⟩
theorem de_callK {ks : List Str} {g : List Value → List Value → List Value} {gV : List V → List V → List V} {gD : List D → List D → List D} {kws : List Keyword} {tk : TDA} (F : FnD X.prog X.w X.K X.mg X.base CX0 k f fd ps sp) (hr : Rg k X.A) (hb : KBinds X.K fd ps ks g gV) (hd : PutK gV gD)
    (hg : Gl X x) (hm : X.mg x = some (.ref f)) (hk : PySem.W.keepIn X.K (.ref f) = true) (ha : PA X (e :: es) (lA X.K t)) (hkw : PK X kws (lA X.K tk)) (hall : (backToKw pos (keywordEach kws X.env)).all (·.1.isSome) = true := by rfl) (hks : (backToKw pos (keywordEach kws X.env)).filterMap (·.1) = ks := by rfl) (hdb : (x == ("__debug__" : Str)) = false := by decide) (he : starEach (e :: es) X.env = (false, eval e X.env) :: starEach es X.env := by rfl) (hpl : ((backTo pos (starEach (e :: es) X.env)).any (·.1) || (backToKw pos (keywordEach kws X.env)).any (·.1.isNone)) = false := by rfl) :
    PE X (.Call (.Name x p) (e :: es) kws pos) (lE X.K (dCallK sp gD X0 t tk)) := by
  refine PE.wk (pg_callK (F.callK hr hb pass0) hg hm hk ha hkw hall hks hdb he hpl) fun σ H Q h => ?_
  obtain ⟨N, δ, S, Q', re, rs, q, kk⟩ := h
  refine ⟨N, δ, S, _, re, rs, q, fun ds S1 vs H1 b1 r1 q1 => ?_⟩
  refine ⟨N, δ, S1, _, re.le (rs.le b1.fr), b1.rs, q1, fun es S2 zs H2 b2 r2 q2 => ?_⟩
  rw [← lX0 (K := X.K)]
  exact lift_sp (hd.to (r1.le (b1.rs.le b2.fr)) r2) b2.rs q2 fun d S' v H' b3 => kk d S' v H' ((b1.trans b2).trans b3)
theorem de_callK0 {ks : List Str} {g : List Value → List Value → List Value} {gV : List V → List V → List V} {gD : List D → List D → List D} {kws : List Keyword} {tk : TDA} (F : FnD X.prog X.w X.K X.mg X.base CX0 k f fd ps sp) (hr : Rg k X.A) (hb : KBinds X.K fd ps ks g gV) (hd : PutK gV gD)
    (hg : Gl X x) (hm : X.mg x = some (.ref f)) (hk : PySem.W.keepIn X.K (.ref f) = true) (hkw : PK X kws (lA X.K tk)) (hall : (backToKw pos (keywordEach kws X.env)).all (·.1.isSome) = true := by rfl) (hks : (backToKw pos (keywordEach kws X.env)).filterMap (·.1) = ks := by rfl) (hdb : (x == ("__debug__" : Str)) = false := by decide) (hpl : ((backTo pos (starEach [] X.env)).any (·.1) || (backToKw pos (keywordEach kws X.env)).any (·.1.isNone)) = false := by rfl) :
    PE X (.Call (.Name x p) [] kws pos) (lE X.K (dCallK sp gD X0 dNil tk)) := by
  refine PE.wk (pg_callK0 (F.callK hr hb pass0) hg hm hk hkw hall hks hdb hpl) fun σ H Q h => ?_
  obtain ⟨N, δ, S, Q', re, rs, q, kk⟩ := h
  refine ⟨N, δ, S, _, re, rs, q, fun es S2 zs H2 b2 r2 q2 => ?_⟩
  rw [← lX0 (K := X.K)]
  exact lift_sp (hd.to .nil r2) b2.rs q2 fun d S' v H' b3 => kk d S' v H' (b2.trans b3)
/-- built-ins by name -/
def dCB (r : RDL) (t : TDA) : TDE := fun δ S Q => t δ S fun ds S1 => r ds S1 Q
theorem lift_cb {K : PySem.W.Frag} {r : RDL} {t : TDA} {σ : L2.St} {H : Hp} {Q : VK} (h : lE K (dCB r t) σ H Q) : tCB (lL K r) (lA K t) σ H Q := by
  obtain ⟨N, δ, S, Q', re, rs, q, kk⟩ := h
  exact ⟨N, δ, S, _, re, rs, q, fun ds S1 vs H1 b1 r1 q1 => ⟨N, ds, S1, Q', r1, b1.rs, q1, fun d S' w H' b2 => kk d S' w H' (b1.trans b2)⟩⟩
theorem de_callB {id : String} {r : RDL} (hc : CallR X (.builtin id) (lL X.K r)) (hg : Gl X x) (hm : X.mg x = none) (ha : PA X (e :: es) (lA X.K t)) (hv : bootBuiltins x = some (.builtin id) := by first | decide +kernel) (hn : x ≠ "__name__" := by decide) (hdb : (x == ("__debug__" : Str)) = false := by decide)
    (he : starEach (e :: es) X.env = (false, eval e X.env) :: starEach es X.env := by rfl) (hpl : (backTo pos (starEach es X.env)).any (·.1) = false := by rfl) : PE X (.Call (.Name x p) (e :: es) [] pos) (lE X.K (dCB r t)) :=
  PE.wk (pe_callB hc hg hm hv ha hn hdb he hpl) fun _ _ _ h => lift_cb h
theorem de_callTy {T : String} {r : RDL} (hc : CallR X (.type T) (lL X.K r)) (hg : Gl X x) (hm : X.mg x = none) (ha : PA X (e :: es) (lA X.K t)) (hv : bootBuiltins x = some (.type T) := by first | decide +kernel) (hn : x ≠ "__name__" := by decide) (hdb : (x == ("__debug__" : Str)) = false := by decide)
    (he : starEach (e :: es) X.env = (false, eval e X.env) :: starEach es X.env := by rfl) (hpl : (backTo pos (starEach es X.env)).any (·.1) = false := by rfl) : PE X (.Call (.Name x p) (e :: es) [] pos) (lE X.K (dCB r t)) :=
  PE.wk (pe_callTy hc hg hm hv ha hn hdb he hpl) fun _ _ _ h => lift_cb h
end

/-! ### what is walked -/
/-- at turn i, over a store: an item, or the end -/
abbrev ItD := Nat → Sto → Option (Option D)
abbrev TDI := DSt → Sto → (ItD → Sto → Prop) → Prop
/-- the walk of data, seen below -/
def ItRel (K : Kx) (H0 : Hp) (S0 : Sto) (J : ItD) (Jv : It) : Prop := ∀ (M : Addr → Prop) i H S, Bh ⟨K.k, M⟩ H0 S0 H S → TupLe K H0 S0 ⟨K.k, M⟩ H S →
  (J i S = some none → Jv.stop i H) ∧ ∀ d, J i S = some (some d) → Jv.go i H ∧ ∀ x H', Jv.yld i H x H' → Bh ⟨K.k, M⟩ H S H' S ∧ RD ⟨K.k, M⟩ H' S x d
def lI (K : PySem.W.Frag) (t : TDI) : TI := fun σ H R => ∃ N δ S R', RE ⟨K, N⟩ H S σ δ ∧ RS ⟨K, N⟩ H S ∧ t δ S R' ∧ ∀ J S' Jv H', Bh ⟨K, N⟩ H S H' S' → ItRel ⟨K, N⟩ H' S' J Jv → R' J S' → R Jv H'
def seqI (ds : List D) : ItD := fun i _ => some ds[i]?
def listI (a : Addr) : ItD := fun i S => match S a with
  | some (.lst xs) => some xs[i]?
  | _ => none
section
variable {X : Cx} {tg iter e : Expr} {te : TDE} {pos p : Pos}
theorem PI.wk {t t' : TI} (h : PI X tg e t) (k : ∀ σ H R, t' σ H R → t σ H R) : PI X tg e t' := ⟨fun pins s σ H Q I q => h.run pins s σ H Q I (k σ H Q q)⟩
/-- a tuple's items, a frozen list's, a list's as it stands -/
def iSeq (te : TDE) : TDI := fun δ S R => te δ S fun x S1 => (∃ ds, x = .tup ds ∧ R (seqI ds) S1) 
theorem rel_tup {K : Kx} {H0 : Hp} {S0 : Sto} {a : Addr} {vs : List V} {ds : List D} (rs : RS K H0 S0) (h : ∀ H, (∀ xs, H0 a = some (.tup xs) → H a = some (.tup xs)) → SqT K.k H a vs) (r : RDs K H0 S0 vs ds) : ItRel K H0 S0 (seqI ds) (Itt K.k a) := by
  intro M i H S b le
  have h' := h H fun xs e => le.t _ _ e
  have r' := r.le le
  refine ⟨fun e => ?_, fun d e => ?_⟩
  · have e' : ds[i]? = none := Option.some.inj e
    exact ⟨vs, h', by rw [r.length]; exact List.getElem?_eq_none_iff.mp e'⟩
  · have e' : ds[i]? = some d := Option.some.inj e
    obtain ⟨v, hv, rv⟩ := r'.get e'
    refine ⟨⟨vs, v, h', hv⟩, fun x H' y => ?_⟩
    obtain ⟨rfl, y⟩ := y
    have q := y vs h'
    rw [hv] at q
    cases q
    exact ⟨.refl b.rs, rv⟩
theorem rel_fl {K : Kx} {H0 : Hp} {S0 : Sto} {a : Addr} {vs : List V} {ds : List D} (rs : RS K H0 S0) (h : Fz K H0 S0 a vs) (r : RDs K H0 S0 vs ds) : ItRel K H0 S0 (seqI ds) (Itl K.k a) := by
  intro M i H S b le
  have h' := (le.l _ _ h).sq
  have r' := r.le le
  refine ⟨fun e => ?_, fun d e => ?_⟩
  · have e' : ds[i]? = none := Option.some.inj e
    exact ⟨vs, h', by rw [r.length]; exact List.getElem?_eq_none_iff.mp e'⟩
  · have e' : ds[i]? = some d := Option.some.inj e
    obtain ⟨v, hv, rv⟩ := r'.get e'
    refine ⟨⟨vs, v, h', hv⟩, fun x H' y => ?_⟩
    obtain ⟨rfl, y⟩ := y
    have q := y vs h'
    rw [hv] at q
    cases q
    exact ⟨.refl b.rs, rv⟩
theorem rel_lst {K : Kx} {H0 : Hp} {S0 : Sto} {a : Addr} : ItRel K H0 S0 (listI a) (Itl K.k a) := by
  intro M i H S b le
  unfold listI
  cases e0 : S a with
  | none => exact ⟨fun e => by simp at e, fun d e => by simp at e⟩
  | some o =>
    cases o with
    | lst xs =>
      obtain ⟨vs, h1, h2⟩ := b.rs.ob a _ e0
      have h' : SqL K.k H a vs := .of h1
      refine ⟨fun e => ?_, fun d e => ?_⟩
      · have e' : xs[i]? = none := Option.some.inj e
        exact ⟨vs, h', by rw [h2.length]; exact List.getElem?_eq_none_iff.mp e'⟩
      · have e' : xs[i]? = some d := Option.some.inj e
        obtain ⟨v, hv, rv⟩ := h2.get e'
        refine ⟨⟨vs, v, h', hv⟩, fun x H' y => ?_⟩
        obtain ⟨rfl, y⟩ := y
        have q := y vs h'
        rw [hv] at q
        cases q
        exact ⟨.refl b.rs, rv⟩
    | _ => exact ⟨fun e => by simp at e, fun d e => by simp at e⟩
/-- a tuple is walked -/
def iTupD (te : TDE) : TDI := fun δ S R => te δ S fun x S1 => ∃ ds, (x = .tup ds ∨ x = .wt ds) ∧ R (seqI ds) S1
theorem di_tup (he : PE X e (lE X.K te)) : PI X tg e (lI X.K (iTupD te)) :=
  PI.wk (pi_tup he) fun σ H R ⟨N, δ, S, R', re, rs, q, kk⟩ => by
    refine ⟨N, δ, S, _, re, rs, q, fun x S1 v H1 b1 rv q1 => ?_⟩
    obtain ⟨ds, (rfl | rfl), q1⟩ := q1
    · obtain ⟨a, vs, rfl, sq, r⟩ := rv.tup_
      exact ⟨a, rfl, ⟨vs, .of sq⟩, kk _ S1 _ H1 b1 (rel_tup b1.rs (fun H f => .of (f _ sq)) r) q1⟩
    · obtain ⟨a, vs, rfl, sq, r⟩ := rv.wt_
      exact ⟨a, rfl, ⟨vs, .inr sq⟩, kk _ S1 _ H1 b1 (rel_tup b1.rs (fun H f => .inr sq) r) q1⟩
/-- a list is walked: a frozen one, one as it stands, one that is frozen by being walked -/
def iLstD (te : TDE) : TDI := fun δ S R => te δ S fun x S1 => (∃ ds, x = .fl ds ∧ R (seqI ds) S1) ∨ ∃ a ds, x = .ref a ∧ S1 a = some (.lst ds) ∧ (R (listI a) S1 ∨ R (seqI ds) (del S1 a))
theorem di_lst (he : PE X e (lE X.K te)) : PI X tg e (lI X.K (iLstD te)) :=
  PI.wk (pi_list he) fun σ H R ⟨N, δ, S, R', re, rs, q, kk⟩ => by
    refine ⟨N, δ, S, _, re, rs, q, fun x S1 v H1 b1 rv q1 => ?_⟩
    rcases q1 with ⟨ds, rfl, q1⟩ | ⟨a, ds, rfl, e, q1⟩
    · obtain ⟨a, vs, rfl, fz, r⟩ := rv.fl_
      exact ⟨a, rfl, ⟨vs, fz.sq⟩, kk _ S1 _ H1 b1 (rel_fl b1.rs fz r) q1⟩
    · have := rv.at_
      subst this
      obtain ⟨vs, h1, h2⟩ := b1.rs.ob a _ e
      refine ⟨a, rfl, ⟨vs, .of h1⟩, ?_⟩
      rcases q1 with q1 | q1
      · exact kk _ S1 _ H1 b1 rel_lst q1
      · have su : Sub (del S1 a) S1 := fun b o z => by
          by_cases hb : b = a
          · subst hb; rw [del_same] at z; cases z
          · rw [del_ne hb] at z; exact z
        have b2 : Bh ⟨X.K, N⟩ H S H1 (del S1 a) := ⟨b1.fr.sub su, b1.rs.sub su⟩
        exact kk _ _ _ H1 b2 (rel_fl b2.rs (.inl ⟨.inl h1, del_same, b1.rs.kn e⟩) (h2.le su.le)) q1
def rangeI (lo : Int) (n : Nat) : ItD := fun i _ => some (if i < n then some (.int (lo + i)) else none)
theorem rel_range {K : Kx} {H0 : Hp} {S0 : Sto} {lo : Int} {n : Nat} : ItRel K H0 S0 (rangeI lo n) (Itr lo n) := by
  intro M i H S b le
  unfold rangeI
  refine ⟨fun e => ?_, fun d e => ?_⟩
  · show n ≤ i
    by_cases h : i < n
    · rw [if_pos h] at e; cases e
    · omega
  · by_cases h : i < n
    · rw [if_pos h] at e
      cases e
      refine ⟨h, fun x H' y => ?_⟩
      obtain ⟨rfl, rfl⟩ := y
      exact ⟨.refl b.rs, .of _⟩
    · rw [if_neg h] at e; cases e
def iRange1 (t : TDA) : TDI := fun δ S R => t δ S fun ds S1 => ∃ j : Int, ds = [.int j] ∧ -(2 ^ 62) ≤ j ∧ j < 2 ^ 62 ∧ R (rangeI 0 j.toNat) S1
theorem RDs.one {K : Kx} {H : Hp} {S : Sto} {vs : List V} {u : V} (r : RDs K H S vs [.at u]) : vs = [u] := RDs.atoms (us := [u]) r
theorem RDs.two {K : Kx} {H : Hp} {S : Sto} {vs : List V} {u w : V} (r : RDs K H S vs [.at u, .at w]) : vs = [u, w] := RDs.atoms (us := [u, w]) r
theorem di_range1 {a : Expr} {ta : TDA} (hg : Gl X "range") (hm : X.mg "range" = none) (ha : PA X [a] (lA X.K ta)) (hs : starEach [a] X.env = [(false, eval a X.env)] := by rfl) : PI X tg (.Call (.Name "range" p) [a] [] pos) (lI X.K (iRange1 ta)) :=
  PI.wk (pi_range1 hg hm ha hs) fun σ H R ⟨N, δ, S, R', re, rs, q, kk⟩ => by
    refine ⟨N, δ, S, _, re, rs, q, fun ds S1 vs H1 b1 rv q1 => ?_⟩
    obtain ⟨j, rfl, h1, h2, q1⟩ := q1
    exact ⟨j, rv.one, h1, h2, kk _ S1 _ H1 b1 rel_range q1⟩
def iRange2 (t : TDA) : TDI := fun δ S R => t δ S fun ds S1 => ∃ i j : Int, ds = [.int i, .int j] ∧ (-(2 ^ 62) ≤ i ∧ i < 2 ^ 62 ∧ -(2 ^ 62) ≤ j ∧ j < 2 ^ 62) ∧ R (rangeI i (j - i).toNat) S1
theorem di_range2 {a b : Expr} {ta : TDA} (hg : Gl X "range") (hm : X.mg "range" = none) (ha : PA X [a, b] (lA X.K ta)) (hs : starEach [a, b] X.env = [(false, eval a X.env), (false, eval b X.env)] := by rfl) (hs2 : starEach [b] X.env = [(false, eval b X.env)] := by rfl) :
    PI X tg (.Call (.Name "range" p) [a, b] [] pos) (lI X.K (iRange2 ta)) :=
  PI.wk (pi_range2 hg hm ha hs hs2) fun σ H R ⟨N, δ, S, R', re, rs, q, kk⟩ => by
    refine ⟨N, δ, S, _, re, rs, q, fun ds S1 vs H1 b1 rv q1 => ?_⟩
    obtain ⟨i, j, rfl, h1, q1⟩ := q1
    exact ⟨i, j, rv.two, h1, kk _ S1 _ H1 b1 rel_range q1⟩
end

/-! ### for, comprehensions -/
section
variable {X : Cx}
def dFor (wi : TDI) (g : TDG) (tb : TDS) : TDS := fun D δ S => wi δ S fun J S1 => ∃ (W : Nat → DSt → Sto → Prop) (n : Nat), W 0 δ S1 ∧ ∀ i δ S, W i δ S → ∃ r, J i S = some r ∧ (r = none → D.nx δ S) ∧
  ∀ x, r = some x → i < n ∧ g x δ S fun δ2 S2 => tb { D with nx := W (i + 1), ct := W (i + 1), bk := D.nx } δ2 S2
theorem ds_for {tg iter : Expr} {body : List Stmt} {wi : TDI} {g : TDG} {tb : TDS} {pos : Pos} (hp : PassesOwn (model X.prog X.w) X.A X.env X.xe) (hc : X.calm = true) (hi : PI X tg iter (lI X.K wi)) (hg : PG X tg (lG X.K g)) (hb : PSs X body (lS X.K tb))
    (hs : ∀ x, foldedSetIterable iter X.env x = pure x := by intro _; rfl) : PS X (.For tg iter body [] pos) (lS X.K (dFor wi g tb)) :=
  PS.wk (ps_for hp hc hi hg hb hs) fun D σ H ⟨N, δ, S, D', re, rs, q, l⟩ => by
    refine ⟨N, δ, S, _, re, rs, q, fun J S1 Jv H1 b1 rel q1 => ?_⟩
    obtain ⟨W, n, w0, turn⟩ := q1
    refine ⟨fun i m σ2 H2 => ∃ δ2 S2, m = n - i ∧ W i δ2 S2 ∧ RE ⟨X.K, N⟩ H2 S2 σ2 δ2 ∧ Bh ⟨X.K, N⟩ H1 S1 H2 S2, ⟨n, δ, S1, rfl, w0, re.le (rs.le b1.fr), .refl b1.rs⟩, ?_⟩
    rintro i m σ2 H2 ⟨δ2, S2, rfl, w2, re2, b2⟩
    obtain ⟨r, hr, hn, hgo⟩ := turn i δ2 S2 w2
    obtain ⟨r1, r2⟩ := rel N i H2 S2 b2 (b1.rs.le b2.fr)
    cases r with
    | none => exact .inl ⟨r1 hr, l.nx _ _ _ _ (b1.trans b2) re2 (hn rfl)⟩
    | some x =>
      obtain ⟨hlt, hgx⟩ := hgo x rfl
      obtain ⟨go, yl⟩ := r2 x hr
      refine .inr ⟨go, fun σ' H' => ∃ δ' S', W (i + 1) δ' S' ∧ RE ⟨X.K, N⟩ H' S' σ' δ' ∧ Bh ⟨X.K, N⟩ H1 S1 H' S', fun σ' H' ⟨δ', S', h1, h2, h3⟩ => ⟨n - (i + 1), by omega, δ', S', rfl, h1, h2, h3⟩, fun v H3 y => ?_⟩
      obtain ⟨b3, rv⟩ := yl v H3 y
      have b13 := b2.trans b3
      refine ⟨N, x, δ2, S2, _, rv, re2.le (b2.rs.le b3.fr), b3.rs, hgx, fun δ4 S4 σ4 H4 b4 re4 q4 => ?_⟩
      have b14 := b13.trans b4
      refine ⟨N, δ4, S4, _, re4, b4.rs, q4, ⟨?_, ?_, ?_, ?_⟩⟩
      · intro δ5 S5 σ5 H5 b5 re5 w5; exact ⟨δ5, S5, w5, re5, b14.trans b5⟩
      · intro d S5 v5 H5 b5 r5 w5; exact l.rt _ _ _ _ (b1.trans (b14.trans b5)) r5 w5
      · intro δ5 S5 σ5 H5 b5 re5 w5; exact l.nx _ _ _ _ (b1.trans (b14.trans b5)) re5 w5
      · intro δ5 S5 σ5 H5 b5 re5 w5; exact ⟨δ5, S5, w5, re5, b14.trans b5⟩
/-- over items that stand: Pv by the turn -/
theorem for_seq {ds : List D} {J : ItD} {g : TDG} {tb : TDS} {D : DEnds} {δ : DSt} {S : Sto} (Pv : Nat → DSt → Sto → Prop) (h0 : Pv 0 δ S) (hJ : ∀ i δ S, Pv i δ S → J i S = some ds[i]?)
    (hs : ∀ i x δ S, ds[i]? = some x → Pv i δ S → g x δ S fun δ2 S2 => tb { D with nx := Pv (i + 1), ct := Pv (i + 1), bk := D.nx } δ2 S2) (hd : ∀ i δ S, ds.length ≤ i → Pv i δ S → D.nx δ S) :
    ∃ (W : Nat → DSt → Sto → Prop) (n : Nat), W 0 δ S ∧ ∀ i δ S, W i δ S → ∃ r, J i S = some r ∧ (r = none → D.nx δ S) ∧
      ∀ x, r = some x → i < n ∧ g x δ S fun δ2 S2 => tb { D with nx := W (i + 1), ct := W (i + 1), bk := D.nx } δ2 S2 := by
  refine ⟨Pv, ds.length, h0, fun i δ S p => ⟨ds[i]?, hJ i δ S p, fun e => hd i δ S (List.getElem?_eq_none_iff.mp e) p, fun x e => ⟨(List.getElem?_eq_some_iff.mp e).1, hs i x δ S e p⟩⟩⟩
theorem for_rng {lo : Int} {n : Nat} {g : TDG} {tb : TDS} {D : DEnds} {δ : DSt} {S : Sto} (Pv : Nat → DSt → Sto → Prop) (h0 : Pv 0 δ S)
    (hs : ∀ i δ S, i < n → Pv i δ S → g (.int (lo + i)) δ S fun δ2 S2 => tb { D with nx := Pv (i + 1), ct := Pv (i + 1), bk := D.nx } δ2 S2) (hd : ∀ i δ S, n ≤ i → Pv i δ S → D.nx δ S) :
    ∃ (W : Nat → DSt → Sto → Prop) (m : Nat), W 0 δ S ∧ ∀ i δ S, W i δ S → ∃ r, (rangeI lo n) i S = some r ∧ (r = none → D.nx δ S) ∧
      ∀ x, r = some x → i < m ∧ g x δ S fun δ2 S2 => tb { D with nx := W (i + 1), ct := W (i + 1), bk := D.nx } δ2 S2 := by
  refine ⟨Pv, n, h0, fun i δ S p => ?_⟩
  unfold rangeI
  by_cases h : i < n
  · rw [if_pos h]
    exact ⟨_, rfl, (fun e => nomatch e), fun x e => by cases e; exact ⟨h, hs i δ S h p⟩⟩
  · rw [if_neg h]
    exact ⟨_, rfl, (fun _ => hd i δ S (by omega) p), fun x e => nomatch e⟩
/-- the own names of a block are forgotten -/
def wipeD (δ : DSt) : List Nat → DSt
  | [] => δ
  | v :: vs => (wipeD δ vs).set v none
theorem re_wipe {K : Kx} {H : Hp} {S : Sto} {σ : L2.St} {δ : DSt} (r : RE K H S σ δ) : ∀ vs, RE K H S (wipe σ vs) (wipeD δ vs)
  | [] => r
  | v :: vs => by
    obtain ⟨h1, h2⟩ := re_wipe r vs
    refine ⟨by simp [wipe, wipeD, h1], fun i d e => ?_⟩
    unfold wipeD at e
    by_cases hi : v = i
    · subst hi
      by_cases hl : v < (wipeD δ vs).length
      · rw [List.getElem?_set_self hl] at e; cases e
      · rw [List.getElem?_eq_none (by simp; omega)] at e; cases e
    · rw [List.getElem?_set_ne hi] at e
      unfold wipe
      rw [List.getElem?_set_ne hi]
      exact h2 i d e
theorem wipe_set {σ : L2.St} {i : Nat} {o : Option V} : ∀ {vs : List Nat}, i ∈ vs → wipe (σ.set i o) vs = wipe σ vs
  | v :: vs, h => by
    unfold wipe
    by_cases e : i ∈ vs
    · rw [wipe_set e]
    · have e' : i = v := (List.mem_cons.mp h).resolve_right e
      subst e'
      have : ∀ (ws : List Nat), i ∉ ws → wipe (σ.set i o) ws = (wipe σ ws).set i o := by
        intro ws
        induction ws with
        | nil => intro _; rfl
        | cons w ws ih =>
          intro hw
          have h1 : i ≠ w := fun z => hw (z ▸ List.mem_cons_self)
          have h2 : i ∉ ws := fun z => hw (List.mem_cons_of_mem _ z)
          unfold wipe
          rw [ih h2, List.set_comm _ _ h1]
      rw [this vs e, List.set_set]
theorem wipe_wipe (σ : L2.St) : ∀ vs : List Nat, wipe (wipe σ vs) vs = wipe σ vs
  | [] => rfl
  | v :: vs => by
    have h : wipe ((wipe σ vs).set v none) (v :: vs) = wipe (wipe σ vs) (v :: vs) := wipe_set List.mem_cons_self
    show wipe ((wipe σ vs).set v none) (v :: vs) = (wipe σ vs).set v none
    rw [h]
    show (wipe (wipe σ vs) vs).set v none = _
    rw [wipe_wipe σ vs]
/-- a block's target: below, over data; the other names stay -/
def TgC (K : Kx) (vs : List Nat) (gv : TG) (g : TDG) : Prop := ∀ (v : V) (d : DL.D) (σ : L2.St) (δ : DSt) (H : Hp) (S : Sto) (Q : DSt → Sto → Prop) (R : L2.St → Hp → Prop), RD K H S v d → RE K H S σ δ → RS K H S → g d δ S Q →
  (∀ σ' H' δ' S', wipe σ' vs = wipe σ vs → Bh K H S H' S' → RE K H' S' σ' δ' → Q δ' S' → R σ' H') → gv v σ H R
def TgCs (K : Kx) (vs : List Nat) (gv : TGs) (g : TDGs) : Prop := ∀ (us : List V) (ds : List DL.D) (σ : L2.St) (δ : DSt) (H : Hp) (S : Sto) (Q : DSt → Sto → Prop) (R : L2.St → Hp → Prop), RDs K H S us ds → RE K H S σ δ → RS K H S → g ds δ S Q →
  (∀ σ' H' δ' S', wipe σ' vs = wipe σ vs → Bh K H S H' S' → RE K H' S' σ' δ' → Q δ' S' → R σ' H') → gv us σ H R
theorem tg_name {K : Kx} {vs : List Nat} {i : Nat} (h : i ∈ vs) : TgC K vs (gName i) (gdName i) := fun v d σ δ H S Q R rd re rs q k => k _ _ _ S (wipe_set h) (.refl rs) (re.set rd i) q
theorem tgs_nil {K : Kx} {vs : List Nat} : TgCs K vs gNil gdNil := fun us ds σ δ H S Q R rd re rs q k => by
  obtain ⟨rfl, q⟩ := q
  exact ⟨rd.inv_nil, k _ _ δ S rfl (.refl rs) re q⟩
/-- a name, then others -/
theorem tgs_cons {K : Kx} {vs : List Nat} {i : Nat} {gv : TGs} {g : TDGs} (h : i ∈ vs) (k : TgCs K vs gv g) : TgCs K vs (gCons (gName i) gv) (gdCons (gdName i) g) := fun us ds σ δ H S Q R rd re rs q kk => by
  obtain ⟨d, r, rfl, q⟩ := q
  obtain ⟨v, ws, rfl, r1, r2⟩ := rd.inv_cons
  exact ⟨v, ws, rfl, k ws r (σ.set i (some v)) (δ.set i (some d)) H S Q R r2 (re.set r1 i) rs q fun σ' H' δ' S' e => kk σ' H' δ' S' (e.trans (wipe_set h))⟩
theorem tg_tup {Kf : PySem.W.Frag} {N : Addr → Prop} {vs : List Nat} {n : Nat} {gv : TGs} {g : TDGs} (k : TgCs ⟨Kf, N⟩ vs gv g) : TgC ⟨Kf, N⟩ vs (gTup Kf n gv) (gdTup n g) := fun v d σ δ H S Q R rd re rs q kk => by
  obtain ⟨ds, rfl, hl, q⟩ := q
  obtain ⟨a, us, rfl, sq, rv⟩ := rd.tup_
  exact ⟨a, us, rfl, .of sq, by rw [rv.length, hl], k us ds σ δ H S Q R rv re rs q kk⟩
/-- [e for x in .. if ..]: W by the turn, what is made so far, the store; nobody will change the new list -/
def dLc (wi : TDI) (g : TDG) (tt : TDT) (te : TDE) (vs : List Nat) : TDE := fun δ S Q => wi δ S fun J S1 => ∃ (W : Nat → List DL.D → Sto → Prop) (n : Nat), W 0 [] S1 ∧ ∀ i acc S2, W i acc S2 → ∃ r, J i S2 = some r ∧
  (r = none → Q (.fl acc) S2) ∧
  ∀ x, r = some x → i < n ∧ acc.length < sizeLine ∧ g x (wipeD δ vs) S2 fun δ2 S3 => tt δ2 S3 fun b S4 =>
    if b = true then te δ2 S4 fun y S5 => W (i + 1) (acc ++ [y]) S5 else W (i + 1) acc S4
theorem lift_lc {K : PySem.W.Frag} {wi : TDI} {gv : TG} {g : TDG} {tt : TDT} {te : TDE} (own : List (Str × Nat)) (hgd : ∀ N, TgC ⟨K, N⟩ (own.map (·.2)) gv g) {σ : L2.St} {H : Hp} {Q : VK} (h : lE K (dLc wi g tt te (own.map (·.2))) σ H Q) : tLc (lI K wi) gv (lT K tt) (lE K te) (own.map (·.2)) σ H Q := by
  obtain ⟨N, δ, S, Q', re, rs, q, kk⟩ := h
  refine ⟨N, δ, S, _, re, rs, q, fun J S1 Jv H1 b1 rel q1 A hA => ?_⟩
  obtain ⟨W, n, w0, turn⟩ := q1
  have re1 := re.le (rs.le b1.fr)
  have nA := b1.rs.nhid hA
  have sA := b1.rs.free hA
  obtain ⟨M, hM⟩ : ∃ M : Addr → Prop, M = fun a => N a ∨ a = A := ⟨_, rfl⟩
  -- the new list is hidden while it is made
  obtain ⟨rsA, frA, leA⟩ := b1.rs.laid (o := .lst []) hA
  have leM : ∀ {H2 : Hp} {S2 : Sto}, TupLe ⟨K, M⟩ H2 S2 ⟨K, N⟩ H2 S2 := fun {H2 S2} => ⟨fun a xs z => z, fun _ _ z => z, fun a xs z => z.elim (fun ⟨z1, z2, z3⟩ => .inl ⟨z1, z2, fun hn => z3 (by rw [hM]; exact .inl hn)⟩) .inr⟩
  have leN : TupLe ⟨K, N⟩ H1 S1 ⟨K, M⟩ (upd H1 A (.lst [])) S1 := by
    refine ⟨leA.t, fun _ _ z => z, fun a xs z => ?_⟩
    rcases z with ⟨z1, z2, z3⟩ | z
    · have ne : a ≠ A := fun e => by subst e; rcases z1 with z1 | ⟨o, z1⟩ <;> (rw [hA] at z1; cases z1)
      refine .inl ⟨?_, z2, fun hm => ?_⟩
      · rcases z1 with z1 | ⟨o, z1⟩
        · exact .inl (by rw [upd_ne ne]; exact z1)
        · exact .inr ⟨o, by rw [upd_ne ne]; exact z1⟩
      · rw [hM] at hm; exact hm.elim z3 ne
    · exact .inr z
  have bM : Bh ⟨K, M⟩ H1 S1 (upd H1 A (.lst [])) S1 := by
    refine ⟨frA, fun a o e => ?_, fun a ha => ?_, fun a ha => ?_⟩
    · have ne : a ≠ A := fun z => by subst z; rw [sA] at e; cases e
      exact (b1.rs.ob a o e).le leN (upd_ne ne)
    · rw [hM] at ha
      rcases ha with ha | ha
      · exact hid_upd b1.rs.hid a ha
      · exact ⟨_, by rw [ha]; exact upd_same⟩
    · rw [hM] at ha
      rcases ha with ha | ha
      · exact b1.rs.hidS a ha
      · rw [ha]; exact sA
  -- what a turn leaves: seen without the new list
  have toN : ∀ {H2 : Hp} {S2 : Sto}, Bh ⟨K, M⟩ H1 S1 H2 S2 → Bh ⟨K, N⟩ H1 S1 H2 S2 := fun {H2 S2} b => ⟨b.fr, fun a o e => (b.rs.ob a o e).le leM rfl, fun a ha => b.rs.hid a (by show M a; rw [hM]; exact .inl ha), fun a ha => b.rs.hidS a (by show M a; rw [hM]; exact .inl ha)⟩
  have reM : RE ⟨K, M⟩ (upd H1 A (.lst [])) S1 σ δ := re1.le leN
  refine ⟨fun i m H2 => ∃ acc S2 vs, m = n - i ∧ W i acc S2 ∧ (Bh ⟨K, M⟩ H1 S1 H2 S2 ∧ TupLe ⟨K, N⟩ H1 S1 ⟨K, M⟩ H2 S2) ∧ RE ⟨K, M⟩ H2 S2 σ δ ∧ H2 A = some (.lst vs) ∧ S2 A = none ∧ RDs ⟨K, M⟩ H2 S2 vs acc, ⟨n, [], S1, [], rfl, w0, ⟨bM, leN⟩, reM, upd_same, sA, .nil⟩, ?_⟩
  rintro i m H2 ⟨acc, S2, us, rfl, w2, ⟨b2, l2⟩, re2, hA2, sA2, ra⟩
  obtain ⟨r, hr, hn, hgo⟩ := turn i acc S2 w2
  obtain ⟨r1, r2⟩ := rel M i H2 S2 b2 l2
  cases r with
  | none =>
    refine .inl ⟨r1 hr, ?_⟩
    exact kk _ S2 _ H2 (b1.trans (toN b2)) (.of_fl (.inl ⟨.inl hA2, sA2, nA⟩) (ra.le leM)) (hn rfl)
  | some x =>
    obtain ⟨hlt, hsz, hgx⟩ := hgo x rfl
    obtain ⟨go, yl⟩ := r2 x hr
    refine .inr ⟨go, fun H' => ∃ acc' S' vs', W (i + 1) acc' S' ∧ (Bh ⟨K, M⟩ H1 S1 H' S' ∧ TupLe ⟨K, N⟩ H1 S1 ⟨K, M⟩ H' S') ∧ RE ⟨K, M⟩ H' S' σ δ ∧ H' A = some (.lst vs') ∧ S' A = none ∧ RDs ⟨K, M⟩ H' S' vs' acc', fun H' ⟨a', S', v', h1, h2, h3, h4, h5, h6⟩ => ⟨n - (i + 1), by omega, a', S', v', rfl, h1, h2, h3, h4, h5, h6⟩, fun v H3 y => ?_⟩
    obtain ⟨b3, rv⟩ := yl v H3 y
    have le3 := b2.rs.le b3.fr
    have fin : ∀ {H' : Hp} {S' : Sto}, Bh ⟨K, M⟩ H2 S2 H' S' → H' A = some (.lst us) ∧ S' A = none := fun {H' S'} b => b.fr A _ hA2 sA2
    -- a turn that adds nothing
    have skip : ∀ {H' : Hp} {S' : Sto}, Bh ⟨K, M⟩ H2 S2 H' S' → W (i + 1) acc S' → ∃ acc' S' vs', W (i + 1) acc' S' ∧ (Bh ⟨K, M⟩ H1 S1 H' S' ∧ TupLe ⟨K, N⟩ H1 S1 ⟨K, M⟩ H' S') ∧ RE ⟨K, M⟩ H' S' σ δ ∧ H' A = some (.lst vs') ∧ S' A = none ∧ RDs ⟨K, M⟩ H' S' vs' acc' := fun {H' S'} b w =>
      have le := b2.rs.le b.fr
      ⟨acc, S', us, w, ⟨b2.trans b, l2.trans le⟩, re2.le le, (fin b).1, (fin b).2, ra.le le⟩
    refine hgd M v x (wipe σ (own.map (·.2))) (wipeD δ (own.map (·.2))) H3 S2 _ _ rv (re_wipe (re2.le le3) _) b3.rs hgx fun σ4 H4 δ4 S4 e4 b4 re4 q4 => ?_
    refine ⟨e4.trans (wipe_wipe _ _), ?_⟩
    have b24 := b3.trans b4
    refine ⟨M, δ4, S4, _, re4, b4.rs, q4, fun c S5 H5 b5 q5 => ?_⟩
    have b25 := b24.trans b5
    cases c with
    | false =>
      rw [if_neg Bool.false_ne_true] at q5
      exact iteF (skip b25 q5)
    | true =>
      rw [if_pos rfl] at q5
      refine iteT ⟨M, δ4, S5, _, re4.le (b4.rs.le b5.fr), b5.rs, q5, fun y S6 u H6 b6 r6 q6 => ?_⟩
      have b26 := b25.trans b6
      obtain ⟨hA6, sA6⟩ := fin b26
      have le6 := b2.rs.le b26.fr
      refine ⟨us, hA6, by rw [ra.length]; exact hsz, ?_⟩
      have le7 : TupLe ⟨K, M⟩ H6 S6 ⟨K, M⟩ (upd H6 A (.lst (us ++ [u]))) S6 := by
        refine ⟨fun a xs z => ?_, fun _ _ z => z, fun a xs z => ?_⟩
        · rw [upd_ne (ne_of z hA6 (by intro w; cases w))]; exact z
        · rcases z with ⟨z1, z2, z3⟩ | z
          · have ne : a ≠ A := fun e => z3 (by show M a; rw [hM]; exact .inr e)
            refine .inl ⟨?_, z2, z3⟩
            rcases z1 with z1 | ⟨o, z1⟩
            · exact .inl (by rw [upd_ne ne]; exact z1)
            · exact .inr ⟨o, by rw [upd_ne ne]; exact z1⟩
          · exact .inr z
      have bb := b2.trans b26
      refine ⟨acc ++ [y], S6, us ++ [u], q6, ⟨⟨fun a o e n => ?_, fun a o e => ?_, fun a ha => hid_upd bb.rs.hid a ha, bb.rs.hidS⟩, (l2.trans le6).trans le7⟩, (re2.le le6).le le7, upd_same, sA6, ((ra.le le6).append (.cons r6 .nil)).le le7⟩
      · obtain ⟨z1, z2⟩ := bb.fr a o e n
        exact ⟨by rw [upd_ne (ne_of_none e hA)]; exact z1, z2⟩
      · have ne : a ≠ A := fun z => by subst z; rw [sA6] at e; cases e
        exact (bb.rs.ob a o e).le le7 (upd_ne ne)
theorem de_lc {elt tg iter : Expr} {ifs : List Expr} {scope : Scope} {pos : Pos} {wi : TDI} {gv : TG} {g : TDG} {tt : TDT} {te : TDE} (own : List (Str × Nat)) (hc : X.calm = true) (hN : X.N.Nodup) (hi : PI X tg iter (lI X.K wi)) (ok : BlkOk X.N X.env.scope scope own)
    (hg : ∀ (s : Shared) (H : Hp) (C : Addr) (cl : List (Str × Addr)) (fp : List Addr), PG (X.blk s H scope (compEnvC scope cl C X.env) fp) tg gv) (hgd : ∀ N, TgC ⟨X.K, N⟩ (own.map (·.2)) gv g) (ht : ∀ (s : Shared) (H : Hp) (C : Addr) (cl : List (Str × Addr)) (fp : List Addr), PTs (X.blk s H scope (compEnvC scope cl C X.env) fp) ifs (lT X.K tt))
    (he : ∀ (s : Shared) (H : Hp) (C : Addr) (cl : List (Str × Addr)) (fp : List Addr), PE (X.blk s H scope (compEnvC scope cl C X.env) fp) elt (lE X.K te)) (hs : ∀ x, foldedSetIterable iter X.env x = pure x := by intro _; rfl) :
    PE X (.ListComp elt [⟨tg, iter, ifs, 0⟩] scope pos) (lE X.K (dLc wi g tt te (own.map (·.2)))) := PE.wk (pe_lc hc hN hi ok hg ht he hs) fun σ H Q h => lift_lc own hgd h
/-- name = [..] -/
theorem ds_setLc (i : Nat) {y : Str} {py spos : Pos} {elt tg iter : Expr} {ifs : List Expr} {scope : Scope} {pos : Pos} {wi : TDI} {gv : TG} {g : TDG} {tt : TDT} {te : TDE} (own : List (Str × Nat)) (hc : X.calm = true) (hN : X.N.Nodup) (hi : PI X tg iter (lI X.K wi)) (ok : BlkOk X.N X.env.scope scope own)
    (hg : ∀ (s : Shared) (H : Hp) (C : Addr) (cl : List (Str × Addr)) (fp : List Addr), PG (X.blk s H scope (compEnvC scope cl C X.env) fp) tg gv) (hgd : ∀ N, TgC ⟨X.K, N⟩ (own.map (·.2)) gv g) (ht : ∀ (s : Shared) (H : Hp) (C : Addr) (cl : List (Str × Addr)) (fp : List Addr), PTs (X.blk s H scope (compEnvC scope cl C X.env) fp) ifs (lT X.K tt))
    (he : ∀ (s : Shared) (H : Hp) (C : Addr) (cl : List (Str × Addr)) (fp : List Addr), PE (X.blk s H scope (compEnvC scope cl C X.env) fp) elt (lE X.K te)) (hs : ∀ x, foldedSetIterable iter X.env x = pure x := by intro _; rfl)
    (hy : X.N[i]? = some y := by rfl) (hyl : X.env.scope.names.lookup y = some .local := by rfl) (hsw : swapsWith (.ListComp elt [⟨tg, iter, ifs, 0⟩] scope pos) (some (.Name y py)) spos.line X.env = pure true := by exact sw_true rfl rfl rfl (by decide +kernel)) :
    PS X (.Assign [.Name y py] (.ListComp elt [⟨tg, iter, ifs, 0⟩] scope pos) spos) (lS X.K (dAsg (dLc wi g tt te (own.map (·.2))) (gdName i))) :=
  PS.wk (ps_setLc hc hN hy hyl hsw hi ok hg ht he hs) fun D σ H ⟨N, δ, S, D', re, rs, q, l⟩ => lift_lc own hgd ⟨N, δ, S, _, re, rs, q, fun d S1 v H1 b1 r1 q1 => l.nx _ S1 _ H1 b1 ((re.le (rs.le b1.fr)).set r1 i) q1⟩
def dYes : TDT := fun _ S Q => Q true S
theorem dts_nil : PTs X [] (lT X.K dYes) := ⟨fun pins s σ H Q I ⟨N, δ, S, Q', re, rs, q, k⟩ => pts_nil.run pins s σ H Q I (k _ S H (.refl rs) q)⟩
end
end DL

/-! Data layer, fourth part: operators, comparisons, subscripts, built-ins over data. -/
namespace DL
open PySem L2 PyProof.Rows

theorem ofString_inj {a b : String} : (Str.ofString a = Str.ofString b) ↔ a = b := by
  constructor
  · intro h
    rw [Str.ofString_eq_toList, Str.ofString_eq_toList] at h
    have h1 : a.toList.map Char.toNat = b.toList.map Char.toNat := by
      have := congrArg Str.cps h
      simpa using this
    have h2 : ∀ (l m : List Char), l.map Char.toNat = m.map Char.toNat → l = m := by
      intro l
      induction l with
      | nil => intro m e; cases m with
        | nil => rfl
        | cons _ _ => simp at e
      | cons x xs ih => intro m e; cases m with
        | nil => simp at e
        | cons y ys =>
          simp only [List.map_cons, List.cons.injEq] at e
          rw [ih ys e.2, Char.ext (UInt32.toNat_inj.mp e.1)]
    exact String.ext (h2 _ _ h1)
  · intro h; rw [h]

/-! ### lists, whatever way they stand -/
/-- the items of a list: a frozen one, or one of the store -/
def lsOf (S : Sto) : D → Option (List D)
  | .fl xs => some xs
  | .at (.ref a) => match S a with
    | some (.lst xs) => some xs
    | _ => none
  | _ => none
/-- of a list or a tuple -/
def sqOf (S : Sto) : D → Option (List D)
  | .tup xs => some xs
  | .wt xs => some xs
  | d => lsOf S d
section
variable {K : Kx} {H H' : Hp} {S S' : Sto}
theorem ls_sq {v : V} {d : D} {xs : List D} (rs : RS K H S) (r : RD K H S v d) (h : lsOf S d = some xs) : ∃ a vs, v = .ref a ∧ SqL K.k H a vs ∧ RDs K H S vs xs := by
  unfold lsOf at h
  split at h
  · cases h
    obtain ⟨a, vs, rfl, fz, rv⟩ := r.fl_
    exact ⟨a, vs, rfl, fz.sq, rv⟩
  · rename_i a
    split at h
    · rename_i ys e
      cases h
      obtain ⟨vs, h1, h2⟩ := rs.ob a _ e
      exact ⟨a, vs, r.at_, .of h1, h2⟩
    · cases h
  · cases h
theorem sq_sq {v : V} {d : D} {xs : List D} (rs : RS K H S) (r : RD K H S v d) (h : sqOf S d = some xs) : ∃ a vs, v = .ref a ∧ (SqL K.k H a vs ∨ SqT K.k H a vs) ∧ RDs K H S vs xs := by
  cases d with
  | tup ds =>
    cases h
    obtain ⟨a, vs, rfl, t, rv⟩ := r.tup_
    exact ⟨a, vs, rfl, .inr (.of t), rv⟩
  | wt ds =>
    cases h
    obtain ⟨a, vs, rfl, t, rv⟩ := r.wt_
    exact ⟨a, vs, rfl, .inr (.inr t), rv⟩
  | «at» u =>
    obtain ⟨a, vs, e, q, rv⟩ := ls_sq rs r (show lsOf S (.at u) = some xs from h)
    exact ⟨a, vs, e, .inl q, rv⟩
  | fl ds =>
    obtain ⟨a, vs, e, q, rv⟩ := ls_sq rs r (show lsOf S (.fl ds) = some xs from h)
    exact ⟨a, vs, e, .inl q, rv⟩
end

/-! ### data as such -/
mutual
def toPy : D → PyData
  | .at .non => .none
  | .at (.bl b) => .bool b
  | .at (.int i) => .int i
  | .at (.str s) => .str s
  | .at _ => .dict []
  | .tup l => .tuple (toPys l)
  | .wt l => .tuple (toPys l)
  | .fl l => .list (toPys l)
def toPys : List D → List PyData
  | [] => []
  | d :: ds => toPy d :: toPys ds
end
mutual
/-- data without anything that may change -/
def pur : D → Bool
  | .at .non => true
  | .at (.bl _) => true
  | .at (.int _) => true
  | .at (.str _) => true
  | .at _ => false
  | .tup l => purs l
  | .wt l => purs l
  | .fl l => purs l
def purs : List D → Bool
  | [] => true
  | d :: ds => pur d && purs ds
end
theorem toPys_map : ∀ ds : List D, toPys ds = ds.map toPy
  | [] => by unfold toPys; rfl
  | d :: ds => by unfold toPys; rw [toPys_map ds]; rfl
theorem purs_all : ∀ ds : List D, purs ds = ds.all pur
  | [] => by unfold purs; rfl
  | d :: ds => by unfold purs; rw [purs_all ds]; rfl
section
variable {K : Kx} {H H' : Hp} {S S' : Sto}
mutual
theorem dp_of : ∀ {v : V} {d : D}, RD K H S v d → pur d = true → Dp K.k H v (toPy d)
  | v, .at u, r, p => by
    have e := r.at_
    subst e
    cases v with
    | non => unfold toPy; exact .non
    | bl b => unfold toPy; exact .bl b
    | int i => unfold toPy; exact .int i
    | str s => unfold toPy; exact .str s
    | byt _ => unfold pur at p; cases p
    | flt _ => unfold pur at p; cases p
    | ref _ => unfold pur at p; cases p
    | ty _ => unfold pur at p; cases p
  | v, .tup ds, r, p => by
    obtain ⟨a, vs, rfl, t, rv⟩ := r.tup_
    unfold pur at p
    unfold toPy
    exact .tup (.of t) (dps_of rv p)
  | v, .wt ds, r, p => by
    obtain ⟨a, vs, rfl, t, rv⟩ := r.wt_
    unfold pur at p
    unfold toPy
    exact .tup (.inr t) (dps_of rv p)
  | v, .fl ds, r, p => by
    obtain ⟨a, vs, rfl, t, rv⟩ := r.fl_
    unfold pur at p
    unfold toPy
    exact .lst t.sq (dps_of rv p)
theorem dps_of : ∀ {vs : List V} {ds : List D}, RDs K H S vs ds → purs ds = true → DpAll K.k H vs (toPys ds)
  | vs, [], r, p => by rw [r.inv_nil]; unfold toPys; exact .nil
  | vs, d :: ds, r, p => by
    obtain ⟨v, ws, rfl, r1, r2⟩ := r.inv_cons
    unfold purs at p
    rw [Bool.and_eq_true] at p
    unfold toPys
    exact .cons (dp_of r1 p.1) (dps_of r2 p.2)
end
end
/-- a list of the store, as it stands -/
def rsv (S : Sto) : D → D
  | .at (.ref a) => match S a with
    | some (.lst xs) => .fl xs
    | _ => .at (.ref a)
  | d => d
theorem dp_rsv {K : Kx} {H : Hp} {S : Sto} {v : V} {d : D} (rs : RS K H S) (r : RD K H S v d) (p : pur (rsv S d) = true) : Dp K.k H v (toPy (rsv S d)) := by
  unfold rsv at p ⊢
  split
  · rename_i a
    split
    · rename_i xs e
      dsimp only at p
      rw [e] at p
      obtain ⟨vs, h1, h2⟩ := rs.ob a _ e
      rw [r.at_]
      unfold pur at p
      unfold toPy
      exact .lst (.of h1) (dps_of h2 p)
    · rename_i hn
      dsimp only at p
      split at p
      · rename_i xs e; exact absurd e (hn xs)
      · unfold pur at p; cases p
  · rename_i hn
    split at p
    · exact absurd rfl (hn _)
    · exact dp_of r p
/-- fit to be compared -/
def cmpOk (d : D) : Bool := pur d && SeqAt.shaped (toPy d)

/-! ### arithmetic -/
section
variable {X : Cx}
abbrev iN := Int
def addD (mu : Bool) : RD2 := fun x y S Q => match x, y with
  | .at (.int i), .at (.int j) => Q (.int (i + j)) S
  | .at (.str a), .at (.str b) => a.length + b.length ≤ sizeLine ∧ Q (.str (a ++ b)) S
  | .tup xs, .tup ys => xs.length + ys.length ≤ sizeLine ∧ Q (.tup (xs ++ ys)) S
  | x, y => ∃ xs ys, lsOf S x = some xs ∧ lsOf S y = some ys ∧ xs.length + ys.length ≤ sizeLine ∧ (if mu = true then ∀ p, S p = none → Q (.ref p) (up S p (.lst (xs ++ ys))) else Q (.fl (xs ++ ys)) S)
theorem op_catS : OpR X (binaryOp .Add) (fun x y H Q => ∃ l b xs zs, x = .ref l ∧ y = .ref b ∧ SqL X.K H l xs ∧ SqL X.K H b zs ∧ xs.length + zs.length ≤ sizeLine ∧ ∀ p, H p = none → Q (.ref p) (upd H p (.lst (xs ++ zs)))) := by
  intro pins s σ H x y v u Q I rx ry h
  obtain ⟨l, b, xs, zs, rfl, rfl, hl, hb, hz, q⟩ := h
  cases rx
  cases ry
  obtain ⟨its, r1, pl1, z1⟩ := I.list hl
  obtain ⟨its2, r2, pl2, z2⟩ := I.list hb
  have l1 := r1.length
  have l2 := r2.length
  obtain ⟨⟨cls, dd, data, sl⟩, n, ho, hc, hd, hs⟩ := pl1
  obtain ⟨⟨cls2, dd2, data2, sl2⟩, n2, ho2, hc2, hd2, hs2⟩ := pl2
  simp only at hc hd hs hc2 hd2 hs2
  subst hc hd hs hc2 hd2 hs2
  have lay := list_addW l b its.toArray its2.toArray n n2 none none sl sl2 (by rw [List.size_toArray, List.size_toArray]; omega)
  refine concat_meets ⟨_, ho, rfl⟩ ⟨_, ho2, rfl⟩ noFill_list_add seq_list_add PySem.F.slot_list_add PySem.F.entry_list_add (PySem.F.args_list_add_2 _ _) lay ⟨ho, ho2, ?_⟩
  have e : its.toArray ++ its2.toArray = (its ++ its2).toArray := by simp
  rw [e]
  exact ⟨.ref _, _, I.lnew (t' := s.toks) (r1.append r2) (by rw [List.length_append]; omega), rfl, q _ I.fresh⟩
theorem od_add (mu : Bool) : OpR X (binaryOp .Add) (l2 X.K (addD mu)) := by
  intro pins s σ H v u vv uu Q I rv ru h
  obtain ⟨N, x, y, S, Q', rx, ry, rs, q, k⟩ := h
  have lists : ∀ {xs ys : List D}, lsOf S x = some xs → lsOf S y = some ys → xs.length + ys.length ≤ sizeLine → (if mu = true then ∀ p, S p = none → Q' (.ref p) (up S p (.lst (xs ++ ys))) else Q' (.fl (xs ++ ys)) S) → wpAny (model X.prog X.w) X.A (binaryOp .Add vv uu) (EP X pins σ Q) X.xe s := by
    intro xs ys h1 h2 hz q
    obtain ⟨a, vs, rfl, sa, ra⟩ := ls_sq rs rx h1
    obtain ⟨b, ws, rfl, sb, rb⟩ := ls_sq rs ry h2
    refine op_catS pins s σ H _ _ _ _ Q I rv ru ⟨a, b, vs, ws, rfl, rfl, sa, sb, by rw [ra.length, rb.length]; exact hz, fun p np => ?_⟩
    cases mu with
    | true =>
      rw [if_pos rfl] at q
      exact k _ _ _ _ (new_lst rs np (ra.append rb)) (.of _) (q p (rs.free np))
    | false =>
      obtain ⟨b1, r1⟩ := new_fl rs np (ra.append rb)
      rw [if_neg Bool.false_ne_true] at q
      exact k _ _ _ _ b1 r1 q
  unfold addD at q
  split at q
  · rename_i i j
    exact op_add pins s σ H _ _ _ _ Q I rv ru ⟨i, j, rx.at_, ry.at_, k _ S _ H (.refl rs) (.of _) q⟩
  · rename_i a b
    exact op_add_str pins s σ H _ _ _ _ Q I rv ru ⟨a, b, rx.at_, ry.at_, q.1, k _ S _ H (.refl rs) (.of _) q.2⟩
  · rename_i xs ys
    obtain ⟨a, vs, rfl, ta, ra⟩ := rx.tup_
    obtain ⟨b, ws, rfl, tb, rb⟩ := ry.tup_
    refine op_catA pins s σ H _ _ _ _ Q I rv ru ⟨a, b, vs, ws, rfl, rfl, .of ta, .of tb, by rw [ra.length, rb.length]; exact q.1, fun e => ?_, fun e e2 => ?_, fun e e2 p np => ?_⟩
    · subst e
      have : xs = [] := by
        have := ra.length
        exact List.eq_nil_of_length_eq_zero this.symm
      subst this
      exact k _ S _ H (.refl rs) (.of_tup tb rb) (by simpa using q.2)
    · subst e2
      have : ys = [] := List.eq_nil_of_length_eq_zero rb.length.symm
      subst this
      exact k _ S _ H (.refl rs) (.of_tup ta ra) (by simpa using q.2)
    · obtain ⟨b1, r1⟩ := new_tup rs np (ra.append rb)
      exact k _ S _ _ b1 r1 q.2
  · obtain ⟨xs, ys, h1, h2, hz, q⟩ := q
    exact lists h1 h2 hz q
/-- two ints -/
def intD (C : Int → Int → Prop) (g : Int → Int → V) : RD2 := fun x y S Q => match x, y with
  | .at (.int i), .at (.int j) => C i j ∧ Q (.at (g i j)) S
  | _, _ => False
theorem od_int {f : Value → Value → Sem Value} {C : Int → Int → Prop} {g : Int → Int → V} (h : OpR X f (rI C g)) : OpR X f (l2 X.K (intD C g)) := by
  intro pins s σ H v u vv uu Q I rv ru h'
  obtain ⟨N, x, y, S, Q', rx, ry, rs, q, k⟩ := h'
  unfold intD at q
  split at q
  · rename_i i j
    exact h pins s σ H _ _ _ _ Q I rv ru ⟨i, j, rx.at_, ry.at_, q.1, k _ S _ H (.refl rs) (.of _) q.2⟩
  · exact q.elim
theorem od_sub : OpR X (binaryOp .Sub) (l2 X.K (intD (fun _ _ => True) fun i j => .int (i - j))) := od_int fun pins s σ H x y v u Q I rv ru ⟨i, j, e1, e2, _, q⟩ => op_sub pins s σ H x y v u Q I rv ru ⟨i, j, e1, e2, q⟩
theorem od_mul : OpR X (binaryOp .Mult) (l2 X.K (intD CMul fun i j => .int (i * j))) := od_int op_mul
theorem od_fdiv : OpR X (binaryOp .FloorDiv) (l2 X.K (intD CDiv fun i j => .int (i / j))) := od_int op_fdiv
theorem od_mod : OpR X (binaryOp .Mod) (l2 X.K (intD (fun _ j => 0 < j) fun i j => .int (i % j))) := od_int op_mod
theorem od_pow : OpR X (binaryOp .Pow) (l2 X.K (intD CPow fun i j => .int (i ^ j.toNat))) := od_int op_pow
def negD : RD1 := fun x S Q => match x with
  | .at (.int i) => Q (.int (-i)) S
  | _ => False
theorem ud_neg : UnR X (unaryOp .USub) (l1 X.K negD) := by
  intro pins s σ H v vv Q I rv h'
  obtain ⟨N, x, S, Q', rx, rs, q, k⟩ := h'
  unfold negD at q
  split at q
  · rename_i i
    exact un_neg pins s σ H _ _ Q I rv ⟨i, rx.at_, k _ S _ H (.refl rs) (.of _) q⟩
  · exact q.elim

/-! ### comparisons -/
/-- two ints, or two texts -/
def ltD : RD2 := fun x y S Q => match x, y with
  | .at (.int i), .at (.int j) => Q (.bl (decide (i < j))) S
  | .at (.str a), .at (.str b) => Q (.bl (decide (a.cps.toList < b.cps.toList))) S
  | _, _ => False
theorem od_lt : OpR X (compareOp .Lt) (l2 X.K ltD) := by
  intro pins s σ H v u vv uu Q I rv ru h'
  obtain ⟨N, x, y, S, Q', rx, ry, rs, q, k⟩ := h'
  unfold ltD at q
  split at q
  · rename_i i j
    exact op_lt pins s σ H _ _ _ _ Q I rv ru ⟨i, j, rx.at_, ry.at_, k _ S _ H (.refl rs) (.of _) q⟩
  · rename_i a b
    exact op_lt_str pins s σ H _ _ _ _ Q I rv ru ⟨a, b, rx.at_, ry.at_, k _ S _ H (.refl rs) (.of _) q⟩
  · exact q.elim
theorem od_le : OpR X (compareOp .LtE) (l2 X.K (intD (fun _ _ => True) fun i j => .bl (decide (i ≤ j)))) := od_int fun pins s σ H x y v u Q I rv ru ⟨i, j, e1, e2, _, q⟩ => op_le pins s σ H x y v u Q I rv ru ⟨i, j, e1, e2, q⟩
theorem od_gt : OpR X (compareOp .Gt) (l2 X.K (intD (fun _ _ => True) fun i j => .bl (decide (j < i)))) := od_int fun pins s σ H x y v u Q I rv ru ⟨i, j, e1, e2, _, q⟩ => op_gt pins s σ H x y v u Q I rv ru ⟨i, j, e1, e2, q⟩
theorem od_ge : OpR X (compareOp .GtE) (l2 X.K (intD (fun _ _ => True) fun i j => .bl (decide (j ≤ i)))) := od_int fun pins s σ H x y v u Q I rv ru ⟨i, j, e1, e2, _, q⟩ => op_ge pins s σ H x y v u Q I rv ru ⟨i, j, e1, e2, q⟩
/-- == of data -/
def eqD (neg : Bool) : RD2 := fun x y S Q => match x, y with
  | .at (.int i), .at (.int j) => Q (.bl (xor neg (decide (i = j)))) S
  | .at (.str a), .at (.str b) => Q (.bl (xor neg (decide (a = b)))) S
  | .at .non, .at .non => Q (.bl (xor neg true)) S
  | .at (.str _), .at (.int _) => Q (.bl (xor neg false)) S
  | .at (.int _), .at (.str _) => Q (.bl (xor neg false)) S
  | .at (.str _), .at .non => Q (.bl (xor neg false)) S
  | .at .non, .at (.str _) => Q (.bl (xor neg false)) S
  | .at (.int _), .at .non => Q (.bl (xor neg false)) S
  | .at .non, .at (.int _) => Q (.bl (xor neg false)) S
  | .at (.bl a), .at (.bl b) => Q (.bl (xor neg (decide (a = b)))) S
  | x, y => cmpOk (rsv S x) = true ∧ cmpOk (rsv S y) = true ∧ Q (.bl (xor neg (PyData.eqv (toPy (rsv S x)) (toPy (rsv S y))))) S
theorem eq_scal {neg : Bool} {f : Value → Value → Sem Value} {r : R2} (h : OpR X f r) (hr : ∀ x y H Q, scal x y = true → Q (.bl (xor neg (decide (x = y)))) H → r x y H Q) {pins : List (Addr × Obj)} {s : Shared} {σ : L2.St} {H : Hp} {x y : V} {v u : Value} {Q : VK} (I : Inv X pins σ H s) (rv : RelV x v) (ru : RelV y u) (hs : scal x y = true)
    (q : Q (.bl (xor neg (decide (x = y)))) H) : wpAny (model X.prog X.w) X.A (f v u) (EP X pins σ Q) X.xe s := h pins s σ H x y v u Q I rv ru (hr x y H Q hs q)
theorem od_eqG {neg : Bool} {f : Value → Value → Sem Value} {r r' : R2} (h : OpR X f r) (hr : ∀ x y H Q, scal x y = true → Q (.bl (xor neg (decide (x = y)))) H → r x y H Q)
    (h' : OpR X f r') (hr' : ∀ x y H Q d e, Dp X.K H x d → Dp X.K H y e → SeqAt.shaped d = true → SeqAt.shaped e = true → Q (.bl (xor neg (PyData.eqv d e))) H → r' x y H Q) : OpR X f (l2 X.K (eqD neg)) := by
  intro pins s σ H v u vv uu Q I rv ru hh
  obtain ⟨N, x, y, S, Q', rx, ry, rs, q, k⟩ := hh
  have fin : ∀ {v' u' : V}, RD ⟨X.K, N⟩ H S v (.at v') → RD ⟨X.K, N⟩ H S u (.at u') → scal v' u' = true → Q' (.bl (xor neg (decide (v' = u')))) S → wpAny (model X.prog X.w) X.A (f vv uu) (EP X pins σ Q) X.xe s := by
    intro v' u' e1 e2 hs q
    have := e1.at_; subst this
    have := e2.at_; subst this
    exact eq_scal h hr I rv ru hs (k _ S _ H (.refl rs) (.of _) q)
  unfold eqD at q
  split at q
  all_goals first
    | exact fin rx ry rfl (by simpa using q)
    | skip
  obtain ⟨q1, q2, q3⟩ := q
  unfold cmpOk at q1 q2
  rw [Bool.and_eq_true] at q1 q2
  exact h' pins s σ H v u vv uu Q I rv ru (hr' _ _ _ _ _ _ (dp_rsv rs rx q1.1) (dp_rsv rs ry q2.1) q1.2 q2.2 (k _ S _ H (.refl rs) (.of _) q3))
theorem od_eq (hr : Rg k X.A) : OpR X (compareOp .Eq) (l2 X.K (eqD false)) :=
  od_eqG op_eq (fun x y H Q h q => ⟨h, by simpa using q⟩) (op_eqD hr.r.units) fun x y H Q d e hd he sd se q => ⟨d, e, hd, he, sd, se, by simpa using q⟩
theorem od_ne (hr : Rg k X.A) : OpR X (compareOp .NotEq) (l2 X.K (eqD true)) :=
  od_eqG op_ne (fun x y H Q h q => ⟨h, by simpa using q⟩) (op_neD hr.r.units) fun x y H Q d e hd he sd se q => ⟨d, e, hd, he, sd, se, by simpa using q⟩
def isnD (neg : Bool) : RD2 := fun x y S Q => y = .non ∧ Q (.bl (xor neg (decide (x = .non)))) S
theorem non_iff {K : Kx} {H : Hp} {S : Sto} {v : V} {x : D} (r : RD K H S v x) : decide (v = .non) = decide (x = .non) := by
  cases x with
  | «at» u => rw [r.at_]; simp [D.non]
  | tup l => obtain ⟨a, vs, rfl, _⟩ := r.tup_; simp [D.non]
  | wt l => obtain ⟨a, vs, rfl, _⟩ := r.wt_; simp [D.non]
  | fl l => obtain ⟨a, vs, rfl, _⟩ := r.fl_; simp [D.non]
theorem od_is : OpR X (compareOp .Is) (l2 X.K (isnD false)) := by
  intro pins s σ H v u vv uu Q I rv ru hh
  obtain ⟨N, x, y, S, Q', rx, ry, rs, ⟨rfl, q⟩, k⟩ := hh
  refine op_isN pins s σ H v u vv uu Q I rv ru ⟨ry.at_, ?_⟩
  rw [non_iff rx]
  exact k _ S _ H (.refl rs) (.of _) (by simpa using q)
theorem od_isnot : OpR X (compareOp .IsNot) (l2 X.K (isnD true)) := by
  intro pins s σ H v u vv uu Q I rv ru hh
  obtain ⟨N, x, y, S, Q', rx, ry, rs, ⟨rfl, q⟩, k⟩ := hh
  refine op_notN pins s σ H v u vv uu Q I rv ru ⟨ry.at_, ?_⟩
  rw [non_iff rx]
  exact k _ S _ H (.refl rs) (.of _) (by simpa using q)

/-! ### in -/
/-- x in y: among flat things; among data; a key of a dict; a sign of a text -/
def keyD : D → Option Key
  | .at (.int i) => some (.inl i)
  | .at (.str s) => some (.inr s)
  | _ => none
def keysD : List D → Option (List Key)
  | [] => some []
  | d :: ds => match keyD d, keysD ds with
    | some k, some ks => some (k :: ks)
    | _, _ => none
theorem keyD_eq {d : D} {k : Key} (h : keyD d = some k) : d = .at (kV k) := by
  unfold keyD at h
  split at h
  · cases h; rfl
  · cases h; rfl
  · cases h
theorem keysD_eq : ∀ {ds : List D} {ks : List Key}, keysD ds = some ks → ds = (ks.map kV).map D.at
  | [], ks, h => by unfold keysD at h; cases h; rfl
  | d :: ds, ks, h => by
    unfold keysD at h
    split at h
    · rename_i k ks' e1 e2
      cases h
      rw [keyD_eq e1, keysD_eq e2]
      rfl
    · cases h
variable {κ : Type} [DecidableEq κ]
def valD (kvs : List (κ × D)) (k : κ) : Option D := (kvs.find? fun kv => decide (kv.1 = k)).map (·.2)
def putD (kvs : List (κ × D)) (k : κ) (v : D) : List (κ × D) := if (kvs.any fun kv => decide (kv.1 = k)) then kvs.map fun kv => if kv.1 = k then (kv.1, v) else kv else kvs ++ [(k, v)]
theorem rel_val {K : Kx} {H : Hp} {S : Sto} : ∀ {ks : List (κ × V)} {kvs : List (κ × D)}, ks.map (·.1) = kvs.map (·.1) → RDs K H S (ks.map (·.2)) (kvs.map (·.2)) → ∀ k, (valD kvs k = none → valV ks k = none) ∧ ∀ d, valD kvs k = some d → ∃ v, valV ks k = some v ∧ RD K H S v d
  | [], [], _, _, k => ⟨fun _ => rfl, fun d e => by simp [valD] at e⟩
  | [], _ :: _, e, _, _ => by simp at e
  | _ :: _, [], e, _, _ => by simp at e
  | a :: ks, b :: kvs, e, r, k => by
    simp only [List.map_cons, List.cons.injEq] at e
    obtain ⟨r1, r2⟩ := RDs.of_cons (v := a.2) (d := b.2) r
    have ih := rel_val e.2 r2 k
    by_cases h : b.1 = k
    · have h' : a.1 = k := e.1.trans h
      refine ⟨fun z => ?_, fun d z => ?_⟩
      · simp [valD, List.find?_cons, h] at z
      · have : d = b.2 := by simpa [valD, List.find?_cons, h] using z.symm
        subst this
        exact ⟨a.2, by simp [valV, List.find?_cons, h'], r1⟩
    · have h' : ¬ a.1 = k := fun z => h (e.1.symm.trans z)
      have e1 : valD (b :: kvs) k = valD kvs k := by simp [valD, List.find?_cons, h]
      have e2 : valV (a :: ks) k = valV ks k := valV_neg h'
      rw [e1, e2]
      exact ih
theorem rel_put {K : Kx} {H : Hp} {S : Sto} {ks : List (κ × V)} {kvs : List (κ × D)} {v : V} {d : D} (e : ks.map (·.1) = kvs.map (·.1)) (r : RDs K H S (ks.map (·.2)) (kvs.map (·.2))) (k : κ) (rv : RD K H S v d) :
    (putK ks k v).map (·.1) = (putD kvs k d).map (·.1) ∧ RDs K H S ((putK ks k v).map (·.2)) ((putD kvs k d).map (·.2)) := by
  have any : ∀ (as : List (κ × V)) (bs : List (κ × D)), as.map (·.1) = bs.map (·.1) → (as.any fun kv => decide (kv.1 = k)) = bs.any fun kv => decide (kv.1 = k) := by
    intro as
    induction as with
    | nil => intro bs h; cases bs with
      | nil => rfl
      | cons _ _ => simp at h
    | cons a as ih => intro bs h; cases bs with
      | nil => simp at h
      | cons b bs =>
        simp only [List.map_cons, List.cons.injEq] at h
        simp only [List.any_cons, h.1, ih bs h.2]
  have rep : ∀ (as : List (κ × V)) (bs : List (κ × D)), as.map (·.1) = bs.map (·.1) → RDs K H S (as.map (·.2)) (bs.map (·.2)) → (as.map fun kv => if kv.1 = k then (kv.1, v) else kv).map (·.1) = (bs.map fun kv => if kv.1 = k then (kv.1, d) else kv).map (·.1) ∧
      RDs K H S ((as.map fun kv => if kv.1 = k then (kv.1, v) else kv).map (·.2)) ((bs.map fun kv => if kv.1 = k then (kv.1, d) else kv).map (·.2)) := by
    intro as
    induction as with
    | nil => intro bs h _; cases bs with
      | nil => exact ⟨rfl, .nil⟩
      | cons _ _ => simp at h
    | cons a as ih => intro bs h h2; cases bs with
      | nil => simp at h
      | cons b bs =>
        simp only [List.map_cons, List.cons.injEq] at h
        obtain ⟨r1, r2⟩ := RDs.of_cons (v := a.2) (d := b.2) h2
        obtain ⟨i1, i2⟩ := ih bs h.2 r2
        by_cases hk : b.1 = k
        · have hk' : a.1 = k := h.1.trans hk
          simp only [List.map_cons, hk, hk', if_pos]
          exact ⟨by rw [i1], .cons rv i2⟩
        · have hk' : ¬ a.1 = k := fun z => hk (h.1.symm.trans z)
          simp only [List.map_cons, if_neg hk, if_neg hk']
          exact ⟨by rw [h.1, i1], .cons r1 i2⟩
  unfold putK putD
  rw [any ks kvs e]
  split
  · exact rep ks kvs e r
  · rw [List.map_append, List.map_append, List.map_append, List.map_append]
    exact ⟨by rw [e]; rfl, r.append (.cons rv .nil)⟩
/-- a key of a dict of the store: what is there -/
def atD (S : Sto) (x y : D) : Option (Option D) := match y with
  | .at (.ref a) => match S a with
    | some (.dk kvs) => (keyD x).map (valD kvs)
    | some (.dt kvs) => match x with
      | .tup ds => (keysD ds).map (valD kvs)
      | _ => none
    | _ => none
  | _ => none
end
section
variable {X : Cx}
/-- the key is an own tuple of the heap -/
theorem at_get {K : Kx} {H : Hp} {S : Sto} {v u : V} {x y : D} {o : Option D} (rs : RS K H S) (rx : RD K H S v x) (ry : RD K H S u y) (h : atD S x y = some o) : ∃ a r, u = .ref a ∧ DGet H a v r ∧ (o = none → r = none) ∧ ∀ d, o = some d → ∃ w, r = some w ∧ RD K H S w d := by
  unfold atD at h
  split at h
  · rename_i a
    have eu := ry.at_
    subst eu
    split at h
    · rename_i kvs e
      obtain ⟨ks, h1, h2, h3⟩ := rs.ob a _ e
      obtain ⟨k, hk, rfl⟩ := Option.map_eq_some_iff.mp h
      have ex := keyD_eq hk
      subst ex
      have ev := rx.at_
      subst ev
      obtain ⟨g1, g2⟩ := rel_val h2 h3 k
      exact ⟨a, valV ks k, rfl, .k h1, g1, fun d e => g2 d e⟩
    · rename_i kvs e
      split at h
      · rename_i ds
        obtain ⟨ks, h1, h2, h3⟩ := rs.ob a _ e
        obtain ⟨k, hk, rfl⟩ := Option.map_eq_some_iff.mp h
        have ex := keysD_eq hk
        subst ex
        obtain ⟨b, vs, rfl, t, rv⟩ := rx.tup_
        have evs : vs = k.map kV := rv.atoms
        subst evs
        obtain ⟨g1, g2⟩ := rel_val h2 h3 k
        exact ⟨a, valV ks k, rfl, .t h1 t, g1, fun d e => g2 d e⟩
      · cases h
    · cases h
  · cases h
end
end DL

/-! Data layer, fifth part: in, subscripts, slices, methods, built-ins, sets shown sorted, repr. -/
namespace DL
open PySem L2 PyProof.Rows
section
variable {X : Cx}
/-! ### in -/
/-- x in y -/
def inD (neg : Bool) : RD2 := fun x y S Q => match y with
  | .at (.str z) => ∃ c : Nat, x = .str ⟨#[c]⟩ ∧ Q (.bl (xor neg (decide (c ∈ z.cps.toList)))) S
  | y => (∃ ys, sqOf S y = some ys ∧ cmpOk x = true ∧ cmpOk (.tup ys) = true ∧ cmpOk (.fl ys) = true ∧ Q (.bl (xor neg (ys.any fun z => PyData.eqv (toPy z) (toPy x)))) S) ∨
    ∃ o, atD S x y = some o ∧ Q (.bl (xor neg o.isSome)) S
/-- in, of a list or a tuple, by data -/
theorem dp_all {K : PySem.W.Frag} {H : Hp} {a : Addr} {vs : List V} {ds : List PyData} (h : SqL K H a vs ∨ SqT K H a vs) (r : DpAll K H vs ds) : Dp K H (.ref a) (.list ds) ∨ Dp K H (.ref a) (.tuple ds) := h.elim (fun h => .inl (.lst h r)) fun h => .inr (.tup h r)
theorem op_inDT (hu : X.A.units + 65 < cLine) : OpR X (compareOp .In) (fun x y H Q => ∃ d ds, Dp X.K H x d ∧ Dp X.K H y (.tuple ds) ∧ SeqAt.shaped d = true ∧ SeqAt.shaped (.tuple ds) = true ∧ Q (.bl (ds.any fun z => PyData.eqv z d)) H) := by
  intro pins s σ H x y v u Q I rx ry h
  obtain ⟨d, ds, hd, he, sd, se, q⟩ := h
  obtain ⟨as, r1⟩ := Dp.reads I d x v hd rx
  obtain ⟨bs, r2⟩ := Dp.reads I (.tuple ds) y u he ry
  exact SeqAt.in_tuple_reads r2 r1 (SeqAt.canLay_of_shaped se) (SeqAt.canLay_of_shaped sd) (room_in_shaped sd hu) ⟨.bl _, H, I, rfl, q⟩
theorem op_notInDT (hu : X.A.units + 65 < cLine) : OpR X (compareOp .NotIn) (fun x y H Q => ∃ d ds, Dp X.K H x d ∧ Dp X.K H y (.tuple ds) ∧ SeqAt.shaped d = true ∧ SeqAt.shaped (.tuple ds) = true ∧ Q (.bl (!ds.any fun z => PyData.eqv z d)) H) := by
  intro pins s σ H x y v u Q I rx ry h
  obtain ⟨d, ds, hd, he, sd, se, q⟩ := h
  obtain ⟨as, r1⟩ := Dp.reads I d x v hd rx
  obtain ⟨bs, r2⟩ := Dp.reads I (.tuple ds) y u he ry
  exact SeqAt.notIn_tuple_reads r2 r1 (SeqAt.canLay_of_shaped se) (SeqAt.canLay_of_shaped sd) (room_in_shaped sd hu) ⟨.bl _, H, I, rfl, q⟩

theorem dp_sq {K : Kx} {H : Hp} {S : Sto} {u : V} {y : D} {ys : List D} (rs : RS K H S) (ry : RD K H S u y) (h : sqOf S y = some ys) (c : cmpOk (.tup ys) = true) : Dp K.k H u (.list (toPys ys)) ∨ Dp K.k H u (.tuple (toPys ys)) := by
  obtain ⟨a, vs, rfl, sq, rv⟩ := sq_sq rs ry h
  unfold cmpOk at c
  rw [Bool.and_eq_true] at c
  have p : purs ys = true := by have := c.1; unfold pur at this; exact this
  exact dp_all sq (dps_of rv p)
theorem any_py (x : D) : ∀ ys : List D, (toPys ys).any (fun z => PyData.eqv z (toPy x)) = ys.any fun z => PyData.eqv (toPy z) (toPy x)
  | [] => by unfold toPys; rfl
  | y :: ys => by unfold toPys; rw [List.any_cons, List.any_cons, any_py x ys]
theorem od_inG {neg : Bool} {f : Value → Value → Sem Value}
    (h1 : OpR X f (fun x y H Q => ∃ (c : Nat) (z : Str), x = .str ⟨#[c]⟩ ∧ y = .str z ∧ Q (.bl (xor neg (decide (c ∈ z.cps.toList)))) H))
    (h2 : OpR X f (fun x y H Q => ∃ d ds, Dp X.K H x d ∧ Dp X.K H y (.list ds) ∧ SeqAt.shaped d = true ∧ SeqAt.shaped (.list ds) = true ∧ Q (.bl (xor neg (ds.any fun z => PyData.eqv z d))) H))
    (h3 : OpR X f (fun x y H Q => ∃ d ds, Dp X.K H x d ∧ Dp X.K H y (.tuple ds) ∧ SeqAt.shaped d = true ∧ SeqAt.shaped (.tuple ds) = true ∧ Q (.bl (xor neg (ds.any fun z => PyData.eqv z d))) H))
    (h4 : OpR X f (fun x y H Q => ∃ a o, y = .ref a ∧ DGet H a x o ∧ Q (.bl (xor neg o.isSome)) H)) : OpR X f (l2 X.K (inD neg)) := by
  intro pins s σ H v u vv uu Q I rv ru hh
  obtain ⟨N, x, y, S, Q', rx, ry, rs, q, k⟩ := hh
  unfold inD at q
  split at q
  · obtain ⟨c, rfl, q⟩ := q
    exact h1 pins s σ H _ _ _ _ Q I rv ru ⟨c, _, rx.at_, ry.at_, k _ S _ H (.refl rs) (.of _) q⟩
  · rcases q with ⟨ys, hy, cx, ct, cl, q⟩ | ⟨o, ho, q⟩
    · have cx' := cx
      unfold cmpOk at cx' cl
      rw [Bool.and_eq_true] at cx' cl
      have c2 := ct
      unfold cmpOk at c2
      rw [Bool.and_eq_true] at c2
      have px := dp_of rx cx'.1
      rw [← any_py] at q
      have e1 : toPy (.fl ys) = .list (toPys ys) := by conv => lhs; unfold toPy
      have e2 : toPy (.tup ys) = .tuple (toPys ys) := by conv => lhs; unfold toPy
      rw [e1] at cl
      rw [e2] at c2
      rcases dp_sq rs ry hy ct with py | py
      · exact h2 pins s σ H _ _ _ _ Q I rv ru ⟨_, _, px, py, cx'.2, cl.2, k _ S _ H (.refl rs) (.of _) q⟩
      · exact h3 pins s σ H _ _ _ _ Q I rv ru ⟨_, _, px, py, cx'.2, c2.2, k _ S _ H (.refl rs) (.of _) q⟩
    · obtain ⟨a, r, rfl, g, e1, e2⟩ := at_get rs rx ry ho
      have e : o.isSome = r.isSome := by
        cases o with
        | none => rw [e1 rfl]; rfl
        | some d => obtain ⟨w, rfl, _⟩ := e2 d rfl; rfl
      rw [e] at q
      exact h4 pins s σ H _ _ _ _ Q I rv ru ⟨a, r, rfl, g, k _ S _ H (.refl rs) (.of _) q⟩
variable {k : Nat}
theorem od_in (hr : Rg k X.A) : OpR X (compareOp .In) (l2 X.K (inD false)) := by
  have hu := hr.r.un
  refine od_inG (fun pins s σ H x y v u Q I rx ry ⟨c, z, e1, e2, q⟩ => op_in_sign pins s σ H x y v u Q I rx ry ⟨c, z, e1, e2, by simpa using q⟩)
    (fun pins s σ H x y v u Q I rx ry ⟨d, ds, e1, e2, e3, e4, q⟩ => op_inD (by omega) pins s σ H x y v u Q I rx ry ⟨d, ds, e1, e2, e3, e4, by simpa using q⟩)
    (fun pins s σ H x y v u Q I rx ry ⟨d, ds, e1, e2, e3, e4, q⟩ => op_inDT (by omega) pins s σ H x y v u Q I rx ry ⟨d, ds, e1, e2, e3, e4, by simpa using q⟩)
    (fun pins s σ H x y v u Q I rx ry ⟨a, o, e1, g, q⟩ => ?_)
  subst e1
  cases ry
  exact d_in (by omega) I g rx fun s' I' => ⟨.bl _, H, I', rfl, by simpa using q⟩
theorem od_notin (hr : Rg k X.A) : OpR X (compareOp .NotIn) (l2 X.K (inD true)) := by
  have hu := hr.r.un
  refine od_inG (fun pins s σ H x y v u Q I rx ry ⟨c, z, e1, e2, q⟩ => op_notIn_sign pins s σ H x y v u Q I rx ry ⟨c, z, e1, e2, by simpa using q⟩)
    (fun pins s σ H x y v u Q I rx ry ⟨d, ds, e1, e2, e3, e4, q⟩ => op_notInD (by omega) pins s σ H x y v u Q I rx ry ⟨d, ds, e1, e2, e3, e4, by simpa using q⟩)
    (fun pins s σ H x y v u Q I rx ry ⟨d, ds, e1, e2, e3, e4, q⟩ => op_notInDT (by omega) pins s σ H x y v u Q I rx ry ⟨d, ds, e1, e2, e3, e4, by simpa using q⟩)
    (fun pins s σ H x y v u Q I rx ry ⟨a, o, e1, g, q⟩ => ?_)
  subst e1
  cases ry
  exact d_notIn (by omega) I g rx fun s' I' => ⟨.bl _, H, I', rfl, by simpa using q⟩

/-! ### subscripts -/
def ixD : RD2 := fun x y S Q => (∃ xs i d, y = .int i ∧ sqOf S x = some xs ∧ atI xs i = some d ∧ Q d S) ∨ (∃ z i c, x = .str z ∧ y = .int i ∧ z.length ≤ sizeLine ∧ atI z.cps.toList i = some c ∧ Q (.str ⟨#[c]⟩) S) ∨ ∃ d, atD S y x = some (some d) ∧ Q d S
theorem atI_rd {K : Kx} {H : Hp} {S : Sto} {vs : List V} {ds : List D} {i : Int} {d : D} (r : RDs K H S vs ds) (h : atI ds i = some d) : ∃ v, atI vs i = some v ∧ RD K H S v d := by
  unfold atI at h ⊢
  rw [r.length]
  cases e : ixN ds.length i with
  | none => rw [e] at h; cases h
  | some j => rw [e] at h; exact r.get h
theorem ixr_dict (hu : X.A.units + 1 < cLine) : IxR X (fun x y H Q => ∃ a v, x = .ref a ∧ DGet H a y (some v) ∧ Q v H) := by
  intro value slice pins s σ H x y v u Q I rx ry h hs
  obtain ⟨a, w, rfl, g, q⟩ := h
  cases rx
  exact tail_any (dict_typeIs I g) PySem.F.slot_dict_getitem.lookup (d_getItem hu I g ry fun w' s' I' r' => ⟨w, H, I', r', q⟩) hs
theorem xd_ix (hr : Rg k X.A) : IxR X (l2 X.K ixD) := by
  intro value slice pins s σ H v u vv uu Q I rv ru hh hs
  obtain ⟨N, x, y, S, Q', rx, ry, rs, q, k⟩ := hh
  have hu := hr.r.un
  rcases q with ⟨xs, i, d, rfl, hx, he, q⟩ | ⟨z, i, c, rfl, rfl, hz, he, q⟩ | ⟨d, he, q⟩
  · obtain ⟨a, vs, rfl, sq, r⟩ := sq_sq rs rx hx
    obtain ⟨w, hw, rw'⟩ := atI_rd r he
    rcases sq with sq | sq
    · exact ix_list value slice pins s σ H _ _ _ _ Q I rv ru ⟨a, vs, i, w, rfl, ry.at_, sq, hw, k _ S _ H (.refl rs) rw' q⟩ hs
    · exact ix_tup value slice pins s σ H _ _ _ _ Q I rv ru ⟨a, vs, i, w, rfl, ry.at_, sq, hw, k _ S _ H (.refl rs) rw' q⟩ hs
  · exact ix_str value slice pins s σ H _ _ _ _ Q I rv ru ⟨z, i, c, rx.at_, ry.at_, hz, he, k _ S _ H (.refl rs) (.of _) q⟩ hs
  · obtain ⟨a, r, rfl, g, e1, e2⟩ := at_get rs ry rx he
    obtain ⟨w, rfl, rw'⟩ := e2 d rfl
    exact ixr_dict (by omega) value slice pins s σ H _ _ _ _ Q I rv ru ⟨a, w, rfl, g, k _ S _ H (.refl rs) rw' q⟩ hs

/-! ### slices -/
abbrev TDO := DSt → Sto → (Option Int → Sto → Prop) → Prop
def lO (K : PySem.W.Frag) (t : TDO) : TO := fun σ H Q => ∃ N δ S Q', RE ⟨K, N⟩ H S σ δ ∧ RS ⟨K, N⟩ H S ∧ t δ S Q' ∧ ∀ o S' H', Bh ⟨K, N⟩ H S H' S' → Q' o S' → Q o H'
theorem PO.wk {e : Option Expr} {t t' : TO} (h : PO X e t) (k : ∀ σ H Q, t' σ H Q → t σ H Q) : PO X e t' := ⟨fun pins s σ H Q I q => h.run pins s σ H Q I (k σ H Q q)⟩
def dNoPart : TDO := fun _ S Q => Q none S
def dPart (t : TDE) : TDO := fun δ S Q => t δ S fun x S1 => ∃ i : Int, x = .int i ∧ Q (some i) S1
theorem do_none : PO X none (lO X.K dNoPart) := PO.wk po_none fun σ H Q ⟨N, δ, S, Q', re, rs, q, k⟩ => k _ S H (.refl rs) q
theorem do_some {e : Expr} {te : TDE} (h : PE X e (lE X.K te)) : PO X (some e) (lO X.K (dPart te)) := PO.wk (po_some h) fun σ H Q ⟨N, δ, S, Q', re, rs, q, k⟩ => by
  refine ⟨N, δ, S, _, re, rs, q, fun x S1 v H1 b1 r1 q1 => ?_⟩
  obtain ⟨i, rfl, q1⟩ := q1
  exact ⟨i, r1.at_, k _ S1 H1 b1 q1⟩
abbrev RDS := D → Option Int → Option Int → Sto → KD → Prop
def cutD (xs : List D) (lo hi : Option Int) : List D := (xs.drop (HT.sIx xs.length 0 lo)).take (HT.sIx xs.length xs.length hi - HT.sIx xs.length 0 lo)
theorem rds_cut {K : Kx} {H : Hp} {S : Sto} {vs : List V} {ds : List D} (r : RDs K H S vs ds) (lo hi : Option Int) : RDs K H S (cutV vs lo hi) (cutD ds lo hi) := by
  unfold cutV cutD
  rw [r.length]
  exact (r.drop _).take _
def sliceD (mu : Bool) : RDS := fun x lo hi S Q => match x with
  | .at (.str z) => z.length ≤ sizeLine ∧ Q (.str (cutS z lo hi)) S
  | .tup xs => Q (.tup (cutD xs lo hi)) S
  | x => ∃ xs, lsOf S x = some xs ∧ (if mu = true then ∀ p, S p = none → Q (.ref p) (up S p (.lst (cutD xs lo hi))) else Q (.fl (cutD xs lo hi)) S)
def lSl (K : PySem.W.Frag) (r : RDS) : V → Option Int → Option Int → Hp → VK → Prop := fun v lo hi H Q => ∃ N x S Q', RD ⟨K, N⟩ H S v x ∧ RS ⟨K, N⟩ H S ∧ r x lo hi S Q' ∧ ∀ d S' w H', Bh ⟨K, N⟩ H S H' S' → RD ⟨K, N⟩ H' S' w d → Q' d S' → Q w H'
theorem cut_whole {α : Type} {xs : List α} {lo hi : Option Int} (h : HT.sIx xs.length 0 lo = 0 ∧ HT.sIx xs.length xs.length hi = xs.length) : (xs.drop (HT.sIx xs.length 0 lo)).take (HT.sIx xs.length xs.length hi - HT.sIx xs.length 0 lo) = xs := by
  rw [h.1, h.2]; simp
theorem xd_slice (mu : Bool) : SlR X (lSl X.K (sliceD mu)) := by
  intro pins s σ H v vv vl vu lo hi sl Q I rv hs pl pu hh
  obtain ⟨N, x, S, Q', rx, rs, q, k⟩ := hh
  have lists : ∀ {xs : List D}, lsOf S x = some xs → (if mu = true then ∀ p, S p = none → Q' (.ref p) (up S p (.lst (cutD xs lo hi))) else Q' (.fl (cutD xs lo hi)) S) → ∃ T id, typeLookup (.type T) "__getitem__" = pure (some (.builtin id)) ∧ s.TypeIs vv T ∧ wpAny (model X.prog X.w) X.A (getItem vv (.ref sl)) (EP X pins σ Q) X.xe s := by
    intro xs h1 q
    obtain ⟨a, vs, rfl, sa, ra⟩ := ls_sq rs rx h1
    refine sl_list pins s σ H _ vv vl vu lo hi sl Q I rv hs pl pu ⟨a, vs, rfl, sa, fun p np => ?_⟩
    cases mu with
    | true =>
      rw [if_pos rfl] at q
      exact k _ _ _ _ (new_lst rs np (rds_cut ra lo hi)) (.of _) (q p (rs.free np))
    | false =>
      rw [if_neg Bool.false_ne_true] at q
      obtain ⟨b1, r1⟩ := new_fl rs np (rds_cut ra lo hi)
      exact k _ _ _ _ b1 r1 q
  unfold sliceD at q
  split at q
  · rename_i z
    exact sl_str pins s σ H _ vv vl vu lo hi sl Q I rv hs pl pu ⟨z, rx.at_, q.1, k _ S _ H (.refl rs) (.of _) q.2⟩
  · rename_i xs
    obtain ⟨a, vs, rfl, t, r⟩ := rx.tup_
    refine sl_tupA pins s σ H _ vv vl vu lo hi sl Q I rv hs pl pu ⟨a, vs, rfl, .of t, fun hw => ?_, fun _ p np => ?_⟩
    · rw [r.length] at hw
      unfold cutD at q
      rw [cut_whole hw] at q
      exact k _ S _ H (.refl rs) (.of_tup t r) q
    · obtain ⟨b1, r1⟩ := new_tup rs np (rds_cut r lo hi)
      exact k _ S _ _ b1 r1 q
  · obtain ⟨xs, h1, q⟩ := q
    exact lists h1 q
def dSlice (r : RDS) (te : TDE) (tl th : TDO) : TDE := fun δ S Q => te δ S fun x S1 => tl δ S1 fun l S2 => th δ S2 fun u S3 => r x l u S3 Q
theorem de_slice {r : RDS} {e : Expr} {lo hi : Option Expr} {te : TDE} {tl th : TDO} {pos p2 : Pos} (ho : SlR X (lSl X.K r)) (he : PE X e (lE X.K te)) (hl : PO X lo (lO X.K tl)) (hu : PO X hi (lO X.K th)) : PE X (.Subscript e (.Slice lo hi none p2) pos) (lE X.K (dSlice r te tl th)) :=
  PE.wk (pe_slice ho he hl hu) fun σ H Q ⟨N, δ, S, Q', re, rs, q, k⟩ => by
    refine ⟨N, δ, S, _, re, rs, q, fun x S1 v H1 b1 rx q1 => ?_⟩
    refine ⟨N, δ, S1, _, re.le (rs.le b1.fr), b1.rs, q1, fun l S2 H2 b2 q2 => ?_⟩
    have b12 := b1.trans b2
    refine ⟨N, δ, S2, _, re.le (rs.le b12.fr), b2.rs, q2, fun u S3 H3 b3 q3 => ?_⟩
    exact ⟨N, x, S3, Q', (rx.le (b1.rs.le b2.fr)).le (b2.rs.le b3.fr), b3.rs, q3, fun d S' w H' b4 => k d S' w H' ((b12.trans b3).trans b4)⟩

/-! ### truth -/
def truD : D → Sto → (Bool → Sto → Prop) → Prop := fun x S Q => match x with
  | .at .non => Q false S
  | .at (.bl b) => Q b S
  | .at (.int i) => Q (i != 0) S
  | .at (.str y) => y.length ≤ sizeLine ∧ Q ((y.length : Int) != 0) S
  | x => (∃ xs, sqOf S x = some xs ∧ Q (!xs.isEmpty) S) ∨ ∃ a kvs, x = .ref a ∧ S a = some (.dk kvs) ∧ Q (!kvs.isEmpty) S
theorem emp_rd {K : Kx} {H : Hp} {S : Sto} {vs : List V} {ds : List D} (r : RDs K H S vs ds) : vs.isEmpty = ds.isEmpty := by
  have := r.length
  cases vs <;> cases ds <;> simp_all
theorem td_tru : TruR X (lTr X.K truD) := by
  intro pins s σ H v vv Q I rv hh
  obtain ⟨N, x, S, Q', rx, rs, q, k⟩ := hh
  unfold truD at q
  split at q
  · exact tru_ok pins s σ H v vv Q I rv ⟨false, by rw [rx.at_]; rfl, k _ S H (.refl rs) q⟩
  · rename_i b
    exact tru_ok pins s σ H v vv Q I rv ⟨b, by rw [rx.at_]; rfl, k _ S H (.refl rs) q⟩
  · rename_i i
    exact tru_ok pins s σ H v vv Q I rv ⟨i != 0, by rw [rx.at_]; rfl, k _ S H (.refl rs) q⟩
  · rename_i y
    exact tru_ok pins s σ H v vv Q I rv ⟨_, by rw [rx.at_]; exact ⟨q.1, rfl⟩, k _ S H (.refl rs) q.2⟩
  · rcases q with ⟨xs, h1, q⟩ | ⟨a, kvs, rfl, e, q⟩
    · obtain ⟨a, vs, rfl, sq, r⟩ := sq_sq rs rx h1
      rw [← emp_rd r] at q
      refine tru_ok pins s σ H _ vv Q I rv ⟨!vs.isEmpty, ?_, k _ S H (.refl rs) q⟩
      rcases sq with sq | sq
      · exact .inl ⟨vs, sq, rfl⟩
      · exact .inr (.inl ⟨vs, sq, rfl⟩)
    · obtain ⟨ks, h1, h2, h3⟩ := rs.ob a _ e
      have e1 : ks.isEmpty = kvs.isEmpty := by
        have := congrArg List.length h2
        cases ks <;> cases kvs <;> simp_all
      rw [← e1] at q
      exact tru_ok pins s σ H _ vv Q I rv ⟨!ks.isEmpty, by rw [rx.at_]; exact .inr (.inr ⟨ks, h1, rfl⟩), k _ S H (.refl rs) q⟩
end
end DL

/-! Data layer, sixth part: stores into things, methods, built-ins, repr, enumerate. -/
namespace DL
open PySem L2 PyProof.Rows
section
variable {X : Cx} {k : Nat}

/-! ### o[i] = v -/
/-- x, y, value: the store behind -/
def setD : D → D → D → Sto → (Sto → Prop) → Prop := fun x y v S Q => ∃ a, x = .ref a ∧ ((∃ xs i j, S a = some (.lst xs) ∧ y = .int i ∧ ixN xs.length i = some j ∧ Q (up S a (.lst (xs.set j v)))) ∨
  (∃ kvs κ, S a = some (.dk kvs) ∧ keyD y = some κ ∧ kvs.length < sizeLine ∧ Q (up S a (.dk (putD kvs κ v)))) ∨ ∃ kvs ds κ, S a = some (.dt kvs) ∧ y = .tup ds ∧ keysD ds = some κ ∧ kvs.length < sizeLine ∧ Q (up S a (.dt (putD kvs κ v))))
def lSet (K : PySem.W.Frag) : TSet := fun o i v H Q => ∃ N x y z S Q', RD ⟨K, N⟩ H S o x ∧ RD ⟨K, N⟩ H S i y ∧ RD ⟨K, N⟩ H S v z ∧ RS ⟨K, N⟩ H S ∧ setD x y z S Q' ∧ ∀ S' H', Bh ⟨K, N⟩ H S H' S' → Q' S' → Q H'
theorem pset_set (hr : Rg k X.A) : PSet X (lSet X.K) := by
  intro pins s σ H o i v ov iv u Q I ro ri rv hh
  obtain ⟨N, x, y, z, S, Q', rx, ry, rz, rs, q, kk⟩ := hh
  have hu := hr.r.un
  obtain ⟨a, rfl, q⟩ := q
  have eo := rx.at_
  subst eo
  rcases q with ⟨xs, n, j, e, rfl, hj, q⟩ | ⟨kvs, κ, e, hk, hl, q⟩ | ⟨kvs, ds, κ, e, rfl, hk, hl, q⟩
  · obtain ⟨vs, h1, h2⟩ := rs.ob a _ e
    have ei := ry.at_
    subst ei
    refine set_list pins s σ H _ _ v ov iv u Q I ro ri rv ⟨a, vs, n, j, rfl, rfl, h1, by rw [h2.length]; exact hj, ?_⟩
    obtain ⟨b1, b2⟩ := rs.write (o := .lst (vs.set j v)) (m' := .lst (xs.set j z)) e fun le => ⟨_, upd_same, (h2.set rz j).le le⟩
    exact kk _ _ ⟨b2, b1⟩ q
  · obtain ⟨ks, h1, h2, h3⟩ := rs.ob a _ e
    have ey := keyD_eq hk
    subst ey
    have ei := ry.at_
    subst ei
    have hll : ks.length = kvs.length := by simpa using congrArg List.length h2
    obtain ⟨p1, p2⟩ := rel_put h2 h3 κ rz
    obtain ⟨b1, b2⟩ := rs.write (o := .dK (putK ks κ v)) (m' := .dk (putD kvs κ z)) e fun le => ⟨_, upd_same, p1, p2.le le⟩
    refine set_dict (by omega) pins s σ H _ _ v ov iv u Q I ro ri rv ⟨a, _, rfl, .inl ⟨ks, κ, h1, rfl, by omega, rfl⟩, kk _ _ ⟨b2, b1⟩ q⟩
  · obtain ⟨ks, h1, h2, h3⟩ := rs.ob a _ e
    have ey := keysD_eq hk
    subst ey
    obtain ⟨b, vs, rfl, t, rv'⟩ := ry.tup_
    have evs : vs = κ.map kV := rv'.atoms
    subst evs
    have hll : ks.length = kvs.length := by simpa using congrArg List.length h2
    obtain ⟨p1, p2⟩ := rel_put h2 h3 κ rz
    obtain ⟨b1, b2⟩ := rs.write (o := .dT (putK ks κ v)) (m' := .dt (putD kvs κ z)) e fun le => ⟨_, upd_same, p1, p2.le le⟩
    refine set_dict (by omega) pins s σ H _ _ v ov iv u Q I ro ri rv ⟨a, _, rfl, .inr ⟨ks, κ, b, h1, rfl, t, by omega, rfl⟩, kk _ _ ⟨b2, b1⟩ q⟩
def gdSub (to ti : TDE) : TDG := fun d δ S Q => to δ S fun o S1 => ti δ S1 fun i S2 => setD o i d S2 fun S3 => Q δ S3
theorem dg_sub {o i : Expr} {to ti : TDE} {pos : Pos} (hr : Rg k X.A) (ho : PE X o (lE X.K to)) (hi : PE X i (lE X.K ti)) (ha : ∀ v, assign (.Subscript o i pos) X.env v = (do
      let ov ← holding [v] (eval o X.env)
      let iv ← holding [v, ov] (eval i X.env)
      standAt pos
      holding [v, ov, iv] (setItem ov iv v)
      release [v, ov, iv] []) := by intro _; rfl) : PG X (.Subscript o i pos) (lG X.K (gdSub to ti)) :=
  PG.wk (pg_sub ho hi (pset_set hr) ha) fun v σ H Q ⟨N, d, δ, S, Q', rd, re, rs, q, kk⟩ => by
    refine ⟨N, δ, S, _, re, rs, q, fun x S1 ov H1 b1 rx q1 => ?_⟩
    refine ⟨N, δ, S1, _, re.le (rs.le b1.fr), b1.rs, q1, fun y S2 iv H2 b2 ry q2 => ?_⟩
    have b12 := b1.trans b2
    refine ⟨N, x, y, d, S2, _, rx.le (b1.rs.le b2.fr), ry, rd.le (rs.le b12.fr), b2.rs, q2, fun S' H' b3 q3 => ?_⟩
    have b13 := b12.trans b3
    exact kk δ S' σ H' b13 (re.le (rs.le b13.fr)) q3

/-! ### name op= e, o[i] op= e -/
def lIp (K : PySem.W.Frag) (r : RD2) : TIp := l2 K r
def addI : RD2 := intD (fun _ _ => True) fun i j => .int (i + j)
def subI : RD2 := intD (fun _ _ => True) fun i j => .int (i - j)
theorem pip_add : PIp X .Add (l2 X.K addI) := by
  intro pins s σ H v u vv uu Q I rv ru h'
  obtain ⟨N, x, y, S, Q', rx, ry, rs, q, k⟩ := h'
  unfold addI intD at q
  split at q
  · rename_i i j
    exact ip_add pins s σ H _ _ _ _ Q I rv ru ⟨i, j, rx.at_, ry.at_, k _ S _ H (.refl rs) (.of _) q.2⟩
  · exact q.elim
theorem pip_sub : PIp X .Sub (l2 X.K subI) := by
  intro pins s σ H v u vv uu Q I rv ru h'
  obtain ⟨N, x, y, S, Q', rx, ry, rs, q, k⟩ := h'
  unfold subI intD at q
  split at q
  · rename_i i j
    exact ip_sub pins s σ H _ _ _ _ Q I rv ru ⟨i, j, rx.at_, ry.at_, k _ S _ H (.refl rs) (.of _) q.2⟩
  · exact q.elim
def dAug (i : Nat) (te : TDE) (r : RD2) : TDS := fun D δ S => ∃ x, δ[i]? = some (some x) ∧ te δ S fun y S1 => r x y S1 fun z S2 => D.nx (δ.set i (some z)) S2
theorem ds_aug (i : Nat) {x : Str} {e : Expr} {te : TDE} {op : Operator} {r : RD2} {pos pos' : Pos} (hN : X.N.Nodup) (ho : PIp X op (l2 X.K r)) (he : PE X e (lE X.K te)) (hi : X.N[i]? = some x := by rfl) (hx : Loc X.env.scope x := by first | exact Or.inl rfl | exact Or.inr rfl) (hf : X.fn x = true ∨ X.env.scope.names.lookup x = some .local := by first | exact .inl rfl | exact .inr rfl | assumption) :
    PS X (.AugAssign (.Name x pos') op e pos) (lS X.K (dAug i te r)) :=
  PS.wk (ps_aug hN hi hx he ho hf) fun D σ H ⟨N, δ, S, D', re, rs, q, l⟩ => by
    obtain ⟨d, hd, q⟩ := q
    obtain ⟨v, hv, rv⟩ := re.2 i d hd
    refine ⟨v, hv, N, δ, S, _, re, rs, q, fun y S1 u H1 b1 ry q1 => ?_⟩
    refine ⟨N, d, y, S1, _, rv.le (rs.le b1.fr), ry, b1.rs, q1, fun z S2 w H2 b2 rz q2 => ?_⟩
    have b12 := b1.trans b2
    exact l.nx _ S2 _ H2 b12 ((re.le (rs.le b12.fr)).set rz i) q2

/-! ### methods -/
abbrev RDM := D → List D → Sto → KD → Prop
def lM (K : PySem.W.Frag) (r : RDM) : V → List V → Hp → VK → Prop := fun v vs H Q => ∃ N x xs S Q', RD ⟨K, N⟩ H S v x ∧ RDs ⟨K, N⟩ H S vs xs ∧ RS ⟨K, N⟩ H S ∧ r x xs S Q' ∧ ∀ d S' w H', Bh ⟨K, N⟩ H S H' S' → RD ⟨K, N⟩ H' S' w d → Q' d S' → Q w H'
/-- of that type -/
def tyD (S : Sto) (x : D) (T : String) : Prop := match x with
  | .at (.str _) => T = "str"
  | .at (.ref a) => match S a with
    | some (.lst _) => T = "list"
    | some (.dk _) => T = "dict"
    | some (.dt _) => T = "dict"
    | _ => False
  | .fl _ => T = "list"
  | _ => False
theorem ty_of {K : Kx} {H : Hp} {S : Sto} {v : V} {x : D} {T : String} (rs : RS K H S) (r : RD K H S v x) (h : tyD S x T) : tyV K.k T v H := by
  unfold tyD at h
  split at h
  · rw [r.at_]; exact h
  · rename_i a
    rw [r.at_]
    split at h
    · rename_i xs e
      obtain ⟨vs, h1, _⟩ := rs.ob a _ e
      exact .inl ⟨h, vs, .of h1⟩
    · rename_i kvs e
      obtain ⟨ks, h1, _⟩ := rs.ob a _ e
      exact .inr (.inr (.inl ⟨h, .inl ⟨ks, h1⟩⟩))
    · rename_i kvs e
      obtain ⟨ks, h1, _⟩ := rs.ob a _ e
      exact .inr (.inr (.inl ⟨h, .inr ⟨ks, h1⟩⟩))
    · exact h.elim
  · obtain ⟨a, vs, rfl, fz, _⟩ := r.fl_
    exact .inl ⟨h, vs, fz.sq⟩
  · exact h.elim
def dM0 (T : String) (r : RDM) (to : TDE) : TDE := fun δ S Q => to δ S fun x S1 => tyD S1 x T ∧ r x [] S1 Q
def dM (T : String) (r : RDM) (to : TDE) (t : TDA) : TDE := fun δ S Q => to δ S fun x S1 => tyD S1 x T ∧ t δ S1 fun xs S2 => r x xs S2 Q
variable {o e : Expr} {es : List Expr} {to : TDE} {t : TDA} {name : Str} {apos cpos : Pos} {T id : String} {r : RDM}
theorem de_m0 (pa : PlainAttrs T) (slot : Slot T name id) (hty : typeOf (.builtin id) = pure (.type "method_descriptor")) (hm : MtR X id (lM X.K r)) (ho : PE X o (lE X.K to))
    (hbase : attributeBase o name X.env (eval o X.env) = eval o X.env := by rfl) (hline : (apos.endLine == cpos.line) = true := by rfl) : PE X (.Call (.Attribute o name apos) [] [] cpos) (lE X.K (dM0 T r to)) :=
  PE.wk (pe_bm0 pa slot hty hm ho hbase hline) fun σ H Q ⟨N, δ, S, Q', re, rs, q, kk⟩ => by
    refine ⟨N, δ, S, _, re, rs, q, fun x S1 v H1 b1 rx q1 => ?_⟩
    exact ⟨ty_of b1.rs rx q1.1, N, x, [], S1, Q', rx, .nil, b1.rs, q1.2, fun d S' w H' b2 => kk d S' w H' (b1.trans b2)⟩
theorem de_m (pa : PlainAttrs T) (slot : Slot T name id) (hty : typeOf (.builtin id) = pure (.type "method_descriptor")) (hm : MtR X id (lM X.K r)) (ho : PE X o (lE X.K to)) (ha : PA X (e :: es) (lA X.K t)) (hbase : attributeBase o name X.env (eval o X.env) = eval o X.env := by rfl) (hfew : ((backTo cpos (starEach (e :: es) X.env)).all (fun x => !x.1) && (backToKw cpos (keywordEach [] X.env)).all (fun x => x.1.isSome) && decide ((e :: es).length + ([] : List Keyword).length + (if ([] : List Keyword).isEmpty then 0 else 1) < 30)) = true := by rfl) (hline : (apos.endLine == cpos.line) = true := by rfl) (hs : starEach (e :: es) X.env = (false, eval e X.env) :: starEach es X.env := by rfl) (hplain : (backTo cpos (starEach es X.env)).any (·.1) = false := by rfl) :
    PE X (.Call (.Attribute o name apos) (e :: es) [] cpos) (lE X.K (dM T r to t)) :=
  PE.wk (pe_bm pa slot hty hm ho ha hbase hfew hline hs hplain) fun σ H Q ⟨N, δ, S, Q', re, rs, q, kk⟩ => by
    refine ⟨N, δ, S, _, re, rs, q, fun x S1 v H1 b1 rx q1 => ?_⟩
    refine ⟨ty_of b1.rs rx q1.1, N, δ, S1, _, re.le (rs.le b1.fr), b1.rs, q1.2, fun xs S2 vs H2 b2 rxs q2 => ?_⟩
    have b12 := b1.trans b2
    exact ⟨N, x, xs, S2, Q', rx.le (b1.rs.le b2.fr), rxs, b2.rs, q2, fun d S' w H' b3 => kk d S' w H' (b12.trans b3)⟩
/-- x.append(y) -/
def appD : RDM := fun x ys S Q => ∃ a xs y, x = .ref a ∧ ys = [y] ∧ S a = some (.lst xs) ∧ xs.length < sizeLine ∧ Q .non (up S a (.lst (xs ++ [y])))
theorem RDs.one' {K : Kx} {H : Hp} {S : Sto} {vs : List V} {d : D} (r : RDs K H S vs [d]) : ∃ v, vs = [v] ∧ RD K H S v d := by
  obtain ⟨v, ws, rfl, a, b⟩ := r.inv_cons
  rw [b.inv_nil]
  exact ⟨v, rfl, a⟩
theorem md_append : MtR X "list.append" (lM X.K appD) := by
  intro pins s σ H v vs vv us Q I rv rvs hh
  obtain ⟨N, x, ys, S, Q', rx, rxs, rs, ⟨a, xs, y, rfl, rfl, e, hz, q⟩, kk⟩ := hh
  obtain ⟨w, rfl, rw'⟩ := rxs.one'
  obtain ⟨ws, h1, h2⟩ := rs.ob a _ e
  obtain ⟨b1, b2⟩ := rs.write (o := .lst (ws ++ [w])) (m' := .lst (xs ++ [y])) e fun le => ⟨_, upd_same, (h2.append (.cons rw' .nil)).le le⟩
  exact mt_append pins s σ H v _ vv us Q I rv rvs ⟨a, ws, w, rx.at_, rfl, h1, by rw [h2.length]; exact hz, kk _ _ _ _ ⟨b2, b1⟩ (.of _) q⟩
/-- x.extend(y), lists -/
def extD : RDM := fun x ys S Q => ∃ a xs y zs, x = .ref a ∧ ys = [y] ∧ S a = some (.lst xs) ∧ lsOf S y = some zs ∧ y ≠ .ref a ∧ xs.length + zs.length ≤ sizeLine ∧ Q .non (up S a (.lst (xs ++ zs)))
theorem md_pop : MtR X "list.pop" (lM X.K fun x ys S Q => ∃ a xs y, x = .ref a ∧ ys = [] ∧ S a = some (.lst xs) ∧ xs[xs.length - 1]? = some y ∧ Q y (up S a (.lst xs.dropLast))) := by
  intro pins s σ H v vs vv us Q I rv rvs hh
  obtain ⟨N, x, ys, S, Q', rx, rxs, rs, ⟨a, xs, y, rfl, rfl, e, hy, q⟩, kk⟩ := hh
  have := rxs.inv_nil
  subst this
  obtain ⟨ws, h1, h2⟩ := rs.ob a _ e
  obtain ⟨w, hw, rw'⟩ := h2.get hy
  obtain ⟨b1, b2⟩ := rs.write (o := .lst ws.dropLast) (m' := .lst xs.dropLast) e fun le => ⟨_, upd_same, h2.dropLast.le le⟩
  exact mt_pop pins s σ H v _ vv us Q I rv rvs ⟨a, ws, w, rx.at_, rfl, h1, by rw [h2.length]; exact hw, kk _ _ _ _ ⟨b2, b1⟩ (rw'.le (rs.le b2)) q⟩
def popD : RDM := fun x ys S Q => ∃ a xs y, x = .ref a ∧ ys = [] ∧ S a = some (.lst xs) ∧ xs[xs.length - 1]? = some y ∧ Q y (up S a (.lst xs.dropLast))

/-! ### dict displays, get -/
def dDk : TDE := fun _ S Q => ∀ p, S p = none → Q (.ref p) (up S p (.dk []))
def dDt : TDE := fun _ S Q => ∀ p, S p = none → Q (.ref p) (up S p (.dt []))
theorem de_dk {pos : Pos} : PE X (.Dict [] [] pos) (lE X.K dDk) := PE.wk pe_dnewK fun σ H Q ⟨N, δ, S, Q', re, rs, q, kk⟩ p np => by
  obtain ⟨b1, b2⟩ := rs.new (o := .dK []) (m := .dk []) np fun le => ⟨[], upd_same, rfl, .nil⟩
  exact kk _ _ _ _ ⟨b2, b1⟩ (.of _) (q p (rs.free np))
theorem de_dt {pos : Pos} : PE X (.Dict [] [] pos) (lE X.K dDt) := PE.wk pe_dnewT fun σ H Q ⟨N, δ, S, Q', re, rs, q, kk⟩ p np => by
  obtain ⟨b1, b2⟩ := rs.new (o := .dT []) (m := .dt []) np fun le => ⟨[], upd_same, rfl, .nil⟩
  exact kk _ _ _ _ ⟨b2, b1⟩ (.of _) (q p (rs.free np))
def dGet1 (td ty : TDE) : TDE := fun δ S Q => td δ S fun x S1 => tyD S1 x "dict" ∧ ty δ S1 fun y S2 => ∃ o, atD S2 y x = some o ∧ Q (o.getD .non) S2
def dGet2 (td ty tx : TDE) : TDE := fun δ S Q => td δ S fun x S1 => tyD S1 x "dict" ∧ ty δ S1 fun y S2 => tx δ S2 fun z S3 => ∃ o, atD S3 y x = some o ∧ Q (o.getD z) S3
theorem isD_of {K : Kx} {H : Hp} {S : Sto} {v : V} {x : D} (rs : RS K H S) (r : RD K H S v x) (h : tyD S x "dict") : ∃ a, v = .ref a ∧ IsD H a := by
  unfold tyD at h
  split at h
  · exact absurd h (by decide)
  · rename_i a
    refine ⟨a, r.at_, ?_⟩
    split at h
    · exact absurd h (by decide)
    · rename_i kvs e
      obtain ⟨ks, h1, _⟩ := rs.ob a _ e
      exact .inl ⟨ks, .inl h1⟩
    · rename_i kvs e
      obtain ⟨ks, h1, _⟩ := rs.ob a _ e
      exact .inr ⟨ks, .inl h1⟩
    · exact h.elim
  · exact absurd h (by decide)
  · exact h.elim
theorem de_get1 {td ty : TDE} (hr : Rg k X.A) (ho : PE X o (lE X.K td)) (he : PE X e (lE X.K ty)) (m : M1 X o "get" apos e cpos) : PE X (.Call (.Attribute o "get" apos) [e] [] cpos) (lE X.K (dGet1 td ty)) :=
  PE.wk (pe_dget1 (by have := hr.r.un; omega) ho he m) fun σ H Q ⟨N, δ, S, Q', re, rs, q, kk⟩ => by
    refine ⟨N, δ, S, _, re, rs, q, fun x S1 v H1 b1 rx q1 => ?_⟩
    obtain ⟨a, rfl, hd⟩ := isD_of b1.rs rx q1.1
    refine ⟨a, rfl, hd, N, δ, S1, _, re.le (rs.le b1.fr), b1.rs, q1.2, fun y S2 u H2 b2 ry q2 => ?_⟩
    obtain ⟨o, ho, q2⟩ := q2
    have rx2 := rx.le (b1.rs.le b2.fr)
    obtain ⟨a', r, ea, g, e1, e2⟩ := at_get b2.rs ry rx2 ho
    cases ea
    refine ⟨r, g, ?_⟩
    cases o with
    | none => rw [e1 rfl]; exact kk _ S2 _ H2 (b1.trans b2) (.of _) q2
    | some d => obtain ⟨w, rfl, rw'⟩ := e2 d rfl; exact kk _ S2 _ H2 (b1.trans b2) rw' q2
theorem de_get2 {td ty tx : TDE} {f : Expr} (hr : Rg k X.A) (ho : PE X o (lE X.K td)) (he : PE X e (lE X.K ty)) (hf : PE X f (lE X.K tx)) (m : M2 X o "get" apos e f cpos) : PE X (.Call (.Attribute o "get" apos) [e, f] [] cpos) (lE X.K (dGet2 td ty tx)) :=
  PE.wk (pe_dget2 (by have := hr.r.un; omega) ho he hf m) fun σ H Q ⟨N, δ, S, Q', re, rs, q, kk⟩ => by
    refine ⟨N, δ, S, _, re, rs, q, fun x S1 v H1 b1 rx q1 => ?_⟩
    obtain ⟨a, rfl, hd⟩ := isD_of b1.rs rx q1.1
    refine ⟨a, rfl, hd, N, δ, S1, _, re.le (rs.le b1.fr), b1.rs, q1.2, fun y S2 u H2 b2 ry q2 => ?_⟩
    have b12 := b1.trans b2
    refine ⟨N, δ, S2, _, re.le (rs.le b12.fr), b2.rs, q2, fun z S3 w H3 b3 rz q3 => ?_⟩
    obtain ⟨o, ho, q3⟩ := q3
    have rx2 := (rx.le (b1.rs.le b2.fr)).le (b2.rs.le b3.fr)
    obtain ⟨a', r, ea, g, e1, e2⟩ := at_get b3.rs (ry.le (b2.rs.le b3.fr)) rx2 ho
    cases ea
    refine ⟨r, g, ?_⟩
    cases o with
    | none => rw [e1 rfl]; exact kk _ S3 _ H3 (b12.trans b3) rz q3
    | some d => obtain ⟨w, rfl, rw'⟩ := e2 d rfl; exact kk _ S3 _ H3 (b12.trans b3) rw' q3

/-! ### built-ins -/
/-- len -/
def lenD : RDL := fun ds S Q => ∃ x, ds = [x] ∧ match x with
  | .at (.str z) => z.length ≤ sizeLine ∧ Q (.int z.length) S
  | x => (∃ xs, sqOf S x = some xs ∧ Q (.int xs.length) S) ∨ (∃ a kvs, x = .ref a ∧ S a = some (.dk kvs) ∧ Q (.int kvs.length) S) ∨ ∃ a kvs, x = .ref a ∧ S a = some (.dt kvs) ∧ Q (.int kvs.length) S
theorem cd_len : CallR X (.builtin "len") (lL X.K lenD) := by
  intro pins s σ H vs us Q I r hh
  obtain ⟨N, ds, S, Q', rd, rs, ⟨x, rfl, q⟩, kk⟩ := hh
  obtain ⟨v, rfl, rx⟩ := rd.one'
  split at q
  · rename_i z
    have := rx.at_
    subst this
    exact call_len_str pins s σ H _ us Q I r ⟨z, rfl, q.1, kk _ S _ H (.refl rs) (.of _) q.2⟩
  · rcases q with ⟨xs, hx, q⟩ | ⟨a, kvs, rfl, e, q⟩ | ⟨a, kvs, rfl, e, q⟩
    · obtain ⟨a, ws, rfl, sq, rw'⟩ := sq_sq rs rx hx
      exact call_len_seq pins s σ H _ us Q I r ⟨a, ws, rfl, sq, kk _ S _ H (.refl rs) (by rw [rw'.length]; exact .of _) q⟩
    · obtain ⟨ks, h1, h2, h3⟩ := rs.ob a _ e
      have hl : ks.length = kvs.length := by simpa using congrArg List.length h2
      have := rx.at_
      subst this
      exact call_lenD pins s σ H _ us Q I r ⟨a, ks, rfl, h1, kk _ S _ H (.refl rs) (by rw [hl]; exact .of _) q⟩
    · obtain ⟨ks, h1, h2, h3⟩ := rs.ob a _ e
      have hl : ks.length = kvs.length := by simpa using congrArg List.length h2
      have := rx.at_
      subst this
      exact call_len_dT pins s σ H _ us Q I r ⟨a, ks, rfl, h1, kk _ S _ H (.refl rs) (by rw [hl]; exact .of _) q⟩
/-- list(x) -/
def lstD (mu : Bool) : RDL := fun ds S Q => ∃ x xs, ds = [x] ∧ sqOf S x = some xs ∧ (if mu = true then ∀ p, S p = none → Q (.ref p) (up S p (.lst xs)) else Q (.fl xs) S)
theorem cd_list (mu : Bool) : CallR X (.type "list") (lL X.K (lstD mu)) := by
  intro pins s σ H vs us Q I r hh
  obtain ⟨N, ds, S, Q', rd, rs, ⟨x, xs, rfl, hx, q⟩, kk⟩ := hh
  obtain ⟨v, rfl, rx⟩ := rd.one'
  obtain ⟨a, ws, rfl, sq, rw'⟩ := sq_sq rs rx hx
  refine call_list_of pins s σ H _ us Q I r ⟨a, ws, rfl, sq, fun p np => ?_⟩
  cases mu with
  | true =>
    rw [if_pos rfl] at q
    exact kk _ _ _ _ (new_lst rs np rw') (.of _) (q p (rs.free np))
  | false =>
    rw [if_neg Bool.false_ne_true] at q
    obtain ⟨b1, r1⟩ := new_fl rs np rw'
    exact kk _ _ _ _ b1 r1 q
/-- tuple(x) -/
def tplD : RDL := fun ds S Q => ∃ x, ds = [x] ∧ match x with
  | .tup xs => Q (.tup xs) S
  | x => ∃ xs, lsOf S x = some xs ∧ Q (.tup xs) S
theorem cd_tuple : CallR X (.type "tuple") (lL X.K tplD) := by
  intro pins s σ H vs us Q I r hh
  obtain ⟨N, ds, S, Q', rd, rs, ⟨x, rfl, q⟩, kk⟩ := hh
  obtain ⟨v, rfl, rx⟩ := rd.one'
  split at q
  · obtain ⟨a, ws, rfl, t, rw'⟩ := rx.tup_
    exact call_tuple_of pins s σ H _ us Q I r ⟨a, ws, rfl, .inr ⟨.of t, kk _ S _ H (.refl rs) (.of_tup t rw') q⟩⟩
  · obtain ⟨xs, hx, q⟩ := q
    obtain ⟨a, ws, rfl, sq, rw'⟩ := ls_sq rs rx hx
    refine call_tuple_of pins s σ H _ us Q I r ⟨a, ws, rfl, .inl ⟨sq, fun p np => ?_⟩⟩
    obtain ⟨b1, r1⟩ := new_tup rs np rw'
    exact kk _ _ _ _ b1 r1 q
/-- any, all of bools -/
def anyD : RDL := fun ds S Q => ∃ (x : D) (bs : List Bool), ds = [x] ∧ lsOf S x = some (bs.map D.bl) ∧ Q (.bl (bs.any _root_.id)) S
def allD : RDL := fun ds S Q => ∃ (x : D) (bs : List Bool), ds = [x] ∧ lsOf S x = some (bs.map D.bl) ∧ Q (.bl (bs.all _root_.id)) S
theorem cd_any (hc : X.calm = true) : CallR X (.builtin "any") (lL X.K anyD) := by
  intro pins s σ H vs us Q I r hh
  obtain ⟨N, ds, S, Q', rd, rs, ⟨x, bs, rfl, hx, q⟩, kk⟩ := hh
  obtain ⟨v, rfl, rx⟩ := rd.one'
  obtain ⟨a, ws, rfl, sq, rw'⟩ := ls_sq rs rx hx
  have e : ws = bs.map V.bl := RDs.atoms (us := bs.map V.bl) (by rw [List.map_map]; exact rw')
  subst e
  exact L2.cr_any hc pins s σ H _ us Q I r ⟨a, bs, rfl, sq, kk _ S _ H (.refl rs) (.of _) q⟩
theorem cd_all (hc : X.calm = true) : CallR X (.builtin "all") (lL X.K allD) := by
  intro pins s σ H vs us Q I r hh
  obtain ⟨N, ds, S, Q', rd, rs, ⟨x, bs, rfl, hx, q⟩, kk⟩ := hh
  obtain ⟨v, rfl, rx⟩ := rd.one'
  obtain ⟨a, ws, rfl, sq, rw'⟩ := ls_sq rs rx hx
  have e : ws = bs.map V.bl := RDs.atoms (us := bs.map V.bl) (by rw [List.map_map]; exact rw')
  subst e
  exact L2.cr_all hc pins s σ H _ us Q I r ⟨a, bs, rfl, sq, kk _ S _ H (.refl rs) (.of _) q⟩
def min2D : RDL := fun ds S Q => ∃ i j : Int, ds = [.int i, .int j] ∧ Q (.int (if j < i then j else i)) S
def max2D : RDL := fun ds S Q => ∃ i j : Int, ds = [.int i, .int j] ∧ Q (.int (if j > i then j else i)) S
theorem cd_min2 (hc : X.calm = true) : CallR X (.builtin "min") (lL X.K min2D) := by
  intro pins s σ H vs us Q I r hh
  obtain ⟨N, ds, S, Q', rd, rs, ⟨i, j, rfl, q⟩, kk⟩ := hh
  exact call_min2 hc pins s σ H _ us Q I r ⟨i, j, rd.two, kk _ S _ H (.refl rs) (.of _) q⟩
theorem cd_max2 (hc : X.calm = true) : CallR X (.builtin "max") (lL X.K max2D) := by
  intro pins s σ H vs us Q I r hh
  obtain ⟨N, ds, S, Q', rd, rs, ⟨i, j, rfl, q⟩, kk⟩ := hh
  exact call_max2 hc pins s σ H _ us Q I r ⟨i, j, rd.two, kk _ S _ H (.refl rs) (.of _) q⟩

/-! ### repr -/
/-- fit to be shown -/
def shOk (d : PyData) : Prop := d.showable = true ∧ d.depth ≤ 64 ∧ d.shown.length ≤ sizeLine ∧ d.hasDict = false
def repD : RDL := fun ds S Q => ∃ x, ds = [x] ∧ pur (rsv S x) = true ∧ shOk (toPy (rsv S x)) ∧ Q (.str (toPy (rsv S x)).shown) S
theorem cd_repr (hr : Rg k X.A) : CallR X (.builtin "repr") (lL X.K repD) := by
  intro pins s σ H vs us Q I r hh
  obtain ⟨N, ds, S, Q', rd, rs, ⟨x, rfl, hp, ⟨hs, hd, hl, hn⟩, q⟩, kk⟩ := hh
  obtain ⟨v, rfl, rx⟩ := rd.one'
  have dp := dp_rsv rs rx hp
  have fin : ∀ {u : Tok} {h' : Heap} {tk : Nat}, Inv X pins σ H { s with heap := h', toks := tk } → EP X pins σ Q (.str (toPy (rsv S x)).shown u) { s with heap := h', toks := tk } := fun {u h' tk} J => ⟨.str _, H, J, ⟨u, rfl⟩, kk _ S _ H (.refl rs) (.of _) q⟩
  obtain ⟨u, rfl, ru⟩ := Vals.one r
  generalize toPy (rsv S x) = d at dp hs hd hl hn fin
  have hu := hr.r.un
  have refs : ∀ {a : Addr}, u = .ref a → wpAny (model X.prog X.w) X.A (call (.builtin "repr") [u]) (EP X pins σ Q) X.xe s := by
    intro a e
    subst e
    obtain ⟨as, rr⟩ := Dp.reads I d v _ dp ru
    exact repr_of_reads' rr hs (fun z => by rw [hn] at z; cases z) hr.g (by omega) (fun _ _ e => e) (fun h' u tk hk => fin (I.kept hk)) hl
  cases d with
  | none =>
    cases dp; cases ru
    exact PySem.P.repr_of_none (fin (I.tok _))
  | bool b =>
    cases dp; cases ru
    exact PySem.P.repr_of_bool (by cases b <;> exact fin (I.tok _))
  | int i =>
    cases dp
    obtain ⟨t, rfl⟩ := ru
    exact PySem.P.repr_of_int (of_decide_eq_true hs) (fin (I.tok _))
  | str z =>
    cases dp
    obtain ⟨t, rfl⟩ := ru
    exact PySem.P.repr_of_str (fin (I.tok _)) hl
  | list xs =>
    cases dp
    cases ru
    exact refs rfl
  | tuple xs =>
    cases dp
    cases ru
    exact refs rfl
  | dict kvs => cases dp

end
end DL

/-! Data layer, seventh part: enumerate, zip, range with a step, turned lists, sorted. -/
namespace DL
open PySem L2 PyProof.Rows
section
variable {X : Cx} {k : Nat}

/-! ### enumerate, zip -/
theorem rel_ls {K : Kx} {H0 : Hp} {S0 : Sto} {v : V} {x : D} {ds : List D} (rs : RS K H0 S0) (r : RD K H0 S0 v x) (h : lsOf S0 x = some ds) : ∃ a vs, v = .ref a ∧ SqL K.k H0 a vs ∧ (x = .fl ds ∧ Fz K H0 S0 a vs ∧ RDs K H0 S0 vs ds ∨ x = .ref a ∧ S0 a = some (.lst ds)) := by
  unfold lsOf at h
  split at h
  · cases h
    obtain ⟨a, vs, rfl, fz, rv⟩ := r.fl_
    exact ⟨a, vs, rfl, fz.sq, .inl ⟨rfl, fz, rv⟩⟩
  · rename_i a
    split at h
    · rename_i ys e
      cases h
      obtain ⟨vs, h1, h2⟩ := rs.ob a _ e
      exact ⟨a, vs, r.at_, .of h1, .inr ⟨rfl, e⟩⟩
    · cases h
  · cases h
/-- a list that is walked while it stands: at each turn its items, a frozen one's without a look at the store -/
def lsI (x : D) (S : Sto) : Option (List D) := lsOf S x
theorem ls_at {K : Kx} {H0 H : Hp} {S0 S : Sto} {M : Addr → Prop} {a : Addr} {vs0 : List V} {x : D} {ds0 ds : List D} (b : Bh ⟨K.k, M⟩ H0 S0 H S) (le : TupLe K H0 S0 ⟨K.k, M⟩ H S)
    (h : x = .fl ds0 ∧ Fz K H0 S0 a vs0 ∧ RDs K H0 S0 vs0 ds0 ∨ x = .ref a ∧ S0 a = some (.lst ds0)) (e : lsOf S x = some ds) : ∃ vs, SqL K.k H a vs ∧ RDs ⟨K.k, M⟩ H S vs ds := by
  rcases h with ⟨rfl, fz, r⟩ | ⟨rfl, _⟩
  · cases e
    exact ⟨vs0, (le.l _ _ fz).sq, r.le le⟩
  · unfold lsOf at e
    dsimp only at e
    split at e
    · rename_i ys e'
      cases e
      obtain ⟨vs, h1, h2⟩ := b.rs.ob a _ e'
      exact ⟨vs, .of h1, h2⟩
    · cases e
/-- enumerate(x) -/
def enumI (x : D) : ItD := fun i S => (lsOf S x).map fun ds => ds[i]?.map fun d => .tup [.int i, d]
def iEnumD (t : TDA) : TDI := fun δ S R => t δ S fun xs S1 => ∃ x ds, xs = [x] ∧ lsOf S1 x = some ds ∧ R (enumI x) S1
theorem sql_uniq {K : PySem.W.Frag} {H : Hp} {pins : List (Addr × Obj)} {a : Addr} {xs ys : List V} (h : SqL K H a xs) (h' : SqL K H a ys) (u : ∀ zs, SqL K H a zs → zs = xs) : ys = xs := u _ h'
theorem di_enum {e : Expr} {ta : TDA} {p pos tpos : Pos} {elts : List Expr} {kk : Nat} (hg : Gl X "enumerate") (hm : X.mg "enumerate" = none) (ha : PA X [e] (lA X.K ta)) (hs : starEach [e] X.env = [(false, eval e X.env)] := by rfl) :
    PI X (.Tuple elts kk tpos) (.Call (.Name "enumerate" p) [e] [] pos) (lI X.K (iEnumD ta)) :=
  PI.wk (pi_enum hg hm ha hs) fun σ H R ⟨N, δ, S, R', re, rs, q, kk⟩ => by
    refine ⟨N, δ, S, _, re, rs, q, fun xs S1 vs H1 b1 rv q1 => ?_⟩
    obtain ⟨x, ds, rfl, hl, q1⟩ := q1
    obtain ⟨v, rfl, rx⟩ := rv.one'
    obtain ⟨a, ws, rfl, sq, w⟩ := rel_ls b1.rs rx hl
    refine ⟨a, ws, rfl, sq, kk _ S1 _ H1 b1 ?_ q1⟩
    intro M i H' S' b le
    unfold enumI
    refine ⟨fun ez => ?_, fun d ez => ?_⟩
    · obtain ⟨es, h1, h2⟩ := Option.map_eq_some_iff.mp ez
      obtain ⟨us, sq', r'⟩ := ls_at b le w h1
      exact ⟨us, sq', by rw [r'.length]; exact List.getElem?_eq_none_iff.mp (Option.map_eq_none_iff.mp h2)⟩
    · obtain ⟨es, h1, h2⟩ := Option.map_eq_some_iff.mp ez
      obtain ⟨y, h3, h4⟩ := Option.map_eq_some_iff.mp h2
      obtain ⟨us, sq', r'⟩ := ls_at b le w h1
      obtain ⟨u, hu, ru⟩ := r'.get h3
      refine ⟨⟨us, u, sq', hu⟩, fun z H2 yl => ?_⟩
      obtain ⟨T, z', rfl, hT, rfl, hz⟩ := yl
      have ez' : us[i]? = some z' := hz us sq'
      rw [hu] at ez'
      cases ez'
      subst h4
      obtain ⟨b2, r2⟩ := new_tup b.rs hT (.cons (d := D.int i) (.of (.int i)) (.cons ru .nil))
      exact ⟨b2, r2⟩
/-- zip(x, y) of lists -/
def zipI (x y : D) : ItD := fun i S => (lsOf S x).bind fun ds => (lsOf S y).map fun es => ds[i]?.bind fun d => es[i]?.map fun e => .tup [d, e]
def iZipD (t : TDA) : TDI := fun δ S R => t δ S fun xs S1 => ∃ x y ds es, xs = [x, y] ∧ ((lsOf S1 x = some ds ∧ lsOf S1 y = some es ∧ R (zipI x y) S1) ∨ (x = .tup ds ∧ y = .tup es ∧ R (zipI (.fl ds) (.fl es)) S1))
theorem RDs.two' {K : Kx} {H : Hp} {S : Sto} {vs : List V} {d e : D} (r : RDs K H S vs [d, e]) : ∃ v w, vs = [v, w] ∧ RD K H S v d ∧ RD K H S w e := by
  obtain ⟨v, ws, rfl, a, b⟩ := r.inv_cons
  obtain ⟨w, us, rfl, b, c⟩ := b.inv_cons
  rw [c.inv_nil]
  exact ⟨v, w, rfl, a, b⟩
theorem zip_step {K : Kx} {H : Hp} {S : Sto} {us ws : List V} {ds es : List D} {i : Nat} (r1 : RDs K H S us ds) (r2 : RDs K H S ws es) {d : D} (h : (ds[i]?.bind fun d => es[i]?.map fun e => D.tup [d, e]) = some d) : ∃ u w y z, us[i]? = some u ∧ ws[i]? = some w ∧ d = .tup [y, z] ∧ RD K H S u y ∧ RD K H S w z := by
  obtain ⟨y, h1, h2⟩ := Option.bind_eq_some_iff.mp h
  obtain ⟨z, h3, h4⟩ := Option.map_eq_some_iff.mp h2
  obtain ⟨u, hu, ru⟩ := r1.get h1
  obtain ⟨w, hw, rw'⟩ := r2.get h3
  exact ⟨u, w, y, z, hu, hw, h4.symm, ru, rw'⟩
theorem zip_end {K : Kx} {H : Hp} {S : Sto} {us ws : List V} {ds es : List D} {i : Nat} (r1 : RDs K H S us ds) (r2 : RDs K H S ws es) (h : (ds[i]?.bind fun d => es[i]?.map fun e => D.tup [d, e]) = none) : us.length ≤ i ∨ ws.length ≤ i := by
  rw [r1.length, r2.length]
  by_cases h1 : ds.length ≤ i
  · exact .inl h1
  · by_cases h2 : es.length ≤ i
    · exact .inr h2
    · rw [List.getElem?_eq_getElem (by omega), List.getElem?_eq_getElem (by omega)] at h
      cases h
theorem di_zip {e e2 : Expr} {ta : TDA} {p pos tpos : Pos} {elts : List Expr} {kk : Nat} (hg : Gl X "zip") (hm : X.mg "zip" = none) (ha : PA X [e, e2] (lA X.K ta)) (hs : starEach [e, e2] X.env = (false, eval e X.env) :: starEach [e2] X.env := by rfl) (hpl : (backTo pos (starEach [e2] X.env)).any (·.1) = false := by rfl) :
    PI X (.Tuple elts kk tpos) (.Call (.Name "zip" p) [e, e2] [] pos) (lI X.K (iZipD ta)) :=
  PI.wk (RZ.pi_zipA hg hm ha hs hpl) fun σ H R ⟨N, δ, S, R', re, rs, q, kk⟩ => by
    refine ⟨N, δ, S, _, re, rs, q, fun xs S1 vs H1 b1 rv q1 => ?_⟩
    obtain ⟨x, y, ds, es, rfl, q1⟩ := q1
    obtain ⟨v, w, rfl, rx, ry⟩ := rv.two'
    rcases q1 with ⟨h1, h2, q1⟩ | ⟨rfl, rfl, q1⟩
    · obtain ⟨a, us, rfl, sq, wa⟩ := rel_ls b1.rs rx h1
      obtain ⟨b, ws, rfl, sq2, wb⟩ := rel_ls b1.rs ry h2
      refine ⟨a, b, us, ws, rfl, .inl ⟨sq, sq2, kk _ S1 _ H1 b1 ?_ q1⟩⟩
      intro M i H' S' bb le
      unfold zipI
      refine ⟨fun ez => ?_, fun d ez => ?_⟩
      · obtain ⟨ds', g1, ez⟩ := Option.bind_eq_some_iff.mp ez
        obtain ⟨es', g2, ez⟩ := Option.map_eq_some_iff.mp ez
        obtain ⟨u1, s1, r1⟩ := ls_at bb le wa g1
        obtain ⟨u2, s2, r2⟩ := ls_at bb le wb g2
        exact ⟨u1, u2, s1, s2, zip_end r1 r2 ez⟩
      · obtain ⟨ds', g1, ez⟩ := Option.bind_eq_some_iff.mp ez
        obtain ⟨es', g2, ez⟩ := Option.map_eq_some_iff.mp ez
        obtain ⟨u1, s1, r1⟩ := ls_at bb le wa g1
        obtain ⟨u2, s2, r2⟩ := ls_at bb le wb g2
        obtain ⟨y1, y2, z1, z2, h1, h2, rfl, k1, k2⟩ := zip_step r1 r2 ez
        refine ⟨⟨u1, u2, y1, y2, s1, s2, h1, h2⟩, fun z H2 yl => ?_⟩
        obtain ⟨T, c1, c2, rfl, hT, rfl, hz1, hz2⟩ := yl
        have e1 := hz1 u1 s1
        rw [h1] at e1
        cases e1
        have e2 := hz2 u2 s2
        rw [h2] at e2
        cases e2
        obtain ⟨b2, r2⟩ := new_tup bb.rs hT (.cons k1 (.cons k2 .nil))
        exact ⟨b2, r2⟩
    · obtain ⟨a, us, rfl, t1, wa⟩ := rx.tup_
      obtain ⟨b, ws, rfl, t2, wb⟩ := ry.tup_
      refine ⟨a, b, us, ws, rfl, .inr ⟨.of t1, .of t2, kk _ S1 _ H1 b1 ?_ q1⟩⟩
      intro M i H' S' bb le
      unfold zipI lsOf
      have r1 := wa.le le
      have r2 := wb.le le
      have s1 : SqT X.K H' a us := .of (le.t _ _ t1)
      have s2 : SqT X.K H' b ws := .of (le.t _ _ t2)
      refine ⟨fun ez => ?_, fun d ez => ?_⟩
      · exact ⟨us, ws, s1, s2, zip_end r1 r2 (Option.some.inj ez)⟩
      · obtain ⟨y1, y2, z1, z2, h1, h2, rfl, k1, k2⟩ := zip_step r1 r2 (Option.some.inj ez)
        refine ⟨⟨us, ws, y1, y2, s1, s2, h1, h2⟩, fun z H2 yl => ?_⟩
        obtain ⟨T, c1, c2, rfl, hT, rfl, hz1, hz2⟩ := yl
        have e1 := hz1 us s1
        rw [h1] at e1
        cases e1
        have e2 := hz2 ws s2
        rw [h2] at e2
        cases e2
        obtain ⟨b2, r2⟩ := new_tup bb.rs hT (.cons k1 (.cons k2 .nil))
        exact ⟨b2, r2⟩

/-! ### range with a step -/
def rangeCI (lo c : Int) (n : Nat) : ItD := fun i _ => some (if i < n then some (.int (lo + (i : Nat) * c)) else none)
def iRange3 (t : TDA) : TDI := fun δ S R => t δ S fun ds S1 => ∃ (i j c : Int) (n : Nat), ds = [.int i, .int j, .int c] ∧ RgC i j c n ∧ R (rangeCI i c n) S1
theorem RDs.three {K : Kx} {H : Hp} {S : Sto} {vs : List V} {u w z : V} (r : RDs K H S vs [.at u, .at w, .at z]) : vs = [u, w, z] := RDs.atoms (us := [u, w, z]) r
theorem di_range3 {tg a b c : Expr} {ta : TDA} {p pos : Pos} (hg : Gl X "range") (hm : X.mg "range" = none) (ha : PA X [a, b, c] (lA X.K ta)) (hs : starEach [a, b, c] X.env = (false, eval a X.env) :: starEach [b, c] X.env := by rfl) (hpl : (backTo pos (starEach [b, c] X.env)).any (·.1) = false := by rfl) :
    PI X tg (.Call (.Name "range" p) [a, b, c] [] pos) (lI X.K (iRange3 ta)) :=
  PI.wk (pi_range3 hg hm ha hs hpl) fun σ H R ⟨N, δ, S, R', re, rs, q, kk⟩ => by
    refine ⟨N, δ, S, _, re, rs, q, fun ds S1 vs H1 b1 rv q1 => ?_⟩
    obtain ⟨i, j, c, n, rfl, hc, q1⟩ := q1
    refine ⟨i, j, c, n, rv.three, hc, kk _ S1 _ H1 b1 ?_ q1⟩
    intro M m H' S' bb le
    unfold rangeCI
    refine ⟨fun ez => ?_, fun d ez => ?_⟩
    · show n ≤ m
      by_cases h : m < n
      · rw [if_pos h] at ez; cases ez
      · omega
    · by_cases h : m < n
      · rw [if_pos h] at ez
        cases ez
        refine ⟨h, fun x H2 y => ?_⟩
        obtain ⟨rfl, rfl⟩ := y
        exact ⟨.refl bb.rs, .of _⟩
      · rw [if_neg h] at ez; cases ez

/-! ### x[::-1] -/
def revD (mu : Bool) (te : TDE) : TDE := fun δ S Q => te δ S fun x S1 => ∃ xs, lsOf S1 x = some xs ∧ (if mu = true then ∀ p, S1 p = none → Q (.ref p) (up S1 p (.lst xs.reverse)) else Q (.fl xs.reverse) S1)
theorem de_rev (mu : Bool) {e : Expr} {te : TDE} {k : Nat} {p1 p2 p3 pos : Pos} (he : PE X e (lE X.K te)) : PE X (.Subscript e (.Slice none none (some (.UnaryOp .USub (.Constant (.int 1) k p1) p2)) p3) pos) (lE X.K (revD mu te)) :=
  PE.wk (pe_revL he) fun σ H Q ⟨N, δ, S, Q', re, rs, q, kk⟩ => by
    refine ⟨N, δ, S, _, re, rs, q, fun x S1 v H1 b1 rx q1 => ?_⟩
    obtain ⟨xs, hl, q1⟩ := q1
    obtain ⟨a, vs, rfl, sq, r⟩ := ls_sq b1.rs rx hl
    refine ⟨a, vs, rfl, sq, fun p np => ?_⟩
    cases mu with
    | true =>
      rw [if_pos rfl] at q1
      exact kk _ _ _ _ (b1.trans (new_lst b1.rs np r.reverse)) (.of _) (q1 p (b1.rs.free np))
    | false =>
      rw [if_neg Bool.false_ne_true] at q1
      obtain ⟨b2, r2⟩ := new_fl b1.rs np r.reverse
      exact kk _ _ _ _ (b1.trans b2) r2 q1

/-! ### sorted -/
/-- of ints, or of fewer than 64 texts: a new list, nobody will change it -/
def srtD : RDL := fun ds S Q => ∃ x, ds = [x] ∧ ((∃ ns : List Int, lsOf S x = some (ns.map D.int) ∧ ∀ ns' : List Int, ns'.Perm ns → ns'.Pairwise (· ≤ ·) → Q (.fl (ns'.map D.int)) S) ∨
  ∃ ys : List Str, lsOf S x = some (ys.map D.str) ∧ ys.length < 64 ∧ ∀ zs : List Str, zs.Perm ys → sortedS zs = true → Q (.fl (zs.map D.str)) S)
theorem rds_ints {K : Kx} {H : Hp} {S : Sto} (ns : List Int) : RDs K H S (ns.map V.int) (ns.map D.int) := by
  have := RDs.of_atoms (K := K) (H := H) (S := S) (ns.map V.int)
  rw [List.map_map] at this
  exact this
theorem rds_strs {K : Kx} {H : Hp} {S : Sto} (ns : List Str) : RDs K H S (ns.map V.str) (ns.map D.str) := by
  have := RDs.of_atoms (K := K) (H := H) (S := S) (ns.map V.str)
  rw [List.map_map] at this
  exact this
theorem cd_sorted : CallR X (.builtin "sorted") (lL X.K srtD) := by
  intro pins s σ H vs us Q I r hh
  obtain ⟨N, ds, S, Q', rd, rs, ⟨x, rfl, q⟩, kk⟩ := hh
  obtain ⟨v, rfl, rx⟩ := rd.one'
  rcases q with ⟨ns, hl, q⟩ | ⟨ys, hl, h64, q⟩
  · obtain ⟨a, ws, rfl, sq, rw'⟩ := ls_sq rs rx hl
    have e : ws = ns.map V.int := RDs.atoms (us := ns.map V.int) (by rw [List.map_map]; exact rw')
    subst e
    refine cr_sortedI pins s σ H _ us Q I r ⟨a, ns, rfl, sq, fun ns' p h1 h2 np => ?_⟩
    obtain ⟨b1, r1⟩ := new_fl rs np (rds_ints ns')
    exact kk _ _ _ _ b1 r1 (q ns' h1 h2)
  · obtain ⟨a, ws, rfl, sq, rw'⟩ := ls_sq rs rx hl
    have e : ws = ys.map V.str := RDs.atoms (us := ys.map V.str) (by rw [List.map_map]; exact rw')
    subst e
    refine cr_sortedS pins s σ H _ us Q I r ⟨a, ys, rfl, sq, h64, fun zs p h1 h2 np => ?_⟩
    obtain ⟨b1, r1⟩ := new_fl rs np (rds_strs zs)
    exact kk _ _ _ _ b1 r1 (q zs h1 h2)

/-! ### sorted({i, j}) of ints -/
section
variable {prog : Program} {w : World} {A : Around} {E : Value → Shared → Prop} {s : Shared}
theorem sd_core {road : DisplayRoad} {b : Bool} {elts : List (Bool × Sem Value)} {ts : List (Sem Value)} {Q : Value → Shared → Prop} (hroad : road = .oneByOne) (hs : elts.findIdx? (·.1) = none) (hlen : elts.length ≤ 30) (hm : elts.map (·.2) = ts)
    (h : wpAny (model prog w) A (evalAll ts) (fun vs s' => PySem.W.KdsFill (model prog w) A E false s.heap.objs.size Q vs s') E { s with heap := s.heap.push { cls := .type "set", dict := none, data := .set #[] 0 (.fresh 0 0 (!w.params.followText "set-order")) } }) :
    wpAny (model prog w) A (setDisplay road b elts) Q E s := by
  have hn : (if elts.length > 30 then 0 else (elts.findIdx? (·.1)).getD elts.length) = elts.length := by rw [if_neg (by omega), hs]; rfl
  subst hroad
  unfold setDisplay
  try dsimp only
  rw [if_neg (by decide)]
  unfold newSet setsByText
  refine wpAny_bind (wpAny_bind (wpAny_bind (wpAny_askSetting (wpAny_pure ?_))))
  dsimp only
  simp only [newObj]
  refine wpAny_bind (wpAny_alloc (wpAny_pure ?_))
  dsimp only
  rw [hn, List.take_length, List.drop_length, hm]
  refine wpAny_bind (wpAny_holding ?_)
  refine wpAny_bind (wpAny_mono h (fun vs s' h' => ?_) fun _ _ x => x)
  refine wpAny_bind (wpAny_holding ?_)
  refine wpAny_bind (wpAny_mono (PySem.W.kds_for (fun x P s hx => ?_) vs s' h') (fun _ s1 h1 => ?_) fun _ _ x => x)
  · refine wpAny_bind (wpAny_mono hx (fun _ s2 h2 => ?_) fun _ _ x => x)
    first | exact wpAny_pure ⟨rfl, h2⟩ | exact wpAny_bind (wpAny_pure (wpAny_pure ⟨rfl, h2⟩))
  · have h2 : Q (.ref s.heap.objs.size) s1 := by simpa [PySem.W.KdsFill] using h1
    rw [if_neg (by decide)]
    refine wpAny_pure ?_
    rw [List.forIn_nil]
    exact wpAny_pure (wpAny_pure h2)
end
/-- a thing that the store does not speak of is changed -/
theorem RS.ext {K : Kx} {H : Hp} {S : Sto} {p : Addr} {F : Heap → Prop} {o : HO} (rs : RS K H S) (h : H p = some (.ext F)) (hn : S p = none) : RS K (upd H p o) S ∧ TupLe K H S K (upd H p o) S := by
  have le : TupLe K H S K (upd H p o) S := by
    refine ⟨fun a xs e => ?_, fun _ _ z => z, fun a xs e => ?_⟩
    · have ne : a ≠ p := fun z => by subst z; rw [h] at e; cases e
      rw [upd_ne ne]; exact e
    · rcases e with ⟨e, n, m⟩ | e
      · have ne : a ≠ p := fun z => by subst z; rcases e with e | ⟨u, e⟩ <;> (rw [h] at e; cases e)
        refine .inl ⟨?_, n, m⟩
        rcases e with e | ⟨u, e⟩
        · exact .inl (by rw [upd_ne ne]; exact e)
        · exact .inr ⟨u, by rw [upd_ne ne]; exact e⟩
      · exact .inr e
  refine ⟨⟨fun a u e => ?_, hid_upd rs.hid, rs.hidS⟩, le⟩
  have ne : a ≠ p := fun z => by subst z; rw [hn] at e; cases e
  exact (rs.ob a u e).le le (upd_ne ne)
/-- {a, b} of ints: a set that nobody else holds -/
def set0 (w : World) (p : Addr) : HO := SetO w p (fun _ => false) 0
def tSet2 (w : World) (ta tb : TE) : TE := fun σ H Q => ∀ p, H p = none → ta σ (upd H p (set0 w p)) fun x H1 => tb σ H1 fun y H2 => ∃ i j : Int, x = .int i ∧ y = .int j ∧ H2 p = some (set0 w p) ∧
  Q (.ref p) (upd H2 p (SetO w p (fun z => decide (z = i) || decide (z = j)) (if i = j then 1 else 2)))
theorem pe_set2 {a b : Expr} {ta tb : TE} {pos : Pos} (ha : PE X a ta) (hb : PE X b tb) (hcd : PySem.W.kdsCode X.K X.env.code = true) (hp : [a, b].all PySem.W.kdsPlain = true := by rfl) : PE X (.Set [a, b] 0 pos) (tSet2 X.w ta tb) := by
  refine ⟨fun pins s σ H Q I h => ?_⟩
  rw [arm_eval_Set]
  refine wpAny_bind (wpAny_standAt ?_)
  refine wpAny_bind (PySem.W.kds_main I.kIn hcd fun bb => ?_)
  rw [PySem.W.kds_star [a, b] hp, List.map_map]
  refine sd_core (ts := (evalEach [a, b] X.env).map fun t => do let v ← t; standAt pos; pure v) rfl ?_ ?_ ?_ ?_
  · refine List.findIdx?_eq_none_iff.mpr fun x hx => ?_
    obtain ⟨t, _, rfl⟩ := List.mem_map.mp hx
    rfl
  · rw [List.length_map, PySem.W.kds_len]; show 2 ≤ 30; decide
  · rw [List.map_map]; try rfl
  · refine PySem.W.kds_all pos [a, b] _ _ ?_
    have hP := I.hok.fresh (Nat.le_refl s.heap.objs.size)
    have hh := h s.heap.objs.size hP
    have R0 := setR_fresh (h := s.heap) X.w
    have I1 : Inv X pins σ (upd H s.heap.objs.size (set0 X.w s.heap.objs.size)) { s with heap := s.heap.push { cls := .type "set", dict := none, data := .set #[] 0 (.fresh 0 0 (!X.w.params.followText "set-order")) } } :=
      I.laid (t' := s.toks) (fun b u e => Heap.get?_push_of_some _ e) (Nat.le_refl _) (setO_new R0)
    revert hh I1
    generalize s.heap.objs.size = p
    intro hh I1
    refine thn (ha.run pins _ σ _ _ I1 hh) fun u s1 ⟨x, H1, J1, r1, q1⟩ => ?_
    refine thn (hb.run pins _ σ _ _ J1 q1) fun v s2 ⟨y, H2, J2, r2, q2⟩ => ?_
    obtain ⟨i, j, rfl, rfl, hp2, q⟩ := q2
    obtain ⟨t, rfl⟩ := r1
    obtain ⟨t', rfl⟩ := r2
    refine PySem.W.kds_fill_cons ?_
    have R2 := setO_get J2 hp2
    unfold setAdd
    refine wpAny_holding (wpAny_bind ((intKind X.prog X.w).pyHash (intKind_is X.prog X.w i t) ?_))
    refine setR_add_hashed (s := { s2 with toks := s2.toks + 1 }) R2 (by decide) fun h' sb R3 => ?_
    refine PySem.W.kds_fill_cons ?_
    refine wpAny_holding (wpAny_bind ((intKind X.prog X.w).pyHash (intKind_is X.prog X.w j t') ?_))
    refine setR_add_hashed (s := { s2 with heap := h', toks := s2.toks + 1 + 1 }) R3 (by simp [scanBound]) fun h2 sb2 R4 => ?_
    refine PySem.W.kds_fill_nil rfl ?_
    have R5 : SetR X.w h2 p (fun z => decide (z = i) || decide (z = j)) (if i = j then 1 else 2) := by
      have e1 : (if ((false || decide (j = i)) = true) then (if (false = true) then 0 else 0 + 1) else (if (false = true) then 0 else 0 + 1) + 1) = if i = j then 1 else 2 := by
        by_cases e : i = j
        · subst e; simp
        · have : ¬ j = i := fun z => e z.symm
          simp [e, this]
      rw [e1] at R4
      exact R4.congr fun z => by simp
    have he : ∃ u, h2.get? p = some u := by
      have ⟨o, _, _, _, ho, _⟩ := R5
      exact ⟨o, ho⟩
    exact ⟨.ref p, _, J2.write (e := p) (t' := s2.toks + 1 + 1) (by rw [hp2]; trivial) (.inl rfl) (fun b u hb hu => (sb2.2 b hb).trans ((sb.2 b hb).trans hu)) he (setO_new R5), rfl, q⟩
/-- sorted({a, b}) of ints -/
def srt2 (i j : Int) : List Int := if i < j then [i, j] else if j < i then [j, i] else [i]
def dSort2 (ta tb : TDE) : TDE := fun δ S Q => ta δ S fun x S1 => tb δ S1 fun y S2 => ∃ i j : Int, x = .int i ∧ y = .int j ∧ Q (.fl ((srt2 i j).map D.int)) S2
theorem srt2_of {i j : Int} {ns : List Int} (hs : ns.Pairwise (· < ·)) (hm : ∀ k : Int, k ∈ ns ↔ (decide (k = i) || decide (k = j)) = true) : ns = srt2 i j := by
  have hm' : ∀ k : Int, k ∈ ns ↔ k = i ∨ k = j := fun k => by rw [hm]; simp
  have key : ∀ ms : List Int, ms.Pairwise (· < ·) → (∀ k : Int, k ∈ ms ↔ k = i ∨ k = j) → ns = ms := fun ms h1 h2 => by
    have p : ns.Perm ms := (List.perm_ext_iff_of_nodup (hs.imp fun h => Int.ne_of_lt h) (h1.imp fun h => Int.ne_of_lt h)).mpr fun k => by rw [hm', h2]
    exact p.eq_of_pairwise (fun a b _ _ h h' => absurd h' (Int.lt_asymm h)) hs h1
  unfold srt2
  split
  · rename_i h
    exact key _ (by simp [h]) fun k => by simp
  · split
    · rename_i h h'
      exact key _ (by simp [h']) fun k => by simp; exact Or.comm
    · rename_i h h'
      have : i = j := by omega
      subst this
      exact key _ (by simp) fun k => by simp
theorem de_sort2 {a b : Expr} {ta tb : TDE} {p pos p2 : Pos} (hc : X.calm = true) (hg : Gl X "sorted") (hm : X.mg "sorted" = none) (hcd : PySem.W.kdsCode X.K X.env.code = true) (ha : PE X a (lE X.K ta)) (hb : PE X b (lE X.K tb)) (hp : [a, b].all PySem.W.kdsPlain = true := by rfl)
    (he : starEach [.Set [a, b] 0 p2] X.env = (false, eval (.Set [a, b] 0 p2) X.env) :: starEach [] X.env := by rfl) (hpl : (backTo pos (starEach [] X.env)).any (·.1) = false := by rfl) : PE X (.Call (.Name "sorted" p) [.Set [a, b] 0 p2] [] pos) (lE X.K (dSort2 ta tb)) :=
  PE.wk (pe_callB (cr_sortedSet hc) hg hm (by decide +kernel) (pa_cons (pe_set2 ha hb hcd hp) pa_nil he) (by decide) (by decide) he hpl) fun σ H Q ⟨N, δ, S, Q', re, rs, q, kk⟩ => by
    intro p np
    obtain ⟨rs1, f1, le1⟩ := rs.laid (o := set0 X.w p) np
    have b0 : Bh ⟨X.K, N⟩ H S (upd H p (set0 X.w p)) S := ⟨f1, rs1⟩
    refine ⟨N, δ, S, _, re.le le1, rs1, q, fun x S1 v H1 b1 rx q1 => ?_⟩
    refine ⟨N, δ, S1, _, (re.le le1).le (rs1.le b1.fr), b1.rs, q1, fun y S2 u H2 b2 ry q2 => ?_⟩
    obtain ⟨i, j, rfl, rfl, q2⟩ := q2
    have b12 := b1.trans b2
    obtain ⟨hp2, sp2⟩ := b12.fr p _ upd_same (rs.free np)
    refine ⟨i, j, rx.at_, ry.at_, hp2, p, _, _, rfl, upd_same, by split <;> decide, fun ns q' hs hmm _ nq => ?_⟩
    obtain ⟨rs3, le3⟩ := b2.rs.ext (o := SetO X.w p (fun z => decide (z = i) || decide (z = j)) (if i = j then 1 else 2)) hp2 sp2
    obtain ⟨b4, r4⟩ := new_fl rs3 nq (rds_ints ns)
    have e := srt2_of hs hmm
    subst e
    refine kk _ S2 _ _ ⟨fun a o e n => ?_, b4.rs⟩ r4 q2
    obtain ⟨z1, z2⟩ := (b0.trans b12).fr a o e n
    refine ⟨?_, z2⟩
    have ne : a ≠ p := ne_of_none e np
    have e3 : upd H2 p (SetO X.w p (fun z => decide (z = i) || decide (z = j)) (if i = j then 1 else 2)) a = some o := by rw [upd_ne ne]; exact z1
    rw [upd_ne (ne_of_none e3 nq)]
    exact e3
end
end DL

/-! Data layer, eighth part: the law's end. -/
namespace DL
open PySem L2 PyProof.Rows PySem.W
theorem callG {P : Program} {w : World} {K : PySem.W.Frag} {mg mb : Str → Option Value} {CX : CXT} {k : Nat} {fa a : Addr} {fd : FuncData} {x : Str} {sp : Sp} {t1 : Shared} {vs : List Value} {ns : List Int}
    (kin : K.In t1.heap) (gns : t1.heap.Ns mainGlobals mg) (hb : t1.heap.Ns builtinsNs mb) (bsn : ∀ x : Str, x ≠ "__name__" → mb x = bootBuiltins x) (nolim : t1.heap.NoLimit) (hg : t1.gens = #[])
    (ha : t1.heap.get? a = some { cls := .type "list", data := .seq vs.toArray }) (hi : IntsAre vs ns) (hl : ns.length ≤ sizeLine) (hr : Room k callerA)
    (F : ∀ base : Heap, K.In base → base.Ns mainGlobals mg → FnG P w K mg base CX k fa fd [x] sp) (bnd : ∀ (s : Shared) (u : Value), BindsTo s fd ⟨[u], []⟩ [(x, u)])
    (hpr : ∀ H : Hp, Only H → SqL K H a (ns.map V.int) → sp [.ref a] H (fun v _ => v = .bl true) fun _ _ _ => False)
    (hxx : ∀ H e s', CX [] H t1 (fun _ _ _ => False) e s' → False) :
    codeAny (model P w) callerA (.call (.ref fa) ⟨[.ref a], []⟩) (fun r s' => r = .ok (.ret (.bool true)) ∧ OldK t1.heap s'.heap ∧ s'.os = t1.os ∧ AllBare s'.gens) t1 := by
  have vrel := vals_ints hi
  have nlen := hi.length
  have main : ∀ H : Hp, Only H → SqL K H a (ns.map V.int) → HOk P w H t1.heap → (∀ b, H b ≠ none → b = a) → (H a ≠ none → K.lookup a = none) →
      codeAny (model P w) callerA (.call (.ref fa) ⟨[.ref a], []⟩) (fun r s' => r = .ok (.ret (.bool true)) ∧ OldK t1.heap s'.heap ∧ s'.os = t1.os ∧ AllBare s'.gens) t1 := by
    intro H onl scr oka alone unk
    have stays : ∀ {b : Addr} {o : Obj}, t1.heap.get? b = some o → H b = none → (hidT t1.heap H).get? b = some o := fun e n => hidT_get e n
    have nodic : ∀ {b : Addr} {o : Obj} {es : Array DictEntry} {ep : Nat}, t1.heap.get? b = some o → o.data = .dict es ep → H b = none := fun {b o es ep} e d => by
      cases q : H b with
      | none => rfl
      | some u =>
        have e' : b = a := alone b (by rw [q]; simp)
        subst e'
        rw [ha] at e; cases e
        cases (show Data.seq vs.toArray _ = Data.dict es ep from d)
    have nsb : ∀ {b : Addr} {m : Str → Option Value}, t1.heap.Ns b m → (hidT t1.heap H).Ns b m := fun {b m} ⟨o, es, ep, e, d, r⟩ => ⟨o, es, ep, stays e (nodic e d), d, r⟩
    have kinb : K.In (hidT t1.heap H) := fun b o e => stays (kin b o e) (by
      cases q : H b with
      | none => rfl
      | some u =>
        have e' : b = a := alone b (by rw [q]; simp)
        subst e'
        rw [unk (by rw [q]; simp)] at e; cases e)
    have mdl : Mod K mg (hidT t1.heap H) := ⟨kinb, nsb gns, ⟨mb, nsb hb, bsn⟩, let ⟨mc, h1, h2⟩ := nolim; ⟨mc, nsb h1, h2⟩⟩
    have env0 : Env0 P w K mg (hidT t1.heap H) callerA [] t1 H := ⟨rfl, mdl, fun b o e => of_hidT e, Nat.le_of_eq (hidT_size _ _), trivial, fun b hb => (nomatch hb), oka, .of_eq hg⟩
    refine codeAny_mono ((F _ kinb (nsb gns)).run callerA [] t1 H ⟨[.ref a], []⟩ [.ref a] [.ref a] _ _ hr rfl env0 (bnd t1 (.ref a)) (.cons rfl .nil) (hpr H onl scr)) fun r s' h => ?_
    cases r with
    | error e => exact (hxx H e s' h).elim
    | ok fl =>
      cases fl with
      | next => exact False.elim h
      | brk => exact False.elim h
      | cont => exact False.elim h
      | ret u =>
        obtain ⟨v, H', os, bare, un, okb, r', q⟩ := h
        have q' : v = .bl true := q
        subst q'
        obtain rfl : u = Value.bool true := r'
        refine ⟨rfl, OldK.of_keep fun b o e => ?_, os, bare⟩
        cases q : H b with
        | none => exact un.keep b o e q (by intro z; cases z) (by intro z; cases z)
        | some u =>
          rcases onl b with z | ⟨ob, xs, z⟩
          · rw [q] at z; cases z
          · have z2 := un.frzs b ob _ z
            obtain ⟨e1, _⟩ := oka b _ z
            obtain ⟨e2, _⟩ := okb b _ z2
            rw [e] at e1; cases e1
            exact e2
  cases hk : K.lookup a with
  | some o =>
    have e := kin a o hk
    rw [ha] at e
    cases e
    exact main (fun _ => none) (fun _ => .inl rfl) (.inr ⟨_, vs.toArray, _, hk, rfl, rfl, rfl, by rw [List.size_toArray, nlen]; exact hl, by simpa using vrel⟩) (fun b u z => by cases (show (none : Option HO) = some u from z)) (fun b z => absurd rfl z) fun z => absurd rfl z
  | none =>
    refine main (fun b => if b = a then some (.frz { cls := .type "list", data := .seq vs.toArray } (.lst (ns.map V.int))) else none) (fun b => ?_) (.inl (.inr ⟨{ cls := .type "list", data := .seq vs.toArray }, if_pos rfl⟩)) (fun b u z => ?_) (fun b z => ?_) fun _ => hk
    · by_cases hb : b = a
      · exact .inr ⟨_, _, if_pos hb⟩
      · exact .inl (if_neg hb)
    · by_cases hb : b = a
      · have z' := (if_pos hb).symm.trans z
        cases z'
        subst hb
        exact ⟨ha, by rw [List.length_map]; exact hl, vs, _, vrel, ha⟩
      · cases (if_neg hb).symm.trans z
    · by_cases hb : b = a
      · exact hb
      · exact absurd (if_neg hb) z
/-- the goal that the head leaves, from the law's promise over data -/
theorem walkD {l : PySem.W.OpenLaw} {n k : Nat} {q : Program} {loose : List Str} {XP : (Str → Option Value) → Heap → Prop} {YP : World → Heap → Prop} {d : DefRec} {K : Params → PySem.W.Frag} {sp : SpD} {x : Str} (hn : l.most = some n) (hn2 : n ≤ sizeLine) (hdf : d.params.defaults = []) (hr : Room k callerA)
    (inK : ∀ (w : World) (h : Heap), YP w h → (K w.params).In h) (F : ∀ (w : World) (mg : Str → Option Value) (fa : Addr) (h : Heap), (K w.params).In h → h.Ns mainGlobals mg → mg d.name = some (.ref fa) →
      ∃ fd : FuncData, (∀ (s : Shared) (u : Value), BindsTo s fd ⟨[u], []⟩ [(x, u)]) ∧
        ∀ base : Heap, (K w.params).In base → base.Ns mainGlobals mg → FnD l.prog w (K w.params) mg base CX0 k fa fd [x] sp)
    (hpr : ∀ ns : List Int, ns.length ≤ n → (∀ z ∈ ns, Builtin.Int.intBits z ≤ 1048576) → sp [.fl (ns.map D.int)] (fun _ => none) (fun d _ => d = .bl true) X0) :
    PySem.W.WalkO q loose XP YP l.row.toRowW d [] (fun f vs => PySem.call f vs) := by
  refine Att.attach_callB hn hdf fun w s₀ t1 mg mb fa o pm cd doc a vs ns G Y ho hd hcd hmg hobj hints hlen hbits hg => ?_
  have kin := inK w _ Y
  obtain ⟨fd, hb, prom⟩ := F w mg fa _ kin G.T.g hmg
  refine callG kin G.T.g G.T.b G.T.builtins G.T.nolimit hg hobj hints (Nat.le_trans hlen hn2) hr prom hb (fun H onl scr => ?_) fun H e s' z => z
  refine ⟨fun _ => False, [.fl (ns.map D.int)], fun _ => none, fun d _ => d = .bl true, X0, ?_, ⟨fun a o e => (nomatch e), fun a h => h.elim, fun _ _ => rfl⟩, hpr ns hlen hbits, ?_, fun _ _ _ _ _ _ _ z => z⟩
  · refine .cons (.of_fl (vs := ns.map V.int) ?_ (rds_ints ns)) .nil
    rcases scr with h | h
    · exact .inl ⟨h, rfl, fun z => z⟩
    · exact .inr h
  · rintro d S' v H' b r rfl
    exact r.at_
end DL

/-! Data layer, ninth part: what a def's caller knows; keywords. -/
namespace DL
open PySem L2 PyProof.Rows
/-- positional ones, then keywords by their places -/
def kwg {α : Type} (n : Nat) (p : List Nat) (us ws : List α) : List α := if us.length = n ∧ ws.length = p.length then us ++ p.filterMap (ws[·]?) else []
theorem vals_pick {zs : List V} {ws : List Value} (r : Vals zs ws) : ∀ p : List Nat, Vals (p.filterMap (zs[·]?)) (p.filterMap (ws[·]?))
  | [] => .nil
  | i :: p => by
    have ih := vals_pick r p
    cases e : zs[i]? with
    | none =>
      have e2 : ws[i]? = none := by rw [List.getElem?_eq_none_iff] at e ⊢; rw [← r.length]; exact e
      rw [List.filterMap_cons_none e, List.filterMap_cons_none e2]
      exact ih
    | some z =>
      obtain ⟨w, e2, r2⟩ := r.get e
      rw [List.filterMap_cons_some e, List.filterMap_cons_some e2]
      exact .cons r2 ih
theorem rds_pick {K : Kx} {H : Hp} {S : Sto} {zs : List V} {ws : List D} (r : RDs K H S zs ws) : ∀ p : List Nat, RDs K H S (p.filterMap (zs[·]?)) (p.filterMap (ws[·]?))
  | [] => .nil
  | i :: p => by
    have ih := rds_pick r p
    cases e : ws[i]? with
    | none =>
      have e2 : zs[i]? = none := by rw [List.getElem?_eq_none_iff] at e ⊢; rw [r.length]; exact e
      rw [List.filterMap_cons_none e, List.filterMap_cons_none e2]
      exact ih
    | some z =>
      obtain ⟨w, e2, r2⟩ := r.get e
      rw [List.filterMap_cons_some e, List.filterMap_cons_some e2]
      exact .cons r2 ih
theorem putK_kwg (n : Nat) (p : List Nat) : PutK (kwg n p) (kwg n p) := ⟨fun {K H S vs zs ds es} r s => by
  unfold kwg
  rw [r.length, s.length]
  split
  · exact r.append (rds_pick s p)
  · exact .nil⟩
theorem kb_of {K : PySem.W.Frag} {fd : FuncData} {ps ks : List Str} {n : Nat} {p : List Nat} (hp : 0 < ps.length) (h : ∀ us ws : List Value, us.length = n → ws.length = p.length → bindArgs fd ⟨us, ks.zip ws⟩ = pure (ps.zip (us ++ p.filterMap (ws[·]?)))) : KBinds K fd ps ks (kwg n p) (kwg n p) := by
  refine ⟨fun s us ws _ hl => ?_, fun {vs us zs ws} r s => ?_⟩
  · unfold kwg at hl ⊢
    split at hl
    · rename_i hc
      rw [if_pos hc]
      exact .of_eq (h us ws hc.1 hc.2)
    · simp at hl; omega
  · unfold kwg
    rw [← r.length, ← s.length]
    split
    · exact r.append (vals_pick s p)
    · exact .nil
/-- a def of the module, as its callers know it -/
structure Cal (P : Program) (w : World) (K : PySem.W.Frag) (mg : Str → Option Value) (base : Heap) (k : Nat) (x : Str) (st : Stmt) (ps : List Str) (sp : SpD) : Prop where
  ex : ∃ f fd, FnD P w K mg base CX0 k f fd ps sp ∧ Binds K fd ps [] ∧ mg x = some (.ref f) ∧ Fun K x x st f fd
section
variable {X : Cx} {k k' : Nat} {x : Str} {st : Stmt} {ps ks : List Str} {sp : SpD} {p pos : Pos} {e : Expr} {es : List Expr} {t tk : TDA} {kws : List Keyword}
theorem de_c (C : Cal X.prog X.w X.K X.mg X.base k x st ps sp) (hr : Rg k' X.A) (ha : PA X (e :: es) (lA X.K t)) (hk : k ≤ k' := by decide) (hg : Gl X x := by rfl) (hdb : (x == ("__debug__" : Str)) = false := by decide)
    (he : starEach (e :: es) X.env = (false, eval e X.env) :: starEach es X.env := by rfl) (hpl : (backTo pos (starEach es X.env)).any (·.1) = false := by rfl) : PE X (.Call (.Name x p) (e :: es) [] pos) (lE X.K (dCall sp [] X0 t)) := by
  obtain ⟨f, fd, F, b, m, fn⟩ := C.ex
  exact de_call F (hr.mono hk) b hg m fn.kp ha hdb he hpl
theorem de_c0 (C : Cal X.prog X.w X.K X.mg X.base k x st ps sp) (hr : Rg k' X.A) (hk : k ≤ k' := by decide) (hg : Gl X x := by rfl) (hdb : (x == ("__debug__" : Str)) = false := by decide) : PE X (.Call (.Name x p) [] [] pos) (lE X.K (dCall sp [] X0 dNil)) := by
  obtain ⟨f, fd, F, b, m, fn⟩ := C.ex
  exact de_call0 F (hr.mono hk) b hg m fn.kp hdb
/-- how the def takes n positional arguments and those keywords -/
def KwOk (st : Stmt) (x : Str) (ps ks : List Str) (n : Nat) (pp : List Nat) : Prop := ∀ (kV doc pm : Value) (an : Option Addr) (cdv ct : Value) (us ws : List Value), us.length = n → ws.length = pp.length → bindArgs (PySem.W.fnOf x x (defArgs st) (defBody st) (defScope st) .none kV doc pm an cdv ct) ⟨us, ks.zip ws⟩ = pure (ps.zip (us ++ pp.filterMap (ws[·]?)))
theorem de_ck0 {n : Nat} {pp : List Nat} (C : Cal X.prog X.w X.K X.mg X.base k x st ps sp) (hr : Rg k' X.A) (kw : KwOk st x ps ks n pp) (hkw : PK X kws (lA X.K tk)) (hp : 0 < ps.length := by decide) (hk : k ≤ k' := by decide) (hg : Gl X x := by rfl) (hall : (backToKw pos (keywordEach kws X.env)).all (·.1.isSome) = true := by rfl) (hks : (backToKw pos (keywordEach kws X.env)).filterMap (·.1) = ks := by rfl) (hdb : (x == ("__debug__" : Str)) = false := by decide)
    (hpl : ((backTo pos (starEach [] X.env)).any (·.1) || (backToKw pos (keywordEach kws X.env)).any (·.1.isNone)) = false := by rfl) : PE X (.Call (.Name x p) [] kws pos) (lE X.K (dCallK sp (kwg n pp) X0 dNil tk)) := by
  obtain ⟨f, fd, F, b, m, fn⟩ := C.ex
  obtain ⟨oc, od, kV, doc, pm, an, cdv, ct, osl, rfl, lk, hcd⟩ := fn.ex
  exact de_callK0 F (hr.mono hk) (kb_of hp fun us ws h1 h2 => kw kV doc pm an cdv ct us ws h1 h2) (putK_kwg n pp) hg m fn.kp hkw hall hks hdb hpl
theorem de_ck {n : Nat} {pp : List Nat} (C : Cal X.prog X.w X.K X.mg X.base k x st ps sp) (hr : Rg k' X.A) (kw : KwOk st x ps ks n pp) (ha : PA X (e :: es) (lA X.K t)) (hkw : PK X kws (lA X.K tk)) (hp : 0 < ps.length := by decide) (hk : k ≤ k' := by decide) (hg : Gl X x := by rfl) (hall : (backToKw pos (keywordEach kws X.env)).all (·.1.isSome) = true := by rfl) (hks : (backToKw pos (keywordEach kws X.env)).filterMap (·.1) = ks := by rfl) (hdb : (x == ("__debug__" : Str)) = false := by decide)
    (he : starEach (e :: es) X.env = (false, eval e X.env) :: starEach es X.env := by rfl) (hpl : ((backTo pos (starEach (e :: es) X.env)).any (·.1) || (backToKw pos (keywordEach kws X.env)).any (·.1.isNone)) = false := by rfl) : PE X (.Call (.Name x p) (e :: es) kws pos) (lE X.K (dCallK sp (kwg n pp) X0 t tk)) := by
  obtain ⟨f, fd, F, b, m, fn⟩ := C.ex
  obtain ⟨oc, od, kV, doc, pm, an, cdv, ct, osl, rfl, lk, hcd⟩ := fn.ex
  exact de_callK F (hr.mono hk) (kb_of hp fun us ws h1 h2 => kw kV doc pm an cdv ct us ws h1 h2) (putK_kwg n pp) hg m fn.kp ha hkw hall hks hdb he hpl
end
/-- a name of the module that holds a written tuple of data -/
def GT (K : PySem.W.Frag) (mg : Str → Option Value) (x : Str) (ds : List D) : Prop := ∃ a vs, mg x = some (.ref a) ∧ Wt K a vs ∧ ∀ N H S, RDs ⟨K, N⟩ H S vs ds
theorem de_gt {X : Cx} {x : Str} {ds : List D} {pos : Pos} (g : GT X.K X.mg x ds) (hg : Gl X x := by rfl) (hd : (x == ("__debug__" : Str)) = false := by decide) : PE X (.Name x pos) (lE X.K (dC (.wt ds))) := by
  obtain ⟨a, vs, m, t, r⟩ := g
  exact de_glob (v := .ref a) hg m rfl (fun N H S => .of_wt t (r N H S)) hd
end DL

/-! Data layer, tenth part: small data; words for readings. -/
namespace DL
open PySem L2 PyProof.Rows

/-! ### small data: depth, weight, short ints -/
/-- data of that depth and weight, to be shown and compared -/
structure Sm (k w : Nat) (d : D) : Prop where
  p : pur d = true
  l : (toPy d).canLay0 = true
  s : (toPy d).showable = true
  i : (toPy d).intsShort 13 = true
  k : (toPy d).depth ≤ k
  w : (toPy d).weight ≤ w
  h : (toPy d).hasDict = false
structure Sms (k n w : Nat) (ds : List D) : Prop where
  p : purs ds = true
  l : PyData.canLayAll0 (toPys ds) = true
  s : PyData.showableAll (toPys ds) = true
  i : PyData.intsShortAll 13 (toPys ds) = true
  k : PyData.depthAll (toPys ds) ≤ k
  w : PyData.weightAll (toPys ds) ≤ n * (w + 1)
  h : PyData.hasDictAll (toPys ds) = false
theorem Sm.mono {k w k' w' : Nat} {d : D} (h : Sm k w d) (a : k ≤ k') (b : w ≤ w') : Sm k' w' d := ⟨h.p, h.l, h.s, h.i, Nat.le_trans h.k a, Nat.le_trans h.w b, h.h⟩
theorem Sms.of {k w : Nat} : ∀ {ds : List D}, (∀ d ∈ ds, Sm k w d) → Sms k ds.length w ds
  | [], _ => ⟨by unfold purs; rfl, by simp [toPys, PyData.canLayAll0], by simp [toPys, PyData.showableAll], by simp [toPys, PyData.intsShortAll], by simp [toPys, PyData.depthAll], by simp [toPys, PyData.weightAll], by simp [toPys, PyData.hasDictAll]⟩
  | d :: ds, h => by
    have a := h d List.mem_cons_self
    have b := Sms.of (ds := ds) fun x hx => h x (List.mem_cons_of_mem _ hx)
    refine ⟨by unfold purs; rw [a.p, b.p]; rfl, ?_, ?_, ?_, ?_, ?_, ?_⟩
    · unfold toPys; simp [PyData.canLayAll0, a.l, b.l]
    · unfold toPys; simp [PyData.showableAll, a.s, b.s]
    · unfold toPys; simp [PyData.intsShortAll, a.i, b.i]
    · unfold toPys; simp only [PyData.depthAll]; have := a.k; have := b.k; omega
    · unfold toPys; simp only [PyData.weightAll, List.length_cons]; have := a.w; have := b.w; rw [Nat.add_mul]; omega
    · unfold toPys; simp [PyData.hasDictAll, a.h, b.h]
theorem Sm.tup {k w n : Nat} {ds : List D} (h : ∀ d ∈ ds, Sm k w d) (hn : ds.length ≤ n) : Sm (k + 1) (n * (w + 1)) (.tup ds) := by
  have b := Sms.of h
  have hw : ds.length * (w + 1) ≤ n * (w + 1) := Nat.mul_le_mul_right _ hn
  refine ⟨by unfold pur; exact b.p, ?_, ?_, ?_, ?_, ?_, ?_⟩ <;> unfold toPy
  · simp only [PyData.canLay0]; exact b.l
  · simp only [PyData.showable]; exact b.s
  · simp only [PyData.intsShort]; exact b.i
  · simp only [PyData.depth]; have := b.k; omega
  · simp only [PyData.weight]; have := b.w; omega
  · simp only [PyData.hasDict]; exact b.h
theorem Sm.fl {k w n : Nat} {ds : List D} (h : ∀ d ∈ ds, Sm k w d) (hn : ds.length ≤ n) : Sm (k + 1) (n * (w + 1)) (.fl ds) := by
  have b := Sms.of h
  have hw : ds.length * (w + 1) ≤ n * (w + 1) := Nat.mul_le_mul_right _ hn
  refine ⟨by unfold pur; exact b.p, ?_, ?_, ?_, ?_, ?_, ?_⟩ <;> unfold toPy
  · simp only [PyData.canLay0]; exact b.l
  · simp only [PyData.showable]; exact b.s
  · simp only [PyData.intsShort]; exact b.i
  · simp only [PyData.depth]; have := b.k; omega
  · simp only [PyData.weight]; have := b.w; omega
  · simp only [PyData.hasDict]; exact b.h
theorem Sm.wt {k w n : Nat} {ds : List D} (h : ∀ d ∈ ds, Sm k w d) (hn : ds.length ≤ n) : Sm (k + 1) (n * (w + 1)) (.wt ds) := by
  have b := Sms.of h
  have hw : ds.length * (w + 1) ≤ n * (w + 1) := Nat.mul_le_mul_right _ hn
  refine ⟨by unfold pur; exact b.p, ?_, ?_, ?_, ?_, ?_, ?_⟩ <;> unfold toPy
  · simp only [PyData.canLay0]; exact b.l
  · simp only [PyData.showable]; exact b.s
  · simp only [PyData.intsShort]; exact b.i
  · simp only [PyData.depth]; have := b.k; omega
  · simp only [PyData.weight]; have := b.w; omega
  · simp only [PyData.hasDict]; exact b.h
theorem Sm.non {k w : Nat} : Sm k w .non := ⟨by unfold pur; rfl, by unfold toPy; rfl, by unfold toPy; rfl, by unfold toPy; rfl, by unfold toPy; exact Nat.zero_le _, by unfold toPy; exact Nat.zero_le _, by unfold toPy; rfl⟩
theorem Sm.bl {k w : Nat} {b : Bool} : Sm k w (.bl b) := ⟨by unfold pur; rfl, by unfold toPy; rfl, by unfold toPy; rfl, by unfold toPy; rfl, by unfold toPy; exact Nat.zero_le _, by unfold toPy; exact Nat.zero_le _, by unfold toPy; rfl⟩
theorem log2_12 {i : Int} (h : i.natAbs < 10 ^ 12) : i.natAbs.log2 < 40 := by
  by_cases z : i.natAbs = 0
  · rw [z]; decide
  · rw [Nat.log2_lt z]; omega
theorem Sm.int {k w : Nat} {i : Int} (h : i.natAbs < 10 ^ 12) (hw : 40 ≤ w) : Sm k w (.int i) := by
  have h1 := log2_12 h
  refine ⟨by unfold pur; rfl, by unfold toPy; rfl, ?_, ?_, by unfold toPy; exact Nat.zero_le _, ?_, by unfold toPy; rfl⟩ <;> unfold toPy
  · simp only [PyData.showable]; exact decide_eq_true (by omega)
  · simp only [PyData.intsShort]; exact decide_eq_true (PyData.shown_int_le h)
  · simp only [PyData.weight]
    split
    · exact Nat.zero_le _
    · omega
theorem Sm.str {k w : Nat} {x : Str} (h : PyData.strOk x = true) (hl : x.length ≤ w) : Sm k w (.str x) := by
  refine ⟨by unfold pur; rfl, ?_, by unfold toPy; rfl, by unfold toPy; rfl, by unfold toPy; exact Nat.zero_le _, ?_, by unfold toPy; rfl⟩ <;> unfold toPy
  · exact h
  · exact hl
theorem Sm.shaped {k w : Nat} {d : D} (h : Sm k w d) (hk : k ≤ 64 := by decide) : cmpOk d = true := by
  unfold cmpOk
  show (pur d && ((toPy d).canLay0 && decide ((toPy d).depth ≤ 64))) = true
  rw [h.p, h.l, decide_eq_true (Nat.le_trans h.k hk)]
  rfl
theorem Sm.shows {k w : Nat} {d : D} (h : Sm k w d) (hk : k ≤ 64 := by decide) (hw : w ≤ 2 ^ 20 := by decide) : shOk (toPy d) := by
  refine ⟨h.s, Nat.le_trans h.k hk, PyData.shown_fits_of_layable0 (B := 13) (by decide) (by decide) ?_ h.i, h.h⟩
  show ((toPy d).canLay0 && decide ((toPy d).depth ≤ 64) && decide ((toPy d).weight ≤ 2 ^ 20)) = true
  rw [h.l, decide_eq_true (Nat.le_trans h.k hk), decide_eq_true (Nat.le_trans h.w hw)]
  rfl
/-- data that may not change is itself, whatever the store -/
theorem rsv_pur {S : Sto} {d : D} (h : pur d = true) : rsv S d = d := by
  unfold rsv
  split
  · unfold pur at h; cases h
  · rfl

/-! ### words for readings -/
theorem at_n {α : Type} {xs : List α} {i : Nat} {x : α} (h : xs[i]? = some x) : atI xs (i : Int) = some x := by
  obtain ⟨hi, _⟩ := List.getElem?_eq_some_iff.mp h
  unfold atI ixN
  rw [if_pos (by omega), if_pos (by omega)]
  simpa using h
theorem at_0 {α : Type} {x : α} {xs : List α} : atI (x :: xs) 0 = some x := at_n (i := 0) rfl
theorem at_z {α : Type} {xs : List α} {x : α} : atI (xs ++ [x]) (-1) = some x := by
  have hl : (xs ++ [x]).length = xs.length + 1 := by simp
  unfold atI ixN
  rw [hl, if_neg (by omega), if_pos (by omega)]
  have e : ((-1 : Int) + ((xs.length + 1 : Nat) : Int)).toNat = xs.length := by omega
  rw [e, Option.bind_some]
  simp
theorem ix_sq {x y : D} {S : Sto} {Q : KD} {xs : List D} {i : Int} {d : D} (hy : y = .int i) (h : sqOf S x = some xs) (e : atI xs i = some d) (q : Q d S) : ixD x y S Q := .inl ⟨xs, i, d, hy, h, e, q⟩
theorem ix_tx {z : Str} {i : Int} {c : Nat} {S : Sto} {Q : KD} (hz : z.length ≤ sizeLine) (e : atI z.cps.toList i = some c) (q : Q (.str ⟨#[c]⟩) S) : ixD (.str z) (.int i) S Q := .inr (.inl ⟨z, i, c, rfl, rfl, hz, e, q⟩)
theorem ix_at {x y : D} {S : Sto} {Q : KD} {d : D} (h : atD S y x = some (some d)) (q : Q d S) : ixD x y S Q := .inr (.inr ⟨d, h, q⟩)
/-- a test that stands -/
theorem b_of {c : Bool} {S : Sto} {Q : Bool → Sto → Prop} (q : Q c S) : ∃ d, D.bl c = .bl d ∧ Q d S := ⟨c, rfl, q⟩
theorem eq_of {neg : Bool} {x y : D} {S : Sto} {Q : KD} {k w k' w' : Nat} (hx : Sm k w x) (hy : Sm k' w' y) (hk : k ≤ 64) (hk' : k' ≤ 64) (q : Q (.bl (xor neg (PyData.eqv (toPy x) (toPy y)))) S) (hn : ∀ u, x ≠ .at u) : eqD neg x y S Q := by
  unfold eqD
  split
  all_goals first
    | exact absurd rfl (hn _)
    | skip
  rw [rsv_pur hx.p, rsv_pur hy.p]
  exact ⟨hx.shaped hk, hy.shaped hk', q⟩
theorem in_of {neg : Bool} {x y : D} {S : Sto} {Q : KD} {ys : List D} {k w k' w' : Nat} (hx : Sm k w x) (h : sqOf S y = some ys) (hy : ∀ d ∈ ys, Sm k' w' d) (hk : k ≤ 64) (hk' : k' ≤ 63) (hn : ∀ z, y ≠ .str z) (q : Q (.bl (xor neg (ys.any fun z => PyData.eqv (toPy z) (toPy x)))) S) : inD neg x y S Q := by
  unfold inD
  split
  · exact absurd rfl (hn _)
  · exact .inl ⟨ys, h, hx.shaped hk, (Sm.tup hy (Nat.le_refl _)).shaped (by omega), (Sm.fl hy (Nat.le_refl _)).shaped (by omega), q⟩
theorem in_at {neg : Bool} {x y : D} {S : Sto} {Q : KD} {o : Option D} (h : atD S x y = some o) (q : Q (.bl (xor neg o.isSome)) S) : inD neg x y S Q := by
  unfold inD
  split
  · unfold atD at h; cases h
  · exact .inr ⟨o, h, q⟩
theorem any_str (ys : List Str) (x : Str) : ((ys.map D.str).any fun z => PyData.eqv (toPy z) (toPy (.str x))) = decide (x ∈ ys) := by
  induction ys with
  | nil => rfl
  | cons y ys ih =>
    rw [List.map_cons, List.any_cons, ih]
    unfold toPy
    simp only [PyData.eqv, List.mem_cons]
    by_cases h : x = y
    · subst h; simp
    · have h' : (y == x) = false := beq_eq_false_iff_ne.mpr fun z => h z.symm
      simp [h, h']
theorem any_int (ys : List Int) (x : Int) : ((ys.map D.int).any fun z => PyData.eqv (toPy z) (toPy (.int x))) = decide (x ∈ ys) := by
  induction ys with
  | nil => rfl
  | cons y ys ih =>
    rw [List.map_cons, List.any_cons, ih]
    unfold toPy
    simp only [PyData.eqv, List.mem_cons]
    by_cases h : x = y
    · subst h; simp
    · have h' : (y == x) = false := beq_eq_false_iff_ne.mpr fun z => h z.symm
      simp [h, h']
theorem len_sq {x : D} {S : Sto} {Q : KD} {xs : List D} (h : sqOf S x = some xs) (q : Q (.int xs.length) S) : lenD [x] S Q := by
  refine ⟨x, rfl, ?_⟩
  split
  · unfold sqOf lsOf at h; cases h
  · exact .inl ⟨xs, h, q⟩
/-- what is not there is there in no smaller store -/
theorem up_non {S : Sto} {p q : Addr} {o : MO} (h : up S p o q = none) : q ≠ p ∧ S q = none := by
  by_cases e : q = p
  · subst e; rw [up_same] at h; cases h
  · rw [up_ne e] at h; exact ⟨e, h⟩
/-! a way is chosen -/
theorem brT {c : Bool} {A B : Prop} (h : c = true) (a : A) : if c = true then A else B := by rw [if_pos h]; exact a
theorem brF {c : Bool} {A B : Prop} (h : c = false) (b : B) : if c = true then A else B := by rw [if_neg (by rw [h]; exact Bool.false_ne_true)]; exact b
theorem br2 {c : Bool} {A B : Prop} (a : c = true → A) (b : c = false → B) : if c = true then A else B := by
  cases h : c with
  | true => exact brT rfl (a h)
  | false => exact brF rfl (b h)
theorem xt {p : Prop} [Decidable p] (h : p) : xor false (decide p) = true := by simp [h]
theorem xf {p : Prop} [Decidable p] (h : ¬ p) : xor false (decide p) = false := by simp [h]
theorem nxt {p : Prop} [Decidable p] (h : ¬ p) : xor true (decide p) = true := by simp [h]
theorem nxf {p : Prop} [Decidable p] (h : p) : xor true (decide p) = false := by simp [h]
theorem of_xt {p : Prop} [Decidable p] (h : xor false (decide p) = true) : p := by simpa using h
theorem of_xf {p : Prop} [Decidable p] (h : xor false (decide p) = false) : ¬ p := by simpa using h
theorem of_nxt {p : Prop} [Decidable p] (h : xor true (decide p) = true) : ¬ p := by simpa using h
theorem of_nxf {p : Prop} [Decidable p] (h : xor true (decide p) = false) : p := by simpa using h
/-- a value is handed out -/
theorem rt_of {d : D} {S : Sto} {Q : KD} (q : Q d S) : ∃ d1 S1, VW d S d1 S1 ∧ Q d1 S1 := ⟨d, S, .refl d S, q⟩
theorem rt_sub {d : D} {S S1 : Sto} {Q : KD} (h : Sub S1 S) (q : Q d S1) : ∃ d1 S1, VW d S d1 S1 ∧ Q d1 S1 := ⟨d, S1, .sub h, q⟩
theorem ofS {a b : String} (h : a ≠ b) : ¬ (Str.ofString a = Str.ofString b) := fun e => h (ofString_inj.mp e)
/-! a list made of items that stand -/
theorem lc_seq {ds : List D} {S1 : Sto} {Q : List D → Sto → Prop} {B : (Nat → List D → Sto → Prop) → Nat → List D → D → Sto → Prop} (Pv : Nat → List D → Sto → Prop) (h0 : Pv 0 [] S1)
    (hs : ∀ i x acc S, ds[i]? = some x → Pv i acc S → acc.length < sizeLine ∧ B Pv i acc x S) (hd : ∀ i acc S, ds.length ≤ i → Pv i acc S → Q acc S) :
    ∃ (W : Nat → List D → Sto → Prop) (n : Nat), W 0 [] S1 ∧ ∀ i acc S2, W i acc S2 → ∃ r, seqI ds i S2 = some r ∧ (r = none → Q acc S2) ∧ ∀ x, r = some x → i < n ∧ acc.length < sizeLine ∧ B W i acc x S2 :=
  ⟨Pv, ds.length, h0, fun i acc S p => ⟨ds[i]?, rfl, fun e => hd i acc S (List.getElem?_eq_none_iff.mp e) p, fun x e => ⟨(List.getElem?_eq_some_iff.mp e).1, hs i x acc S e p⟩⟩⟩
theorem lc_rng {lo : Int} {n : Nat} {S1 : Sto} {Q : List D → Sto → Prop} {B : (Nat → List D → Sto → Prop) → Nat → List D → D → Sto → Prop} (Pv : Nat → List D → Sto → Prop) (h0 : Pv 0 [] S1)
    (hs : ∀ i acc S, i < n → Pv i acc S → acc.length < sizeLine ∧ B Pv i acc (.int (lo + i)) S) (hd : ∀ i acc S, n ≤ i → Pv i acc S → Q acc S) :
    ∃ (W : Nat → List D → Sto → Prop) (m : Nat), W 0 [] S1 ∧ ∀ i acc S2, W i acc S2 → ∃ r, rangeI lo n i S2 = some r ∧ (r = none → Q acc S2) ∧ ∀ x, r = some x → i < m ∧ acc.length < sizeLine ∧ B W i acc x S2 := by
  refine ⟨Pv, n, h0, fun i acc S p => ?_⟩
  unfold rangeI
  by_cases h : i < n
  · rw [if_pos h]
    exact ⟨_, rfl, (fun e => nomatch e), fun x e => by cases e; exact ⟨h, hs i acc S h p⟩⟩
  · rw [if_neg h]
    exact ⟨_, rfl, (fun _ => hd i acc S (by omega) p), fun x e => nomatch e⟩
theorem tk1 {α : Type} {l : List α} {i : Nat} {x : α} (h : l[i]? = some x) : l.take (i + 1) = l.take i ++ [x] := by
  rw [List.take_succ, h]; rfl
theorem map_at {α β : Type} {f : α → β} {l : List α} {i : Nat} {y : β} (h : (l.map f)[i]? = some y) : ∃ x, l[i]? = some x ∧ y = f x := by
  rw [List.getElem?_map] at h
  obtain ⟨x, h1, h2⟩ := Option.map_eq_some_iff.mp h
  exact ⟨x, h1, h2.symm⟩
/-! a loop over items that stand -/
theorem fr_seq {ds : List D} {δ0 : DSt} {S0 : Sto} {Nx : DSt → Sto → Prop} {B : (Nat → DSt → Sto → Prop) → Nat → D → DSt → Sto → Prop} (Pv : Nat → DSt → Sto → Prop) (h0 : Pv 0 δ0 S0)
    (hs : ∀ i x δ S, ds[i]? = some x → Pv i δ S → B Pv i x δ S) (hd : ∀ i δ S, ds.length ≤ i → Pv i δ S → Nx δ S) :
    ∃ (W : Nat → DSt → Sto → Prop) (n : Nat), W 0 δ0 S0 ∧ ∀ i δ S, W i δ S → ∃ r, seqI ds i S = some r ∧ (r = none → Nx δ S) ∧ ∀ x, r = some x → i < n ∧ B W i x δ S :=
  ⟨Pv, ds.length, h0, fun i δ S p => ⟨ds[i]?, rfl, fun e => hd i δ S (List.getElem?_eq_none_iff.mp e) p, fun x e => ⟨(List.getElem?_eq_some_iff.mp e).1, hs i x δ S e p⟩⟩⟩
/-- a loop over any walk of n items -/
theorem fr_of {J : ItD} {δ0 : DSt} {S0 : Sto} {Nx : DSt → Sto → Prop} {B : (Nat → DSt → Sto → Prop) → Nat → D → DSt → Sto → Prop} (n : Nat) (Pv : Nat → DSt → Sto → Prop) (h0 : Pv 0 δ0 S0)
    (hs : ∀ i δ S, i < n → Pv i δ S → ∃ x, J i S = some (some x) ∧ B Pv i x δ S) (hd : ∀ i δ S, n ≤ i → Pv i δ S → J i S = some none ∧ Nx δ S) :
    ∃ (W : Nat → DSt → Sto → Prop) (m : Nat), W 0 δ0 S0 ∧ ∀ i δ S, W i δ S → ∃ r, J i S = some r ∧ (r = none → Nx δ S) ∧ ∀ x, r = some x → i < m ∧ B W i x δ S := by
  refine ⟨Pv, n, h0, fun i δ S p => ?_⟩
  by_cases h : i < n
  · obtain ⟨x, e, b⟩ := hs i δ S h p
    exact ⟨some x, e, (fun z => nomatch z), fun y z => by cases z; exact ⟨h, b⟩⟩
  · obtain ⟨e, q⟩ := hd i δ S (by omega) p
    exact ⟨none, e, fun _ => q, fun y z => nomatch z⟩
theorem fr_rng {lo : Int} {n : Nat} {δ0 : DSt} {S0 : Sto} {Nx : DSt → Sto → Prop} {B : (Nat → DSt → Sto → Prop) → Nat → D → DSt → Sto → Prop} (Pv : Nat → DSt → Sto → Prop) (h0 : Pv 0 δ0 S0)
    (hs : ∀ i δ S, i < n → Pv i δ S → B Pv i (.int (lo + i)) δ S) (hd : ∀ i δ S, n ≤ i → Pv i δ S → Nx δ S) :
    ∃ (W : Nat → DSt → Sto → Prop) (m : Nat), W 0 δ0 S0 ∧ ∀ i δ S, W i δ S → ∃ r, rangeI lo n i S = some r ∧ (r = none → Nx δ S) ∧ ∀ x, r = some x → i < m ∧ B W i x δ S :=
  fr_of n Pv h0 (fun i δ S h p => ⟨_, by unfold rangeI; rw [if_pos h], hs i δ S h p⟩) fun i δ S h p => ⟨by unfold rangeI; rw [if_neg (by omega)], hd i δ S h p⟩
theorem fr_rngC {lo c : Int} {n : Nat} {δ0 : DSt} {S0 : Sto} {Nx : DSt → Sto → Prop} {B : (Nat → DSt → Sto → Prop) → Nat → D → DSt → Sto → Prop} (Pv : Nat → DSt → Sto → Prop) (h0 : Pv 0 δ0 S0)
    (hs : ∀ i δ S, i < n → Pv i δ S → B Pv i (.int (lo + (i : Nat) * c)) δ S) (hd : ∀ i δ S, n ≤ i → Pv i δ S → Nx δ S) :
    ∃ (W : Nat → DSt → Sto → Prop) (m : Nat), W 0 δ0 S0 ∧ ∀ i δ S, W i δ S → ∃ r, rangeCI lo c n i S = some r ∧ (r = none → Nx δ S) ∧ ∀ x, r = some x → i < m ∧ B W i x δ S :=
  fr_of n Pv h0 (fun i δ S h p => ⟨_, by unfold rangeCI; rw [if_pos h], hs i δ S h p⟩) fun i δ S h p => ⟨by unfold rangeCI; rw [if_neg (by omega)], hd i δ S h p⟩
/-! what is left to be found -/
section
variable {α : Type} [DecidableEq α]
def unk (l ks : List α) : Nat := (l.filter fun x => !decide (x ∈ ks)).length
theorem unk_le (l : List α) {ks ks' : List α} (h : ∀ x, x ∈ ks → x ∈ ks') : unk l ks' ≤ unk l ks := by
  induction l with
  | nil => exact Nat.le_refl _
  | cons y l ih =>
    unfold unk at ih ⊢
    by_cases h1 : y ∈ ks
    · have h2 := h y h1
      simp only [List.filter_cons, h1, h2, decide_true, Bool.not_true, Bool.false_eq_true, if_false]
      exact ih
    · by_cases h2 : y ∈ ks'
      · simp only [List.filter_cons, h1, h2, decide_true, decide_false, Bool.not_true, Bool.not_false, Bool.false_eq_true, if_false, if_true, List.length_cons]
        omega
      · simp only [List.filter_cons, h1, h2, decide_false, Bool.not_false, if_true, List.length_cons]
        omega
theorem unk_lt {l ks : List α} {x : α} (hx : x ∈ l) (hn : x ∉ ks) : unk l (ks ++ [x]) < unk l ks := by
  induction l with
  | nil => cases hx
  | cons y l ih =>
    have le := unk_le l (ks := ks) (ks' := ks ++ [x]) fun z hz => List.mem_append_left _ hz
    unfold unk at ih le ⊢
    by_cases e : x = y
    · subst e
      have h2 : x ∈ ks ++ [x] := by simp
      simp only [List.filter_cons, hn, h2, decide_true, decide_false, Bool.not_true, Bool.not_false, Bool.false_eq_true, if_false, if_true, List.length_cons]
      omega
    · have ih := ih ((List.mem_cons.mp hx).resolve_left e)
      by_cases h1 : y ∈ ks
      · have h2 : y ∈ ks ++ [x] := List.mem_append_left _ h1
        simp only [List.filter_cons, h1, h2, decide_true, Bool.not_true, Bool.false_eq_true, if_false]
        exact ih
      · have h2 : y ∉ ks ++ [x] := fun z => (List.mem_append.mp z).elim h1 fun z => e (List.mem_singleton.mp z).symm
        simp only [List.filter_cons, h1, h2, decide_false, Bool.not_false, if_true, List.length_cons]
        omega
theorem unk_nil (l : List α) : unk l [] = l.length := by
  unfold unk
  rw [List.filter_eq_self.mpr (by simp)]
end
theorem len_dt {p : Addr} {S : Sto} {Q : KD} {kvs : List (List Key × D)} (h : S p = some (.dt kvs)) (q : Q (.int kvs.length) S) : lenD [.ref p] S Q := ⟨_, rfl, .inr (.inr ⟨p, kvs, rfl, h, q⟩)⟩
theorem len_dk {p : Addr} {S : Sto} {Q : KD} {kvs : List (Key × D)} (h : S p = some (.dk kvs)) (q : Q (.int kvs.length) S) : lenD [.ref p] S Q := ⟨_, rfl, .inr (.inl ⟨p, kvs, rfl, h, q⟩)⟩
/-! a place where ways meet: J is what holds there -/
def dCut (t u : TDS) : TDS := fun D δ S => ∃ J : DSt → Sto → Prop, t { D with nx := J } δ S ∧ ∀ δ' S', J δ' S' → u D δ' S'
theorem dss_cut {X : Cx} {st : Stmt} {rest : List Stmt} {t u : TDS} (h1 : PS X st (lS X.K t)) (h2 : PSs X rest (lS X.K u)) : PSs X (st :: rest) (lS X.K (dCut t u)) :=
  PSs.wk (pss_cons h1 h2) fun D σ H ⟨N, δ, S, D', re, rs, ⟨J, q, g⟩, l⟩ => by
    refine ⟨N, δ, S, _, re, rs, q, fun δ' S' σ' H' b r q' => ?_, l.rt, l.bk, l.ct⟩
    exact ⟨N, δ', S', D', r, b.rs, g δ' S' q', l.from b⟩
def dTcut (t : TDT) : TDT := fun δ S Q => ∃ J : Bool → Sto → Prop, t δ S J ∧ ∀ b S', J b S' → Q b S'
theorem dt_cut {X : Cx} {e : Expr} {t : TDT} (h : PT X e (lT X.K t)) : PT X e (lT X.K (dTcut t)) :=
  PT.wk h fun σ H Q ⟨N, δ, S, Q', re, rs, ⟨J, q, g⟩, k⟩ => ⟨N, δ, S, J, re, rs, q, fun b S' H' bb j => k b S' H' bb (g b S' j)⟩
theorem it_of {C : Int → Int → Prop} {g : Int → Int → V} {i j : Int} {S : Sto} {Q : KD} (h : C i j) (q : Q (.at (g i j)) S) : intD C g (.int i) (.int j) S Q := ⟨h, q⟩
theorem cmul1 {i j : Int} (h1 : -(2 ^ 63) < i) (h2 : i < 2 ^ 63) : CMul i j := .inl ⟨by omega, by omega⟩
theorem cmul2 {i j : Int} (h1 : -(2 ^ 63) < j) (h2 : j < 2 ^ 63) : CMul i j := .inr ⟨by omega, by omega⟩
theorem ixN_nat {n i : Nat} (h : i < n) : ixN n (i : Int) = some i := by
  unfold ixN
  rw [if_pos (by omega), if_pos (by omega)]
  simp
theorem set_l {p : Addr} {S : Sto} {Q : Sto → Prop} {xs : List D} {i : Int} {j : Nat} {v : D} (h : S p = some (.lst xs)) (hj : ixN xs.length i = some j) (q : Q (up S p (.lst (xs.set j v)))) : setD (.ref p) (.int i) v S Q := ⟨p, rfl, .inl ⟨xs, i, j, h, rfl, hj, q⟩⟩
theorem sq_l {S : Sto} {p : Addr} {xs : List D} (h : S p = some (.lst xs)) : sqOf S (.ref p) = some xs := by unfold sqOf lsOf; dsimp only; rw [h]
theorem ls_l {S : Sto} {p : Addr} {xs : List D} (h : S p = some (.lst xs)) : lsOf S (.ref p) = some xs := by unfold lsOf; dsimp only; rw [h]
theorem ty_l {S : Sto} {p : Addr} {xs : List D} (h : S p = some (.lst xs)) : tyD S (.ref p) "list" := by unfold tyD; dsimp only; rw [h]
theorem ty_dk {S : Sto} {p : Addr} {xs : List (Key × D)} (h : S p = some (.dk xs)) : tyD S (.ref p) "dict" := by unfold tyD; dsimp only; rw [h]
theorem ty_dt {S : Sto} {p : Addr} {xs : List (List Key × D)} (h : S p = some (.dt xs)) : tyD S (.ref p) "dict" := by unfold tyD; dsimp only; rw [h]
theorem rsv_l {S : Sto} {p : Addr} {xs : List D} (h : S p = some (.lst xs)) : rsv S (.ref p) = .fl xs := by unfold rsv; dsimp only; rw [h]
/-- a list of the store, against a list that stands -/
theorem eq_l {neg : Bool} {p : Addr} {xs : List D} {y : List D} {S : Sto} {Q : KD} (h : S p = some (.lst xs)) (cx : cmpOk (.fl xs) = true) (cy : cmpOk (.fl y) = true) (q : Q (.bl (xor neg (PyData.eqv (toPy (.fl xs)) (toPy (.fl y))))) S) : eqD neg (.ref p) (.fl y) S Q := by
  unfold eqD
  dsimp only
  rw [rsv_l h, show rsv S (.fl y) = .fl y from rfl]
  exact ⟨cx, cy, q⟩
theorem eqv_nil (xs : List D) : PyData.eqv (toPy (.fl xs)) (toPy (.fl [])) = xs.isEmpty := by
  cases xs with
  | nil => unfold toPy; unfold toPys; simp only [PyData.eqv, PyData.eqvAll]; rfl
  | cons x xs => unfold toPy; unfold toPys; simp only [PyData.eqv, PyData.eqvAll]; rfl
theorem cmp_ints (ns : List Int) : cmpOk (.fl (ns.map D.int)) = true := by
  have p : purs (ns.map D.int) = true := by
    rw [purs_all, List.all_map, List.all_eq_true]
    intro n _
    show pur (D.int n) = true
    unfold pur; rfl
  have c : PyData.canLayAll0 (toPys (ns.map D.int)) = true := by
    clear p
    induction ns with
    | nil => simp [toPys, PyData.canLayAll0]
    | cons n ns ih =>
      rw [List.map_cons]; unfold toPys toPy
      simp only [PyData.canLayAll0, PyData.canLay0, ih, Bool.true_and]
  have d : PyData.depthAll (toPys (ns.map D.int)) ≤ 1 := by
    clear p c
    induction ns with
    | nil => simp [toPys, PyData.depthAll]
    | cons n ns ih =>
      rw [List.map_cons]; unfold toPys toPy
      simp only [PyData.depthAll, PyData.depth]
      omega
  unfold cmpOk
  show (pur (.fl (ns.map D.int)) && ((toPy (.fl (ns.map D.int))).canLay0 && decide ((toPy (.fl (ns.map D.int))).depth ≤ 64))) = true
  have e : toPy (.fl (ns.map D.int)) = .list (toPys (ns.map D.int)) := by conv => lhs; unfold toPy
  have e2 : pur (.fl (ns.map D.int)) = true := by unfold pur; exact p
  rw [e, e2]
  have h1 : (PyData.list (toPys (ns.map D.int))).canLay0 = true := by simp only [PyData.canLay0]; exact c
  have h2 : (PyData.list (toPys (ns.map D.int))).depth ≤ 64 := by simp only [PyData.depth]; omega
  rw [h1, decide_eq_true h2]
  rfl
theorem add_i {mu : Bool} {i j : Int} {S : Sto} {Q : KD} (q : Q (.int (i + j)) S) : addD mu (.int i) (.int j) S Q := q
theorem add_s {mu : Bool} {a b : Str} {S : Sto} {Q : KD} (h : a.length + b.length ≤ sizeLine) (q : Q (.str (a ++ b)) S) : addD mu (.str a) (.str b) S Q := ⟨h, q⟩
theorem add_t {mu : Bool} {xs ys : List D} {S : Sto} {Q : KD} (h : xs.length + ys.length ≤ sizeLine) (q : Q (.tup (xs ++ ys)) S) : addD mu (.tup xs) (.tup ys) S Q := ⟨h, q⟩
/-- lists: a new one that nobody will change, or one of the store -/
theorem add_f {x y : D} {xs ys : List D} {S : Sto} {Q : KD} (hx : lsOf S x = some xs) (hy : lsOf S y = some ys) (h : xs.length + ys.length ≤ sizeLine) (q : Q (.fl (xs ++ ys)) S) : addD false x y S Q := by
  unfold addD
  split
  · unfold lsOf at hx; cases hx
  · unfold lsOf at hx; cases hx
  · unfold lsOf at hx; cases hx
  · exact ⟨xs, ys, hx, hy, h, brF rfl q⟩
theorem add_l {x y : D} {xs ys : List D} {S : Sto} {Q : KD} (hx : lsOf S x = some xs) (hy : lsOf S y = some ys) (h : xs.length + ys.length ≤ sizeLine) (q : ∀ p, S p = none → Q (.ref p) (up S p (.lst (xs ++ ys)))) : addD true x y S Q := by
  unfold addD
  split
  · unfold lsOf at hx; cases hx
  · unfold lsOf at hx; cases hx
  · unfold lsOf at hx; cases hx
  · exact ⟨xs, ys, hx, hy, h, brT rfl q⟩
theorem cut_map {α β : Type} (f : α → β) (l : List α) (i j : Nat) : ((l.map f).drop i).take j = ((l.drop i).take j).map f := by rw [← List.map_drop, ← List.map_take]
theorem cutD_map {α : Type} (f : α → D) (l : List α) (lo hi : Option Int) : ∃ l' : List α, cutD (l.map f) lo hi = l'.map f ∧ l'.length ≤ l.length ∧ ∀ x ∈ l', x ∈ l := by
  unfold cutD
  rw [cut_map]
  refine ⟨_, rfl, ?_, fun x hx => List.mem_of_mem_drop (List.mem_of_mem_take hx)⟩
  rw [List.length_take, List.length_drop]
  omega
/-! a list is walked, one of these ways -/
def iLf (te : TDE) : TDI := fun δ S R => te δ S fun x S1 => ∃ ds, x = .fl ds ∧ R (seqI ds) S1
def iLw (te : TDE) : TDI := fun δ S R => te δ S fun x S1 => ∃ a ds, x = .ref a ∧ S1 a = some (.lst ds) ∧ R (listI a) S1
theorem di_lf {X : Cx} {tg e : Expr} {te : TDE} (he : PE X e (lE X.K te)) : PI X tg e (lI X.K (iLf te)) :=
  PI.wk (pi_list he) fun σ H R ⟨N, δ, S, R', re, rs, q, kk⟩ => by
    refine ⟨N, δ, S, _, re, rs, q, fun x S1 v H1 b1 rv q1 => ?_⟩
    obtain ⟨ds, rfl, q1⟩ := q1
    obtain ⟨a, vs, rfl, fz, r⟩ := rv.fl_
    exact ⟨a, rfl, ⟨vs, fz.sq⟩, kk _ S1 _ H1 b1 (rel_fl b1.rs fz r) q1⟩
theorem di_lw {X : Cx} {tg e : Expr} {te : TDE} (he : PE X e (lE X.K te)) : PI X tg e (lI X.K (iLw te)) :=
  PI.wk (pi_list he) fun σ H R ⟨N, δ, S, R', re, rs, q, kk⟩ => by
    refine ⟨N, δ, S, _, re, rs, q, fun x S1 v H1 b1 rv q1 => ?_⟩
    obtain ⟨a, ds, rfl, e, q1⟩ := q1
    have := rv.at_
    subst this
    obtain ⟨vs, h1, h2⟩ := b1.rs.ob a _ e
    exact ⟨a, rfl, ⟨vs, .of h1⟩, kk _ S1 _ H1 b1 rel_lst q1⟩
theorem cutD_mem {x : D} {l : List D} {lo hi : Option Int} (h : x ∈ cutD l lo hi) : x ∈ l := List.mem_of_mem_drop (List.mem_of_mem_take h)
theorem cutD_len (l : List D) (lo hi : Option Int) : (cutD l lo hi).length ≤ l.length := by
  unfold cutD
  rw [List.length_take, List.length_drop]
  omega
theorem sl_f {x : D} {xs : List D} {lo hi : Option Int} {S : Sto} {Q : KD} (h : lsOf S x = some xs) (q : Q (.fl (cutD xs lo hi)) S) : sliceD false x lo hi S Q := by
  unfold sliceD
  split
  · unfold lsOf at h; cases h
  · unfold lsOf at h; cases h
  · exact ⟨xs, h, brF rfl q⟩
theorem cut_take (l : List D) (k : Nat) : cutD l none (some (k : Int)) = l.take k := by
  unfold cutD HT.sIx
  simp only [List.drop_zero]
  rw [if_neg (by omega)]
  have e : (k : Int).toNat = k := by omega
  rw [e, Nat.sub_zero]
  by_cases h : k ≤ l.length
  · rw [Nat.min_eq_left h]
  · rw [Nat.min_eq_right (by omega), List.take_of_length_le (Nat.le_refl _), List.take_of_length_le (by omega)]
/-- forgetting a thing of the store -/
theorem sub_del {S : Sto} {p : Addr} : Sub (del S p) S := fun a o e => by
  by_cases h : a = p
  · subst h; rw [del_same] at e; cases e
  · rw [del_ne h] at e; exact e
theorem app_of {p : Addr} {xs : List D} {y : D} {S : Sto} {Q : KD} (h : S p = some (.lst xs)) (hl : xs.length < sizeLine) (q : Q .non (up S p (.lst (xs ++ [y])))) : appD (.ref p) [y] S Q := ⟨p, xs, y, rfl, rfl, h, hl, q⟩
theorem tpl_l {x : D} {xs : List D} {S : Sto} {Q : KD} (h : lsOf S x = some xs) (q : Q (.tup xs) S) : tplD [x] S Q := by
  refine ⟨x, rfl, ?_⟩
  split
  · unfold lsOf at h; cases h
  · exact ⟨xs, h, q⟩
theorem enum_fl {xs : List D} {i : Nat} {S : Sto} : enumI (.fl xs) i S = some (xs[i]?.map fun d => .tup [.int (i : Nat), d]) := rfl
theorem tru_b {b : Bool} {S : Sto} {Q : Bool → Sto → Prop} (q : Q b S) : truD (.bl b) S Q := q
end DL

/-! Data layer, eleventh part: texts that are walked; zip of any two. -/
namespace DL
open PySem L2 PyProof.Rows

/-! ### what zip draws from -/
inductive Sd where
  | li (a : Addr)
  | tu (a : Addr)
  | st (x : Str)
def Sd.v : Sd → V
  | .li a => .ref a
  | .tu a => .ref a
  | .st x => .str x
def signsV (x : Str) : List V := x.cps.toList.map fun c => .str ⟨#[c]⟩
def Sd.Has (K : PySem.W.Frag) (H : Hp) : Sd → List V → Prop
  | .li a, xs => SqL K H a xs
  | .tu a, xs => SqT K H a xs
  | .st x, xs => xs = signsV x
def Sd.At (h : Heap) (it i : Nat) : Sd → Prop
  | .li a => h.IsListIter it a i
  | .tu a => h.IsTupleIter it a i
  | .st x => ∃ t, h.IsStrIter it (strIterType x) x t i
def Sd.Old (n : Nat) : Sd → Prop
  | .li a => a < n
  | .tu a => a < n
  | .st _ => True
theorem Sd.At.keep {h h' : Heap} {it i : Nat} : ∀ {d : Sd}, d.At h it i → (∀ o, h.get? it = some o → h'.get? it = some o) → d.At h' it i
  | .li a, s, k => Heap.IsListIter.at (show h.IsListIter it a i from s) k
  | .tu a, s, k => Heap.IsTupleIter.at (show h.IsTupleIter it a i from s) k
  | .st x, ⟨t, o, e, r⟩, k => ⟨t, o, k o e, r⟩
theorem Sd.At.obj {h : Heap} {it i : Nat} : ∀ {d : Sd}, d.At h it i → ∃ o, h.get? it = some o ∧ ∀ v, o.data ≠ .cell v
  | .li a, ⟨o, e, _, dd⟩ => ⟨o, e, fun v q => by rw [dd] at q; cases q⟩
  | .tu a, ⟨o, e, _, dd⟩ => ⟨o, e, fun v q => by rw [dd] at q; cases q⟩
  | .st x, ⟨t, o, e, _, dd⟩ => ⟨o, e, fun v q => by rw [dd] at q; cases q⟩
section
variable {X : Cx} {pins : List (Addr × Obj)} {σ : L2.St} {H : Hp} {s : Shared} {xs : List V}
/-- a side of zip at a turn -/
theorem Sd.draws (I : Inv X pins σ H s) (hh : X.A.handled = none) (n it i : Nat) (hn : n ≤ it) : ∀ (d : Sd), d.Old n → d.At s.heap it i → d.Has X.K H xs → ∃ (fp : List Addr) (m : Nat) (P : Nat → Value → Prop) (St : Nat → Heap → Prop),
    Draws X.prog X.w X.A.in1 it fp m P St ∧ St i s.heap ∧ m = xs.length ∧ it ∈ fp ∧ (∀ b : Nat, b ∈ fp → b = it ∨ b < n) ∧ (∀ v x, P i v → xs[i]? = some x → RelV x v) ∧ ∀ h', St (i + 1) h' → d.At h' it (i + 1)
  | .li a, o, q0, has => by
    have o' : (a : Nat) < n := o
    obtain ⟨its, rv, p, _⟩ := I.list has
    refine ⟨_, _, _, _, Draws.list (A := X.A.in1) hh it a (Nat.ne_of_lt (Nat.lt_of_lt_of_le o hn)) its.toArray, ⟨q0, p.isList⟩, by rw [List.size_toArray, ← rv.length], by simp, fun b hb => ?_, fun v x hv hx => ?_, fun h' z => z.1⟩
    · simp only [List.mem_cons, List.not_mem_nil, or_false] at hb
      rcases hb with rfl | rfl
      · exact .inl rfl
      · exact .inr o'
    · obtain ⟨u, hu, ru⟩ := rv.get hx
      have hv' : its[i]? = some v := by simpa using hv
      rw [hu] at hv'
      cases hv'
      exact ru
  | .tu a, o, q0, has => by
    have o' : (a : Nat) < n := o
    obtain ⟨its, rv, p, _⟩ := I.tuple has
    refine ⟨_, _, _, _, Draws.tuple (A := X.A.in1) hh it a (Nat.ne_of_lt (Nat.lt_of_lt_of_le o hn)) its.toArray, ⟨q0, p⟩, by rw [List.size_toArray, ← rv.length], by simp, fun b hb => ?_, fun v x hv hx => ?_, fun h' z => z.1⟩
    · simp only [List.mem_cons, List.not_mem_nil, or_false] at hb
      rcases hb with rfl | rfl
      · exact .inl rfl
      · exact .inr o'
    · obtain ⟨u, hu, ru⟩ := rv.get hx
      have hv' : its[i]? = some v := by simpa using hv
      rw [hu] at hv'
      cases hv'
      exact ru
  | .st y, o, ⟨t, q0⟩, has => by
    have e : xs = signsV y := has
    subst e
    refine ⟨_, _, _, _, Draws.text (A := X.A.in1) hh it y t, q0, by unfold signsV; rw [List.length_map, Array.length_toList], by simp, fun b hb => .inl (List.mem_singleton.mp hb), fun v x hv hx => ?_, fun h' z => ⟨t, z⟩⟩
    obtain ⟨c, u, hc, rfl⟩ := hv
    unfold signsV at hx
    rw [List.getElem?_map, Array.getElem?_toList, hc] at hx
    cases hx
    exact ⟨u, rfl⟩
end
/-- both sides as they stand at each turn, the items in new pairs -/
def Izm (K : PySem.W.Frag) (d1 d2 : Sd) : It :=
  ⟨fun i H => ∃ (xs ys : List V) (x y : V), d1.Has K H xs ∧ d2.Has K H ys ∧ xs[i]? = some x ∧ ys[i]? = some y,
    fun i H v H' => ∃ T x y, v = .ref T ∧ H T = none ∧ H' = upd H T (.tup [x, y]) ∧ (∀ xs, d1.Has K H xs → xs[i]? = some x) ∧ ∀ ys, d2.Has K H ys → ys[i]? = some y,
    fun i H => ∃ xs ys : List V, d1.Has K H xs ∧ d2.Has K H ys ∧ i ≤ xs.length ∧ i ≤ ys.length ∧ (i = xs.length ∨ i = ys.length)⟩
theorem Sd.inj {X : Cx} {pins : List (Addr × Obj)} {σ : L2.St} {H : Hp} {s : Shared} {xs ys : List V} (I : Inv X pins σ H s) : ∀ {d : Sd}, d.Has X.K H xs → d.Has X.K H ys → xs = ys
  | .li a, h, h' => I.list_inj h h'
  | .tu a, h, h' => I.tuple_inj h h'
  | .st x, h, h' => (show xs = signsV x from h).trans (show ys = signsV x from h').symm
theorem sep_of (n : Nat) {fp1 fp2 : List Addr} (mem1 : n ∈ fp1) (sub1 : ∀ b : Nat, b ∈ fp1 → b = n ∨ b < n) (mem2 : n + 1 ∈ fp2) (sub2 : ∀ b : Nat, b ∈ fp2 → b = n + 1 ∨ b < n) : ZipSep2 (n + 4) (n + 2) (n + 3) n (n + 1) fp1 fp2 :=
  ⟨show n + 2 ≠ n + 4 by omega, show n + 3 ≠ n + 4 by omega, show n + 2 ≠ n + 3 by omega, show n + 2 ≠ n by omega, mem1, fun z => by rcases sub1 _ z with q | q <;> omega, fun z => by rcases sub1 _ z with q | q <;> omega, show n + 2 ≠ n + 1 by omega, mem2,
    fun z => by rcases sub2 _ z with q | q <;> omega, fun z => by rcases sub2 _ z with q | q <;> omega, fun z => by rcases sub2 _ z with q | q <;> omega, fun z => by rcases sub1 _ z with q | q <;> omega⟩
theorem turn_zipM {P : Program} {w : World} {K : PySem.W.Frag} {elts : List Expr} {kk : Nat} {tpos : Pos} {d1 d2 : Sd} (n : Nat) (o1 : d1.Old n) (o2 : d2.Old n) :
    Turn P w K (.Tuple elts kk tpos) (Izm K d1 d2) [n + 4, n + 2, n + 3, n, n + 1] (n + 4) (fun i h => IsZip h (n + 4) (n + 2) (n + 3) .none ∧ IsTupOf2 h (n + 2) (.ref n) (.ref (n + 1)) ∧ (∃ x y, IsTupOf2 h (n + 3) x y) ∧ d1.At h n i ∧ d2.At h (n + 1) i) where
  mem := by simp
  obj := fun i h st c hc => by
    obtain ⟨hz, hTI, ⟨x, y, hTO⟩, h1, h2⟩ := st
    have e' : c = n + 4 ∨ c = n + 2 ∨ c = n + 3 ∨ c = n ∨ c = n + 1 := by simpa using hc
    rcases e' with q | q | q | q | q
    · rw [q]; exact ⟨_, hz, fun v q => nomatch q⟩
    · rw [q]; exact ⟨_, hTI, fun v q => nomatch q⟩
    · rw [q]; exact ⟨_, hTO, fun v q => nomatch q⟩
    · rw [q]; exact h1.obj
    · rw [q]; exact h2.obj
  keep := fun i h h' st k => by
    obtain ⟨hz, hTI, ⟨x, y, hTO⟩, h1, h2⟩ := st
    exact ⟨k (n + 4) (by simp) _ hz, k (n + 2) (by simp) _ hTI, ⟨x, y, k (n + 3) (by simp) _ hTO⟩, h1.keep fun o q => k n (by simp) o q, h2.keep fun o q => k (n + 1) (by simp) o q⟩
  item := by
    intro X hP hw hK hc i pins s σ H E I hf st hg
    subst hP hw hK
    obtain ⟨hz, hTI, ⟨x0, y0, hTO⟩, h1, h2⟩ := st
    obtain ⟨xs, ys, x, y, hqx, hqy, hx, hy⟩ := hg
    obtain ⟨fp1, m1, P1, S1, D1, s1, e1, mem1, sub1, rel1, go1⟩ := Sd.draws I (I.ok.hd hc) n n i (Nat.le_refl _) d1 o1 h1 hqx
    obtain ⟨fp2, m2, P2, S2, D2, s2, e2, mem2, sub2, rel2, go2⟩ := Sd.draws I (I.ok.hd hc) n (n + 1) i (Nat.le_succ _) d2 o2 h2 hqy
    have S : ZipSep2 (n + 4) (n + 2) (n + 3) n (n + 1) fp1 fp2 := sep_of n mem1 sub1 mem2 sub2
    have hi1 := (List.getElem?_eq_some_iff.mp hx).1
    have hi2 := (List.getElem?_eq_some_iff.mp hy).1
    have hzl : n + 4 < s.heap.objs.size := Heap.lt_size hz
    refine wpAny_pyNext_zipD2_item S D1 D2 hz hTI hTO s1 s2 (by omega) (by omega) fun u1 u2 h' tk p1 p2 z' TO' t1 t2 hT hsz hk => ?_
    refine ⟨_, rfl, wpAny_letOwnedTupleGo_zip (s := { s with heap := h', toks := tk }) z' fun h'' z'' sb => ?_⟩
    have r1 := rel1 _ _ p1 hx
    have r2 := rel2 _ _ p2 hy
    have hT2 : h''.get? s.heap.objs.size = some { cls := .type "tuple", data := .seq #[u1, u2] } := (sb.2 _ (Nat.ne_of_gt hzl)).trans hT
    have new : ObjOk X.prog X.w (upd H s.heap.objs.size (.tup [x, y])) h'' s.heap.objs.size (.tup [x, y]) :=
      ⟨by show 2 ≤ sizeLine; decide, [u1, u2], .cons r1 (.cons r2 .nil), ⟨_, hT2, rfl, _, rfl⟩⟩
    have I1 : Inv X pins σ (upd H s.heap.objs.size (.tup [x, y])) { s with heap := h'', toks := tk } :=
      I.turnedNew (t' := tk) (ch := [n + 4, n + 2, n + 3, n, n + 1]) (fun c o hb q => (sb.2 c (fun q' => hb (by simp [q']))).trans (hk c o (fun q' => hb (by simp [q'])) (fun q' => hb (by simp [q'])) (fun q' => hb (by simp [q'])) (fun q' => hb (by simp [q'])) q)) hf (Nat.le_refl _) new
    refine ⟨.ref s.heap.objs.size, _, I1, rfl, ⟨_, x, y, rfl, I.hok.fresh (Nat.le_refl _), rfl, fun l hl => by rw [Sd.inj I hl hqx]; exact hx, fun l hl => by rw [Sd.inj I hl hqy]; exact hy⟩, ⟨z'', ?_, ⟨u1, u2, ?_⟩, ?_, ?_⟩, fun c hcm => ?_⟩
    · exact (sb.2 _ S.TIz).trans (hk _ _ S.TIz S.TITO S.TIi1 S.TIi2 hTI)
    · exact (sb.2 _ S.TOz).trans TO'
    · exact (go1 _ t1).keep fun o q => (sb.2 _ S.zi1.symm).trans q
    · exact (go2 _ t2).keep fun o q => (sb.2 _ S.zi2.symm).trans q
    · have hlt : c < s.heap.objs.size := by
        have e' : c = n + 4 ∨ c = n + 2 ∨ c = n + 3 ∨ c = n ∨ c = n + 1 := by simpa using hcm
        have lt : ∀ k : Nat, k ≤ 4 → n + k < s.heap.objs.size := fun k hk => Nat.lt_of_le_of_lt (Nat.add_le_add_left hk n) hzl
        rcases e' with e | e | e | e | e
        · rw [e]; exact hzl
        · rw [e]; exact lt 2 (by decide)
        · rw [e]; exact lt 3 (by decide)
        · rw [e]; exact lt 0 (by decide)
        · rw [e]; exact lt 1 (by decide)
      rw [upd_ne (Nat.ne_of_lt hlt)]
      exact (hf c hcm).1
  done := by
    intro X hP hw hK hc i pins s σ H E I hf st hg
    subst hP hw hK
    obtain ⟨hz, hTI, ⟨x0, y0, hTO⟩, h1, h2⟩ := st
    obtain ⟨xs, ys, hqx, hqy, l1, l2, hend⟩ := hg
    obtain ⟨fp1, m1, P1, S1, D1, s1, e1, mem1, sub1, rel1, go1⟩ := Sd.draws I (I.ok.hd hc) n n i (Nat.le_refl _) d1 o1 h1 hqx
    obtain ⟨fp2, m2, P2, S2, D2, s2, e2, mem2, sub2, rel2, go2⟩ := Sd.draws I (I.ok.hd hc) n (n + 1) i (Nat.le_succ _) d2 o2 h2 hqy
    have S : ZipSep2 (n + 4) (n + 2) (n + 3) n (n + 1) fp1 fp2 := sep_of n mem1 sub1 mem2 sub2
    exact wpAny_pyNext_zipD2_end S D1 D2 hz hTI hTO s1 s2 (by omega) (by omega) (by omega) fun h' tk hk => ⟨rfl, I.turnedL (t' := tk) (ch := [n + 4, n + 2, n + 3, n, n + 1]) (fun c o hb q =>
      hk c o (fun q' => hb (by simp [q'])) (fun q' => hb (by simp [q'])) (fun q' => hb (by simp [q'])) (fun q' => hb (by simp [q'])) q) hf⟩
  self := fun A i s Q E st h => wpAny_pyIter_zip st.1 h
end DL

/-! Data layer, twelfth part: sets of numbers and texts; sorted(set(x)), len(set(x)). -/
namespace DL
open PySem L2 PySem.Spec PyProof.Rows

/-! ### values that are keys, and sets of them -/
def kyOf (v : Value) : Key := match v with
  | .int k _ => .inl k
  | .str x _ => .inr x
  | _ => .inl 0
inductive Ky : Value → Prop
  | int (i : Int) (t : Tok) : Ky (.int i t)
  | str (x : Str) (t : Tok) : Ky (.str x t)
theorem Ky.is (P : Program) (w : World) : ∀ {v : Value}, Ky v → (mixKind P w).is (kyOf v) v = true
  | _, .int i t => mixKind_int P w i t
  | _, .str x t => mixKind_str P w x t
theorem Ky.iff {P : Program} {w : World} {v : Value} (h : Ky v) (k : Key) : (mixKind P w).is k v = true ↔ kyOf v = k :=
  ⟨fun z => (mixKind P w).inj v _ _ (h.is P w) z, fun z => z ▸ h.is P w⟩
theorem Ky.scan : ∀ {v : Value}, Ky v → v.scannable = true
  | _, .int _ _ => rfl
  | _, .str _ _ => rfl
abbrev kyE (e : Int × Value) : Key := kyOf e.2
def Ent (P : Program) (w : World) (e : Int × Value) : Prop := Ky e.2 ∧ e.1 = (mixKind P w).hash (kyOf e.2)
theorem ent_elems {P : Program} {w : World} {l : List (Int × Value)} (g : ∀ e ∈ l, Ent P w e) : ElemsOf (mixKind P w) l := fun e he =>
  ⟨⟨_, (g e he).1.is P w, (g e he).2⟩, (g e he).1.scan⟩
theorem ent_mem {P : Program} {w : World} {l : List (Int × Value)} (g : ∀ e ∈ l, Ent P w e) (k : Key) : k ∈ l.map kyE ↔ ∃ e ∈ l, (mixKind P w).is k e.2 = true := by
  rw [List.mem_map]
  exact ⟨fun ⟨e, he, q⟩ => ⟨e, he, ((g e he).1.iff k).2 q⟩, fun ⟨e, he, q⟩ => ⟨e, he, ((g e he).1.iff k).1 q⟩⟩
/-- the table's own part -/
structure Tab (P : Program) (w : World) (es : Array (Int × Value)) (t : SetTable) : Prop where
  ent : ∀ e ∈ es.toList, Ent P w e
  nod : (es.toList.map kyE).Nodup
  fit : t.fits es.size = true
  ris : Ris t.place.toList
  led : w.params.followText "set-order" = true ∨ t.led = true
/-- the set at a: its members are those of ks -/
def SetM (P : Program) (w : World) (h : Heap) (a : Addr) (ks : List Key) : Prop :=
  ∃ o es ep t, h.get? a = some o ∧ o.ExactSet ∧ o.data = .set es ep t ∧ Tab P w es t ∧ (∀ k, k ∈ es.toList.map kyE ↔ k ∈ ks) ∧ es.size ≤ ks.length ∧ ks.length < scanBound
section
variable {P : Program} {w : World} {h h' : Heap} {a : Addr} {ks : List Key}
theorem SetM.at (R : SetM P w h a ks) (k : ∀ o, h.get? a = some o → h'.get? a = some o) : SetM P w h' a ks := by
  obtain ⟨o, es, ep, t, ho, r⟩ := R
  exact ⟨o, es, ep, t, k o ho, r⟩
theorem SetM.nil (ho : h.get? a = some { cls := .type "set", dict := none, data := .set #[] 0 (.fresh 0 0 (!w.params.followText "set-order")) }) : SetM P w h a [] := by
  refine ⟨_, _, _, _, ho, ⟨rfl, rfl, rfl⟩, rfl, ⟨fun e he => by simp at he, by simp, rfl, List.Pairwise.nil, ?_⟩, fun k => by simp, Nat.le_refl _, by decide⟩
  show _ ∨ (!w.params.followText "set-order") = true
  cases w.params.followText "set-order"
  · exact .inr rfl
  · exact .inl rfl
end
section
variable {P : Program} {w : World} {A : Around} {E : Value → Shared → Prop} {s : Shared} {a : Addr} {ks : List Key}
theorem setM_tail {g : Bool → Sem Unit} (hg : ∀ (b : Bool) (s₁ : Shared) (Q' : Unit → Shared → Prop), Q' () s₁ → wpAny (model P w) A (g b) Q' E s₁)
    {o : Obj} {es : Array (Int × Value)} {ep : Nat} {t : SetTable} (ho : s.heap.get? a = some o) (hex : o.ExactSet) (hd : o.data = .set es ep t)
    {es1 : Array (Int × Value)} {t2 : SetTable} {ks' : List Key} (T : Tab P w es1 t2) (m1 : ∀ k, k ∈ es1.toList.map kyE ↔ k ∈ ks') (hn : es1.size ≤ ks'.length) (hb : ks'.length < scanBound) {wasDummy : Bool} {R : Option Bool → Shared → Prop}
    (hR : ∀ h', Heap.SameBut a s.heap h' → SetM P w h' a ks' → R (some true) { s with heap := h' }) :
    wpAny (model P w) A (do
        storeSet a es1 t2
        if (!wasDummy && t2.tooFull) = true then do
            g (relayAll t2 es1 (SetTable.grown es1.size)).2.2
            storeSet a (relayAll t2 es1 (SetTable.grown es1.size)).1 (relayAll t2 es1 (SetTable.grown es1.size)).2.1
            pure (some true)
          else pure (some true)) R E s := by
  have hb1 : es1.size < scanBound := Nat.lt_of_le_of_lt hn hb
  refine wpAny_bind (wpAny_storeSet_of ho hd ?_ (fits_of_scanBound hb1))
  have ho1 := store_at (es' := es1) (t' := t2) ho hd
  have sb1 := Heap.SameBut.update s.heap a (Obj.putSet es1 t2)
  split
  · have pm := relayAll_perm t2 es1 (SetTable.grown es1.size)
    have q1 := relayAll_fits t2 es1 (SetTable.grown es1.size)
    have q2 := relayAll_ris t2 es1 (SetTable.grown es1.size)
    have q3 := relayAll_led t2 es1 (SetTable.grown es1.size)
    generalize relayAll t2 es1 (SetTable.grown es1.size) = Z at pm q1 q2 q3 ⊢
    obtain ⟨es2, t3, gave⟩ := Z
    dsimp only at pm q1 q2 q3 ⊢
    have hsz : es2.size = es1.size := by rw [← Array.length_toList, pm.length_eq, Array.length_toList]
    refine wpAny_bind (hg _ _ _ ?_)
    refine wpAny_bind (wpAny_storeSet_of ho1 rfl ?_ (fits_of_scanBound (by omega)))
    have ho2 := store_at (es' := es2) (t' := t3) ho1 rfl
    refine wpAny_pure (hR _ (sb1.trans (Heap.SameBut.update _ a _)) ⟨_, es2, _, t3, ho2, hex, rfl, ⟨fun e he => T.ent e (pm.mem_iff.mp he), (pm.map kyE).nodup_iff.mpr T.nod, q1, q2, ?_⟩, fun k => (pm.map kyE).mem_iff.trans (m1 k), by omega, hb⟩)
    rcases T.led with z | z
    · exact .inl z
    · exact .inr (by rw [q3]; exact z)
  · exact wpAny_pure (hR _ sb1 ⟨_, es1, _, t2, ho1, hex, rfl, T, m1, hn, hb⟩)

theorem setM_add {v : Value} (kv : Ky v) {Q : Bool → Shared → Prop} (R : SetM P w s.heap a ks) (room : ks.length + 1 < scanBound)
    (hQ : ∀ b h', Heap.SameBut a s.heap h' → SetM P w h' a (ks ++ [kyOf v]) → Q b { s with heap := h' }) :
    wpAny (model P w) A (setAddHashed a v ((mixKind P w).hash (kyOf v))) Q E s := by
  obtain ⟨o, es, ep, t, ho, hex, hd, T, hm, hn, hb⟩ := R
  have hkey : (mixKind P w).is (kyOf v) v = true := kv.is P w
  have hel : ElemsOf (mixKind P w) es.toList := ent_elems T.ent
  have hb0 : es.size < scanBound := Nat.lt_of_le_of_lt hn hb
  have hlen : (ks ++ [kyOf v]).length = ks.length + 1 := by rw [List.length_append]; rfl
  unfold setAddHashed setAddHashedIn
  refine wpAny_holding (wpAny_bind (wpAny_setState_of ho hd T.fit ?_))
  dsimp only
  rw [byScan_of kv.scan hb0 hel]
  simp only [↓reduceIte]
  unfold setAddByScan
  refine wpAny_bind (wpAny_bind (wpAny_rule (wpAny_bind (wpAny_setScan_of hkey ho hd T.fit hel ?_))))
  cases hfi : List.findIdx? (fun e => (mixKind P w).is (kyOf v) e.2) es.toList with
  | some j =>
    dsimp only
    obtain ⟨hj, pj, _⟩ := List.findIdx?_eq_some_iff_getElem.mp hfi
    have hin : kyOf v ∈ ks := (hm _).1 ((ent_mem T.ent _).2 ⟨es.toList[j], List.getElem_mem hj, pj⟩)
    refine wpAny_pure (wpAny_pure (hQ _ s.heap (Heap.SameBut.refl a s.heap) ⟨o, es, ep, t, ho, hex, hd, T, fun k => ?_, by omega, by omega⟩))
    rw [hm k, List.mem_append, List.mem_singleton]
    exact ⟨.inl, fun z => z.elim id fun e => e ▸ hin⟩
  | none =>
    dsimp only
    have hnk : kyOf v ∉ es.toList.map kyE := fun z => by
      obtain ⟨e, he, q⟩ := (ent_mem (P := P) (w := w) T.ent _).1 z
      have c := List.findIdx?_eq_none_iff.mp hfi e he
      rw [q] at c
      cases c
    have hgw : ∀ (b : Bool) {s₁ : Shared} {Q' : Unit → Shared → Prop}, Q' () s₁ → wpAny (model P w) A (match b with | true => rule "set.scan.the-table-gave-way" | false => pure ()) Q' E s₁ :=
      fun b s₁ Q' q => by cases b <;> first | exact wpAny_pure q | exact wpAny_rule q
    have pm := layNew_perm t es ((mixKind P w).hash (kyOf v)) v
    have q1 := layNew_fits t es ((mixKind P w).hash (kyOf v)) v
    have q2 := layNew_ris t es ((mixKind P w).hash (kyOf v)) v T.ris
    have q3 := layNew_led t es ((mixKind P w).hash (kyOf v)) v
    generalize layNew t es ((mixKind P w).hash (kyOf v)) v = Z at pm q1 q2 q3 ⊢
    obtain ⟨es1, t1, wasDummy, gave⟩ := Z
    dsimp only at pm q1 q2 q3 ⊢
    rw [Array.toList_push] at pm
    have pc : es1.toList.Perm (((mixKind P w).hash (kyOf v), v) :: es.toList) := pm.trans (List.perm_append_singleton _ _)
    have pk : (es1.toList.map kyE).Perm (kyOf v :: es.toList.map kyE) := pc.map kyE
    have hsz : es1.size = es.size + 1 := by rw [← Array.length_toList, pc.length_eq, List.length_cons, Array.length_toList]
    have T1 : Tab P w es1 t1 := ⟨fun e he => (List.mem_cons.mp (pc.mem_iff.mp he)).elim (fun z => z ▸ ⟨kv, rfl⟩) (T.ent e), pk.nodup_iff.mpr (List.nodup_cons.mpr ⟨hnk, T.nod⟩), q1, q2, T.led.imp id fun z => by rw [q3]; exact z⟩
    have m1 : ∀ k, k ∈ es1.toList.map kyE ↔ k ∈ ks ++ [kyOf v] := fun k => by
      rw [pk.mem_iff, List.mem_cons, List.mem_append, List.mem_singleton, hm k]
      exact Or.comm
    refine wpAny_bind (hgw _ ?_)
    split
    · refine wpAny_bind ?_
      rw [hashByValue_scannable 8 kv.scan]
      refine wpAny_pure ?_
      refine setM_tail (ks' := ks ++ [kyOf v]) ?_ ho hex hd (es1 := es1) ?_ m1 (by omega) (by omega) ?_
      · intro b s₁ Q' q; cases b <;> first | exact wpAny_pure q | exact wpAny_rule q
      · refine ⟨T1.ent, T1.nod, ?_, ?_, ?_⟩
        · first | (split <;> first | exact q1 | exact SetTable.fits_plain_off q1) | exact q1
        · first | (split <;> exact T1.ris) | exact T1.ris
        · first | (split <;> exact T1.led) | exact T1.led
      · intro h' sb r; dsimp only; exact wpAny_pure (hQ _ h' sb r)
    · refine wpAny_bind (wpAny_pure ?_)
      simp only [↓reduceIte]
      refine setM_tail (ks' := ks ++ [kyOf v]) ?_ ho hex hd T1 m1 (by omega) (by omega) ?_
      · intro b s₁ Q' q; cases b <;> first | exact wpAny_pure q | exact wpAny_rule q
      · intro h' sb r; dsimp only; exact wpAny_pure (hQ _ h' sb r)
end

/-! ### set(x) of a row of keys -/
section
variable {P : Program} {w : World} {A : Around} {E : Value → Shared → Prop} {s : Shared}
theorem setM_loop {I : Addr} {fp wr : List Addr} {G : Array GenState → Array GenState → Prop} {n : Nat} {Pv : Nat → Value → Prop} {St : Nat → Shared → Prop} {R : Result → Shared → Prop}
    (W : WalksS P w A.in1 I fp wr G n Pv St) (S : Addr) (nS : S ∉ fp) (vs : List Value) (hn : n = vs.length) (hk : ∀ v ∈ vs, Ky v) (hb : vs.length + 1 < scanBound) (hval : ∀ i v, Pv i v → vs[i]? = some v) :
    ∀ (k i : Nat) (s : Shared), n - i = k → i ≤ n → St i s → SetM P w s.heap S ((vs.take i).map kyOf) → (∀ s', Moved (S :: wr) G s s' → SetM P w s'.heap S (vs.map kyOf) → R (.ok (.ret .none)) s') →
      codeAny (model P w) A (.builtin "set.update.loop" ⟨[.ref S, .ref I], []⟩) R s := by
  have nw : S ∉ wr := fun h => nS (W.sub _ h)
  have up : ∀ b ∈ wr, b ∈ S :: wr := fun b hb => List.mem_cons_of_mem _ hb
  intro k
  induction k with
  | zero =>
    intro i s e le st M fin
    obtain rfl : i = n := by omega
    refine codeAny_builtin F.entry_set_update_loop ?_
    rw [Around.under_plainId F.plain_set_update_loop _]
    refine wpAny_bind (m := pyNext (.ref I)) (W.done s _ _ st fun s' hm => ?_)
    rw [List.take_of_length_le (by omega)] at M
    exact wpAny_pure (fin s' (hm.mono up) (M.at fun o e => hm.heap S o nw e))
  | succ k ih =>
    intro i s e le st M fin
    have lt : i < n := by omega
    refine codeAny_builtin F.entry_set_update_loop ?_
    rw [Around.under_plainId F.plain_set_update_loop _]
    refine wpAny_bind (m := pyNext (.ref I)) (W.item i s _ _ lt st fun v s' pv st' hm => ?_)
    have hv := hval i v pv
    have kv : Ky v := hk v (List.mem_of_getElem? hv)
    have M1 : SetM P w s'.heap S ((vs.take i).map kyOf) := M.at fun o e => hm.heap S o nw e
    refine wpAny_bind (m := holding [v] (setAdd S v)) (wpAny_holding ?_)
    unfold setAdd
    refine wpAny_holding (wpAny_bind ((mixKind P w).pyHash (k := kyOf v) (kv.is P w) ?_))
    have room : ((vs.take i).map kyOf).length + 1 < scanBound := by rw [List.length_map, List.length_take]; omega
    refine setM_add (s := { s' with toks := s'.toks + 1 }) kv M1 room fun b h' sb M2 => ?_
    have M3 : SetM P w h' S ((vs.take (i + 1)).map kyOf) := by
      rw [List.take_add_one, hv, List.map_append]
      exact M2
    refine wpAny_pure ⟨plainId_quiet F.plain_set_update_loop _, ih (i + 1) _ (by omega) lt (W.frame _ s' _ _ st' (Nat.le_succ _) fun c hc o e => ?_) M3 fun s2 hm2 M4 => ?_⟩
    · rw [sb.2 c (fun z : c = S => nS (by rw [← z]; exact hc))]; exact e
    · refine fin s2 (Moved.trans W.gtrans ((hm.mono up).then_heap (Nat.le_succ _) fun c o hc e => ?_) hm2) M4
      rw [sb.2 c (fun z : c = S => hc (by rw [z]; exact List.mem_cons_self))]; exact e
abbrev set0O (w : World) : Obj := { cls := .type "set", dict := none, data := .set #[] 0 (.fresh 0 0 (!w.params.followText "set-order")) }

theorem call_setM_tuple {l : Addr} {items : Array Value} {Q : Value → Shared → Prop} (hh : A.handled = none) (hl : s.heap.IsTuple l items) (hk : ∀ v ∈ items.toList, Ky v) (hb : items.size + 1 < scanBound)
    (q : ∀ (h' : Heap) (tk : Nat), SetM P w h' s.heap.objs.size (items.toList.map kyOf) → (∀ b o, s.heap.get? b = some o → h'.get? b = some o) → Q (.ref s.heap.objs.size) { s with heap := h', toks := tk }) :
    wpAny (model P w) A (call (.type "set") [.ref l]) Q E s := by
  obtain ⟨c, tl, hmro⟩ := F.called_set.mro
  have a1 := F.called_set.made
  have a2 := F.called_set.sub
  refine wpAny_call (codeAny_of_tree ?_)
  change wpAny (model P w) _ (callAny (.type "set") _) _ _ s
  refine wpAny_pure ⟨Code.quiet_builtin _ (by decide +kernel), codeAny_builtin F.entry_type_call ?_⟩
  rw [Around.under_plain (weight_type_call_type "set" [.ref l] []) rfl]
  have a3 := F.called_set.notType
  have a4 := F.called_set.canCreate
  have a5 := F.typeCall_set_1 (.ref l)
  repeat (any_goals (first | assumption | wp_step))
  refine codeAny_mono (code_set_led1 (.ref l) (E := E) (Q₁ := fun ob s1 => ob = .ref s.heap.objs.size ∧ s1 = { s with heap := s.heap.push (set0O w) }) ⟨rfl, rfl⟩) fun r s1 hr => ?_
  cases r with
  | error e => exact hr
  | ok fl =>
    cases fl with
    | ret ob =>
      obtain ⟨rfl, rfl⟩ := hr
      have hS : (s.heap.push (set0O w)).get? s.heap.objs.size = some (set0O w) := Heap.get?_push_size _ rfl
      have hT : Shared.TypeIs { s with heap := s.heap.push (set0O w) } (.ref s.heap.objs.size) "set" := ⟨_, hS, rfl⟩
      have b1 := F.called_set.init.lookup
      have b2 := F.called_set.init.bind (.ref s.heap.objs.size)
      repeat (any_goals (first | assumption | wp_step))
      refine codeAny_mono (codeAny_call_builtin (R := wants (fun r s2 => r = .none ∧ ∃ h' tk, s2 = { s with heap := h', toks := tk } ∧ SetM P w h' s.heap.objs.size (items.toList.map kyOf) ∧ ∀ b o, s.heap.get? b = some o → h'.get? b = some o) E)
        F.called_set.init.plain F.entry_set_init (check_set_init_1 hT ?_)) fun r2 s2 hr2 => ?_
      · obtain ⟨ol, hol, hcl, nl, hdl⟩ := hl
        obtain ⟨oc, od, oda, osl⟩ := ol
        simp only at hcl hdl
        subst hcl; subst hdl
        have hol' : (s.heap.push (set0O w)).get? l = some { cls := .type "tuple", dict := od, data := .seq items nl, slots := osl } := Heap.get?_push_of_some _ hol
        have c1 := PySem.F.sub_tuple_set
        have c2 := PySem.F.sub_tuple_frozenset
        have c3 : (Value.type "tuple" == Value.type "dict") = false := by decide
        have hl1 : (s.heap.push (set0O w)).IsTuple l items := ⟨_, hol', rfl, nl, rfl⟩
        unfold Builtin.«set.__init__» noKeywords Builtin.Frozenset.updateFrom
        generalize hPI : pyIter = PI
        wp_walk
        subst hPI
        refine wpAny_pyIter_tuple hl1 (wpAny_bind (wpAny_runValue ?_))
        have lS : l < s.heap.objs.size := Heap.lt_size hol
        have zS : (s.heap.push (set0O w)).objs.size = s.heap.objs.size + 1 := Heap.size_push ..
        have nI : l ≠ (s.heap.push (set0O w)).objs.size := by rw [zS]; exact Nat.ne_of_lt (Nat.lt_succ_of_lt lS)
        have nS : s.heap.objs.size ∉ [(s.heap.push (set0O w)).objs.size, l] := by
          rw [zS]; simp only [List.mem_cons, List.not_mem_nil, or_false, not_or]
          exact ⟨Nat.ne_of_lt (Nat.lt_succ_self _), Nat.ne_of_gt lS⟩
        refine setM_loop ((Walks.tuple (A := A.in1.in1.in1) (by simp [hh]) _ l nI items).toS) s.heap.objs.size nS items.toList (by rw [Array.length_toList]) hk (by rw [Array.length_toList]; exact hb) (fun i v pv => by rw [Array.getElem?_toList]; exact pv)
          (items.size - 0) 0 _ (by omega) (Nat.zero_le _) ⟨⟨_, Heap.get?_push_size _ rfl, rfl, rfl⟩, hl1.push _⟩ (SetM.nil (Heap.get?_push_of_some _ hS)) fun s' hm M => ?_
        obtain ⟨h', g2, d', tk', os'⟩ := s'
        obtain rfl : g2 = s.gens := hm.gens
        obtain rfl : d' = s.drawn := hm.drawn
        obtain rfl : os' = s.os := hm.os
        refine wpAny_pure ?_
        refine wpAny_pure ⟨rfl, h', tk', rfl, M, fun b o e => ?_⟩
        have h0 : b < s.heap.objs.size := Heap.lt_size e
        refine hm.heap b o ?_ (Heap.get?_push_of_some _ (Heap.get?_push_of_some _ e))
        simp only [List.mem_cons, List.not_mem_nil, or_false, not_or]
        exact ⟨Nat.ne_of_lt h0, by rw [zS]; exact Nat.ne_of_lt (Nat.lt_succ_of_lt h0)⟩
      · cases r2 with
        | error e => exact hr2
        | ok fl2 =>
          cases fl2 with
          | ret r =>
            obtain ⟨rfl, h', tk, rfl, M, k⟩ := hr2
            repeat (any_goals (first | assumption | wp_step))
            exact q _ _ M k
          | _ => exact hr2.elim
    | _ => exact hr.elim

theorem call_setM_list {l : Addr} {items : Array Value} {Q : Value → Shared → Prop} (hh : A.handled = none) (hl : s.heap.IsList l items) (hk : ∀ v ∈ items.toList, Ky v) (hb : items.size + 1 < scanBound)
    (q : ∀ (h' : Heap) (tk : Nat), SetM P w h' s.heap.objs.size (items.toList.map kyOf) → (∀ b o, s.heap.get? b = some o → h'.get? b = some o) → Q (.ref s.heap.objs.size) { s with heap := h', toks := tk }) :
    wpAny (model P w) A (call (.type "set") [.ref l]) Q E s := by
  obtain ⟨c, tl, hmro⟩ := F.called_set.mro
  have a1 := F.called_set.made
  have a2 := F.called_set.sub
  refine wpAny_call (codeAny_of_tree ?_)
  change wpAny (model P w) _ (callAny (.type "set") _) _ _ s
  refine wpAny_pure ⟨Code.quiet_builtin _ (by decide +kernel), codeAny_builtin F.entry_type_call ?_⟩
  rw [Around.under_plain (weight_type_call_type "set" [.ref l] []) rfl]
  have a3 := F.called_set.notType
  have a4 := F.called_set.canCreate
  have a5 := F.typeCall_set_1 (.ref l)
  repeat (any_goals (first | assumption | wp_step))
  refine codeAny_mono (code_set_led1 (.ref l) (E := E) (Q₁ := fun ob s1 => ob = .ref s.heap.objs.size ∧ s1 = { s with heap := s.heap.push (set0O w) }) ⟨rfl, rfl⟩) fun r s1 hr => ?_
  cases r with
  | error e => exact hr
  | ok fl =>
    cases fl with
    | ret ob =>
      obtain ⟨rfl, rfl⟩ := hr
      have hS : (s.heap.push (set0O w)).get? s.heap.objs.size = some (set0O w) := Heap.get?_push_size _ rfl
      have hT : Shared.TypeIs { s with heap := s.heap.push (set0O w) } (.ref s.heap.objs.size) "set" := ⟨_, hS, rfl⟩
      have b1 := F.called_set.init.lookup
      have b2 := F.called_set.init.bind (.ref s.heap.objs.size)
      repeat (any_goals (first | assumption | wp_step))
      refine codeAny_mono (codeAny_call_builtin (R := wants (fun r s2 => r = .none ∧ ∃ h' tk, s2 = { s with heap := h', toks := tk } ∧ SetM P w h' s.heap.objs.size (items.toList.map kyOf) ∧ ∀ b o, s.heap.get? b = some o → h'.get? b = some o) E)
        F.called_set.init.plain F.entry_set_init (check_set_init_1 hT ?_)) fun r2 s2 hr2 => ?_
      · obtain ⟨ol, hol, hcl, nl, hdl⟩ := hl
        obtain ⟨oc, od, oda, osl⟩ := ol
        simp only at hcl hdl
        subst hcl; subst hdl
        have hol' : (s.heap.push (set0O w)).get? l = some { cls := .type "list", dict := od, data := .seq items nl, slots := osl } := Heap.get?_push_of_some _ hol
        have c1 := PySem.F.sub_list_set
        have c2 := PySem.F.sub_list_frozenset
        have c3 : (Value.type "list" == Value.type "dict") = false := by decide
        have hl1 : (s.heap.push (set0O w)).IsList l items := ⟨_, hol', rfl, nl, rfl⟩
        unfold Builtin.«set.__init__» noKeywords Builtin.Frozenset.updateFrom
        generalize hPI : pyIter = PI
        wp_walk
        subst hPI
        refine wpAny_pyIter_list hl1 (wpAny_bind (wpAny_runValue ?_))
        have lS : l < s.heap.objs.size := Heap.lt_size hol
        have zS : (s.heap.push (set0O w)).objs.size = s.heap.objs.size + 1 := Heap.size_push ..
        have nI : l ≠ (s.heap.push (set0O w)).objs.size := by rw [zS]; exact Nat.ne_of_lt (Nat.lt_succ_of_lt lS)
        have nS : s.heap.objs.size ∉ [(s.heap.push (set0O w)).objs.size, l] := by
          rw [zS]; simp only [List.mem_cons, List.not_mem_nil, or_false, not_or]
          exact ⟨Nat.ne_of_lt (Nat.lt_succ_self _), Nat.ne_of_gt lS⟩
        refine setM_loop ((Walks.list (A := A.in1.in1.in1) (by simp [hh]) _ l nI items).toS) s.heap.objs.size nS items.toList (by rw [Array.length_toList]) hk (by rw [Array.length_toList]; exact hb) (fun i v pv => by rw [Array.getElem?_toList]; exact pv)
          (items.size - 0) 0 _ (by omega) (Nat.zero_le _) ⟨⟨_, Heap.get?_push_size _ rfl, rfl, rfl⟩, hl1.push _⟩ (SetM.nil (Heap.get?_push_of_some _ hS)) fun s' hm M => ?_
        obtain ⟨h', g2, d', tk', os'⟩ := s'
        obtain rfl : g2 = s.gens := hm.gens
        obtain rfl : d' = s.drawn := hm.drawn
        obtain rfl : os' = s.os := hm.os
        refine wpAny_pure ?_
        refine wpAny_pure ⟨rfl, h', tk', rfl, M, fun b o e => ?_⟩
        have h0 : b < s.heap.objs.size := Heap.lt_size e
        refine hm.heap b o ?_ (Heap.get?_push_of_some _ (Heap.get?_push_of_some _ e))
        simp only [List.mem_cons, List.not_mem_nil, or_false, not_or]
        exact ⟨Nat.ne_of_lt h0, by rw [zS]; exact Nat.ne_of_lt (Nat.lt_succ_of_lt h0)⟩
      · cases r2 with
        | error e => exact hr2
        | ok fl2 =>
          cases fl2 with
          | ret r =>
            obtain ⟨rfl, h', tk, rfl, M, k⟩ := hr2
            repeat (any_goals (first | assumption | wp_step))
            exact q _ _ M k
          | _ => exact hr2.elim
    | _ => exact hr.elim
end
end DL

/-! Data layer, thirteenth part: sorted(set(x)), len(set(x)); sorted rows of texts are one. -/
namespace DL
open PySem L2 PySem.Spec PyProof.Rows

/-! ### sorted rows of texts -/
def LeS (a b : Str) : Prop := a.cps.toList ≤ b.cps.toList
theorem leS_trans {a b c : Str} (h : LeS a b) (h' : LeS b c) : LeS a c := List.le_trans h h'
theorem leS_anti {a b : Str} (h : LeS a b) (h' : LeS b a) : a = b := by
  have e : a.cps.toList = b.cps.toList := List.le_antisymm h h'
  obtain ⟨⟨a⟩⟩ := a
  obtain ⟨⟨b⟩⟩ := b
  simp only at e
  rw [e]
theorem leS_of {a b : Str} (h : (!ltCps b.cps.toList a.cps.toList) = true) : LeS a b := by
  rw [ltCps_eq] at h
  have h2 : ¬ b.cps.toList < a.cps.toList := by simpa using h
  exact h2
theorem pw_of_rising : ∀ (l : List Str) (p : Str), risingS p l = true → (p :: l).Pairwise LeS
  | [], p, _ => List.pairwise_singleton _ _
  | x :: r, p, h => by
    have h' : (!ltCps x.cps.toList p.cps.toList && risingS x r) = true := h
    rw [Bool.and_eq_true] at h'
    have ih := pw_of_rising r x h'.2
    have hx := leS_of h'.1
    refine List.pairwise_cons.mpr ⟨fun y hy => ?_, ih⟩
    rcases List.mem_cons.mp hy with rfl | hy
    · exact hx
    · exact leS_trans hx ((List.pairwise_cons.mp ih).1 y hy)
theorem pw_of_sorted : ∀ (l : List Str), sortedS l = true → l.Pairwise LeS
  | [], _ => List.Pairwise.nil
  | x :: r, h => pw_of_rising r x h
theorem sorted_one {a b : List Str} (ha : sortedS a = true) (hb : sortedS b = true) (p : a.Perm b) : a = b :=
  p.eq_of_pairwise (fun x y _ _ h h' => leS_anti h h') (pw_of_sorted a ha) (pw_of_sorted b hb)
/-- the texts of xs, each once, ascending -/
def IsSd (xs ys : List Str) : Prop := sortedS ys = true ∧ ys.Nodup ∧ ∀ z, z ∈ ys ↔ z ∈ xs
theorem IsSd.one {xs ys zs : List Str} (h : IsSd xs ys) (h' : IsSd xs zs) : ys = zs :=
  sorted_one h.1 h'.1 ((List.perm_ext_iff_of_nodup h.2.1 h'.2.1).mpr fun z => (h.2.2 z).trans (h'.2.2 z).symm)
/-- the numbers of ns, each once, ascending -/
def IsSdI (ns ms : List Int) : Prop := ms.Pairwise (· < ·) ∧ ∀ k, k ∈ ms ↔ k ∈ ns
theorem IsSdI.one {xs ys zs : List Int} (h : IsSdI xs ys) (h' : IsSdI xs zs) : ys = zs :=
  ((List.perm_ext_iff_of_nodup (h.1.imp fun q => Int.ne_of_lt q) (h'.1.imp fun q => Int.ne_of_lt q)).mpr fun z => (h.2 z).trans (h'.2 z).symm).eq_of_pairwise (fun a b _ _ q q' => absurd q' (Int.lt_asymm q)) h.1 h'.1

/-! ### sorted(s), len(s) -/
section
variable {P : Program} {w : World} {A : Around} {E : Value → Shared → Prop} {s : Shared} {a : Addr}
theorem nodup_of_map' {α β : Type} {f : α → β} {l : List α} (h : (l.map f).Nodup) : l.Nodup := List.Pairwise.of_map f (fun _ _ ne e => ne (congrArg f e)) h
theorem sorted_setM {ks : List Key} {Q : Value → Shared → Prop} (R : SetM P w s.heap a ks) (hh : A.handled = none)
    (q : (∃ xs : List Str, ks = xs.map Sum.inr ∧ ∀ s' p (out : Array Value) (c : Nat) (ys : List Str), (∀ b o, s.heap.get? b = some o → s'.heap.get? b = some o) → s'.gens = s.gens → s'.os = s.os → s.heap.objs.size ≤ p →
        s'.heap.get? p = some (seqObj "list" out c) → StrsAre out.toList ys → IsSd xs ys → ys.length ≤ ks.length → Q (.ref p) s') ∨
      ∃ xs : List Int, ks = xs.map Sum.inl ∧ ∀ s' p (out : Array Value) (c : Nat) (ys : List Int), (∀ b o, s.heap.get? b = some o → s'.heap.get? b = some o) → s'.gens = s.gens → s'.os = s.os → s.heap.objs.size ≤ p →
        s'.heap.get? p = some (seqObj "list" out c) → IntsAre out.toList ys → IsSdI xs ys → ys.length ≤ ks.length → Q (.ref p) s') :
    wpAny (model P w) A (call (.builtin "sorted") [.ref a]) Q E s := by
  obtain ⟨o, es, ep, t, ho, hex, hd, T, hm, hn, hb⟩ := R
  refine Calls.call_function_entry kind_sorted plain_sorted entry_sorted (args_sorted1 _) ?_
  unfold Builtin.«sorted»
  refine wpAny_bind (m := checkCount "sorted" 1 1 _) (wpAny_pure ?_)
  refine wpAny_bind (collect_set (A := A.in1) hh ⟨o, ho, hex.1, hd⟩ T.fit (Nat.lt_of_le_of_lt hn hb) T.ris T.led fun s1 vs k1 hz g1 o1 pm => ?_)
  have vl : vs.length ≤ ks.length := by rw [pm.length_eq, List.length_map, Array.length_toList]; exact hn
  have pk : (vs.map kyOf).Perm (es.toList.map kyE) := by
    have z := pm.map kyOf
    rw [List.map_map] at z
    exact z
  have kv : ∀ v ∈ vs, Ky v := fun v hv => by
    obtain ⟨e, he, z⟩ := List.mem_map.mp (pm.mem_iff.mp hv)
    rw [← z]; exact (T.ent e he).1
  have vn : (vs.map kyOf).Nodup := pk.nodup_iff.mpr T.nod
  have vm : ∀ k, k ∈ vs.map kyOf ↔ k ∈ ks := fun k => pk.mem_iff.trans (hm k)
  have vz : vs.length ≤ sizeLine := Nat.le_trans vl (Nat.le_of_lt (Nat.lt_of_lt_of_le hb (by decide)))
  refine wpAny_bind (wpAny_newList ?_ vz)
  have hoL : (s1.heap.push (seqObj "list" vs.toArray 0)).get? s1.heap.objs.size = some (seqObj "list" vs.toArray 0) := Heap.get?_push_size _ rfl
  have old : ∀ (out : Array Value) b u, s.heap.get? b = some u → (sortedHeap (s1.heap.push (seqObj "list" vs.toArray 0)) s1.heap.objs.size vs out).get? b = some u := fun out b u e => by
    have z := k1 b u e
    have lt := Heap.lt_size z
    rw [sortedHeap_old (Nat.ne_of_lt lt) (by rw [size_push']; exact Nat.lt_succ_of_lt lt)]
    exact Heap.get?_push_of_some _ z
  rcases q with ⟨xs, rfl, q⟩ | ⟨xs, rfl, q⟩
  · have all : ∀ v ∈ vs, ∃ x t, v = .str x t := fun v hv => by
      have hk := (vm (kyOf v)).1 (List.mem_map_of_mem hv)
      obtain ⟨x, _, ex⟩ := List.mem_map.mp hk
      cases kv v hv with
      | int i t => cases ex
      | str x t => exact ⟨x, t, rfl⟩
    have hS := strsAre_map vs all
    have ek : (vs.map strOf).map Sum.inr = vs.map kyOf := by
      rw [List.map_map]
      refine List.map_congr_left fun v hv => ?_
      obtain ⟨x, t, rfl⟩ := all v hv
      rfl
    refine wpAny_bind (wpAny_holding (wpAny_call_entry slot_list_sort ⟨_, hoL, rfl⟩ entry_list_sort
      (list_sort_treeKAny strKind_oneLt hoL hS.keysOf (fun v₁ v₂ rest e => keyKind_strs (by rw [← e]; exact hS)) vz fun st' a1 a2 => ⟨_, rfl, ?_⟩) (args_list_sort _)))
    obtain ⟨ys, g1', g2, g3⟩ := sorted_out_str hS a1 a2
    obtain ⟨c, hc⟩ := sortedHeap_at (vs := vs) (out := (arrOf st').map (·.2)) hoL
    have pi := g2.map (Sum.inr : Str → Key)
    rw [ek] at pi
    refine wpAny_pure ⟨_, rfl, q _ s1.heap.objs.size _ c ys (old _) g1 o1 hz hc g1' ⟨g3, nodup_of_map' (pi.nodup_iff.mpr vn), fun z => ?_⟩ (by rw [g2.length_eq, List.length_map]; exact vl)⟩
    have := (pi.mem_iff (a := Sum.inr z)).trans (vm (Sum.inr z))
    simpa using this
  · have all : ∀ v ∈ vs, ∃ x t, v = .int x t := fun v hv => by
      have hk := (vm (kyOf v)).1 (List.mem_map_of_mem hv)
      obtain ⟨x, _, ex⟩ := List.mem_map.mp hk
      cases kv v hv with
      | int i t => exact ⟨i, t, rfl⟩
      | str x t => cases ex
    have hI := ints_of vs all
    have ek : (vs.map Builtin.Re.reRawOf).map Sum.inl = vs.map kyOf := by
      rw [List.map_map]
      refine List.map_congr_left fun v hv => ?_
      obtain ⟨x, t, rfl⟩ := all v hv
      rfl
    refine wpAny_bind (wpAny_holding (wpAny_call_entry slot_list_sort ⟨_, hoL, rfl⟩ entry_list_sort (list_sort_treeAny hoL hI vz fun out ns' a1 a2 a3 => ⟨_, rfl, ?_⟩) (args_list_sort _)))
    obtain ⟨c, hc⟩ := sortedHeap_at (vs := vs) (out := out) hoL
    have pi := a2.map (Sum.inl : Int → Key)
    rw [ek] at pi
    refine wpAny_pure ⟨_, rfl, q _ s1.heap.objs.size _ c ns' (old _) g1 o1 hz hc a1 ⟨lt_of_le_nodup ns' a3 (nodup_of_map' (pi.nodup_iff.mpr vn)), fun z => ?_⟩ (by rw [a2.length_eq, List.length_map]; exact vl)⟩
    have := (pi.mem_iff (a := Sum.inl z)).trans (vm (Sum.inl z))
    simpa using this
end

/-! ### as rules -/
def SetMO (P : Program) (w : World) (a : Addr) (ks : List Key) : HO := .ext fun h => SetM P w h a ks
theorem setMO_new {P : Program} {w : World} {H : Hp} {h : Heap} {a : Addr} {ks : List Key} (R : SetM P w h a ks) : ObjOk P w H h a (SetMO P w a ks) := by
  have ⟨o, _, _, _, ho, _⟩ := R
  exact ⟨R, ⟨o, ho⟩, fun _ _ p k => SetM.at p k⟩
theorem keys_vals : ∀ {ks : List Key} {us : List Value}, Vals (ks.map kV) us → (∀ v ∈ us, Ky v) ∧ us.map kyOf = ks
  | [], _, .nil => ⟨fun _ h => (by cases h), rfl⟩
  | k :: ks, _, .cons r t => by
    obtain ⟨h1, h2⟩ := keys_vals t
    cases k with
    | inl i =>
      obtain ⟨u, rfl⟩ := r
      exact ⟨fun v hv => (List.mem_cons.mp hv).elim (fun e => e ▸ .int i u) (h1 v), by rw [List.map_cons, h2]; rfl⟩
    | inr x =>
      obtain ⟨u, rfl⟩ := r
      exact ⟨fun v hv => (List.mem_cons.mp hv).elim (fun e => e ▸ .str x u) (h1 v), by rw [List.map_cons, h2]; rfl⟩
section
variable {X : Cx} {k : Nat}
theorem setMO_get {pins : List (Addr × Obj)} {σ : L2.St} {H : Hp} {s : Shared} {a : Addr} {ks : List Key} (I : Inv X pins σ H s) (ha : H a = some (SetMO X.prog X.w a ks)) : SetM X.prog X.w s.heap a ks := (I.hok a _ ha).1
/-- set(x) -/
def rSetM (K : PySem.W.Frag) (P : Program) (w : World) : List V → Hp → VK → Prop := fun xs H Q => ∃ (l : Addr) (ks : List Key), xs = [.ref l] ∧ (SqL K H l (ks.map kV) ∨ SqT K H l (ks.map kV)) ∧ ks.length + 1 < scanBound ∧
  ∀ p, H p = none → Q (.ref p) (upd H p (SetMO P w p ks))
theorem cr_setM (hc : X.calm = true) : CallR X (.type "set") (rSetM X.K X.prog X.w) := by
  intro pins s σ H xs us Q I r h
  obtain ⟨l, ks, rfl, hq, hb, q⟩ := h
  obtain ⟨u, rfl, rx⟩ := vals1 r
  obtain rfl : u = Value.ref l := rx
  have fin : ∀ (its : List Value), its.map kyOf = ks → ∀ (h' : Heap) (tk : Nat), SetM X.prog X.w h' s.heap.objs.size (its.toArray.toList.map kyOf) → (∀ b o, s.heap.get? b = some o → h'.get? b = some o) → EP X pins σ Q (.ref s.heap.objs.size) { s with heap := h', toks := tk } := fun its e h' tk M kp => by
    rw [List.toList_toArray, e] at M
    exact ⟨.ref _, upd H s.heap.objs.size (SetMO X.prog X.w s.heap.objs.size ks), I.laid (t' := tk) kp (Nat.le_refl _) (setMO_new M), rfl, q _ (I.hok.fresh (Nat.le_refl _))⟩
  rcases hq with hq | hq
  · obtain ⟨its, rv, pl, hz⟩ := I.list hq
    obtain ⟨k1, k2⟩ := keys_vals rv
    exact call_setM_list (I.ok.hd hc) pl.isList (by simpa using k1) (by rw [List.size_toArray, ← rv.length, List.length_map]; exact hb) (fin its k2)
  · obtain ⟨its, rv, pl, hz⟩ := I.tuple hq
    obtain ⟨k1, k2⟩ := keys_vals rv
    exact call_setM_tuple (I.ok.hd hc) pl (by simpa using k1) (by rw [List.size_toArray, ← rv.length, List.length_map]; exact hb) (fin its k2)
/-- sorted(s) -/
def rSortedM (P : Program) (w : World) : List V → Hp → VK → Prop := fun vs H Q => ∃ (a : Addr) (ks : List Key), vs = [V.ref a] ∧ H a = some (SetMO P w a ks) ∧
  ((∃ xs : List Str, ks = xs.map Sum.inr ∧ ∀ ys p, IsSd xs ys → H p = none → Q (.ref p) (upd H p (.lst (ys.map V.str)))) ∨
    ∃ xs : List Int, ks = xs.map Sum.inl ∧ ∀ ys p, IsSdI xs ys → H p = none → Q (.ref p) (upd H p (.lst (ys.map V.int))))
theorem cr_sortedM (hc : X.calm = true) : CallR X (.builtin "sorted") (rSortedM X.prog X.w) := by
  intro pins s σ H vs us Q I r h
  obtain ⟨a, ks, rfl, ha, q⟩ := h
  have R := setMO_get I ha
  have hb : ks.length ≤ sizeLine := by
    obtain ⟨_, _, _, _, _, _, _, _, _, _, hb⟩ := R
    exact Nat.le_trans (Nat.le_of_lt hb) (by decide)
  rw [Vals.ref1 r]
  have fin : ∀ (s' : Shared) (p : Addr) (out : Array Value) (c : Nat) (vs : List V), (∀ b o, s.heap.get? b = some o → s'.heap.get? b = some o) → s'.gens = s.gens → s'.os = s.os → s.heap.objs.size ≤ p →
      s'.heap.get? p = some (seqObj "list" out c) → Vals vs out.toList → vs.length ≤ sizeLine → (H p = none → Q (.ref p) (upd H p (.lst vs))) → EP X pins σ Q (.ref p) s' := fun s' p out c vs kp g o hp hg rv hl q => by
    have hn : H p = none := I.hok.fresh hp
    have J : Inv X pins σ (upd H p (.lst vs)) { s with heap := s'.heap, gens := s'.gens, drawn := s'.drawn, toks := s'.toks } :=
      I.call (ch := []) (Un.laid kp hp hn) (I.hok.laid kp hp ⟨hl, out.toList, c, rv, hg⟩) (by rw [g]; exact I.bare) (fun _ z => nomatch z)
    obtain ⟨h', g', d', t', o'⟩ := s'
    obtain rfl : o' = s.os := o
    exact ⟨.ref p, _, J, rfl, q hn⟩
  refine sorted_setM R (I.ok.hd hc) ?_
  rcases q with ⟨xs, rfl, q⟩ | ⟨xs, rfl, q⟩
  · refine .inl ⟨xs, rfl, fun s' p out c ys kp g o hp hg hi hs hl => fin s' p out c _ kp g o hp hg (vals_of_strs hi) ?_ (q ys p hs)⟩
    rw [List.length_map]; omega
  · refine .inr ⟨xs, rfl, fun s' p out c ys kp g o hp hg hi hs hl => fin s' p out c _ kp g o hp hg (vals_of_ints hi) ?_ (q ys p hs)⟩
    rw [List.length_map]; omega
/-- how many unlike ones there are -/
def Many (ks : List Key) (n : Nat) : Prop := ∃ l : List Key, l.Nodup ∧ (∀ k, k ∈ l ↔ k ∈ ks) ∧ l.length = n
theorem Many.one {ks : List Key} {n m : Nat} (h : Many ks n) (h' : Many ks m) : n = m := by
  obtain ⟨l, d, e, rfl⟩ := h
  obtain ⟨l', d', e', rfl⟩ := h'
  exact ((List.perm_ext_iff_of_nodup d d').mpr fun z => (e z).trans (e' z).symm).length_eq
def rLenM (P : Program) (w : World) : List V → Hp → VK → Prop := fun vs H Q => ∃ (a : Addr) (ks : List Key), vs = [V.ref a] ∧ H a = some (SetMO P w a ks) ∧ ∀ n : Nat, Many ks n → Q (.int n) H
theorem cr_lenM : CallR X (.builtin "len") (rLenM X.prog X.w) := by
  intro pins s σ H vs us Q I r h
  obtain ⟨a, ks, rfl, ha, q⟩ := h
  obtain ⟨o, es, ep, t, ho, hex, hd, T, hm, hn, hb⟩ := setMO_get I ha
  rw [Vals.ref1 r]
  have hz : es.size < scanBound := Nat.lt_of_le_of_lt hn hb
  refine call_len_set ho hex hd T.fit (by unfold scanBound at hz; omega) ⟨.int es.size, H, I.tok _, ⟨_, rfl⟩, q _ ⟨es.toList.map kyE, T.nod, hm, by rw [List.length_map, Array.length_toList]⟩⟩

/-! ### over data -/
def srtSet (x : D) (S : Sto) (Q : D → Sto → Prop) : Prop := ∃ ds, sqOf S x = some ds ∧ ds.length + 1 < scanBound ∧
  ((∃ xs : List Str, ds = xs.map D.str ∧ ∀ ys, IsSd xs ys → Q (.fl (ys.map D.str)) S) ∨ ∃ ns : List Int, ds = ns.map D.int ∧ ∀ ms, IsSdI ns ms → Q (.fl (ms.map D.int)) S)
def dSortSet (te : TDE) : TDE := fun δ S Q => te δ S fun x S1 => srtSet x S1 Q
def lenSet (x : D) (S : Sto) (Q : D → Sto → Prop) : Prop := ∃ ds, sqOf S x = some ds ∧ ds.length + 1 < scanBound ∧ ∃ ks : List Key, ds = (ks.map kV).map D.at ∧ ∀ n : Nat, Many ks n → Q (.int n) S
def dLenSet (te : TDE) : TDE := fun δ S Q => te δ S fun x S1 => lenSet x S1 Q
theorem de_sortSet {e : Expr} {te : TDE} {p p2 pos pos2 : Pos} (hc : X.calm = true) (hg : Gl X "sorted") (hm : X.mg "sorted" = none) (hg2 : Gl X "set") (hm2 : X.mg "set" = none) (he : PE X e (lE X.K te))
    (hs2 : starEach [e] X.env = (false, eval e X.env) :: starEach [] X.env := by rfl) (hp2 : (backTo pos2 (starEach [] X.env)).any (·.1) = false := by rfl)
    (hs : starEach [.Call (.Name "set" p2) [e] [] pos2] X.env = (false, eval (.Call (.Name "set" p2) [e] [] pos2) X.env) :: starEach [] X.env := by rfl) (hpl : (backTo pos (starEach [] X.env)).any (·.1) = false := by rfl) :
    PE X (.Call (.Name "sorted" p) [.Call (.Name "set" p2) [e] [] pos2] [] pos) (lE X.K (dSortSet te)) :=
  PE.wk (pe_callB (cr_sortedM hc) hg hm (by decide +kernel) (pa_cons (pe_callTy (cr_setM hc) hg2 hm2 (by decide +kernel) (pa_cons he pa_nil hs2) (by decide) (by decide) hs2 hp2) pa_nil hs) (by decide) (by decide) hs hpl) fun σ H Q ⟨N, δ, S, Q', re, rs, q, kk⟩ => by
    refine ⟨N, δ, S, _, re, rs, q, fun x S1 v H1 b1 rx q1 => ?_⟩
    obtain ⟨ds, hx, hb, q1⟩ := q1
    obtain ⟨a, ws, rfl, sq, rw'⟩ := sq_sq b1.rs rx hx
    rcases q1 with ⟨xs, rfl, q1⟩ | ⟨xs, rfl, q1⟩
    · have e : ws = xs.map V.str := RDs.atoms (us := xs.map V.str) (by rw [List.map_map]; exact rw')
      subst e
      refine ⟨a, xs.map Sum.inr, rfl, by rw [List.map_map]; exact sq, by simpa using hb, fun p np => ?_⟩
      refine ⟨p, _, rfl, upd_same, .inl ⟨xs, rfl, fun ys p' hs np' => ?_⟩⟩
      obtain ⟨rs1, f1, le1⟩ := b1.rs.laid (o := SetMO X.prog X.w p (xs.map Sum.inr)) np
      have b2 : Bh ⟨X.K, N⟩ H S (upd H1 p (SetMO X.prog X.w p (xs.map Sum.inr))) S1 := b1.trans ⟨f1, rs1⟩
      obtain ⟨b3, r3⟩ := new_fl rs1 np' (rds_strs ys)
      exact kk _ S1 _ _ (b2.trans b3) r3 (q1 ys hs)
    · have e : ws = xs.map V.int := RDs.atoms (us := xs.map V.int) (by rw [List.map_map]; exact rw')
      subst e
      refine ⟨a, xs.map Sum.inl, rfl, by rw [List.map_map]; exact sq, by simpa using hb, fun p np => ?_⟩
      refine ⟨p, _, rfl, upd_same, .inr ⟨xs, rfl, fun ys p' hs np' => ?_⟩⟩
      obtain ⟨rs1, f1, le1⟩ := b1.rs.laid (o := SetMO X.prog X.w p (xs.map Sum.inl)) np
      have b2 : Bh ⟨X.K, N⟩ H S (upd H1 p (SetMO X.prog X.w p (xs.map Sum.inl))) S1 := b1.trans ⟨f1, rs1⟩
      obtain ⟨b3, r3⟩ := new_fl rs1 np' (rds_ints ys)
      exact kk _ S1 _ _ (b2.trans b3) r3 (q1 ys hs)
theorem de_lenSet {e : Expr} {te : TDE} {p p2 pos pos2 : Pos} (hc : X.calm = true) (hg : Gl X "len") (hm : X.mg "len" = none) (hg2 : Gl X "set") (hm2 : X.mg "set" = none) (he : PE X e (lE X.K te))
    (hs2 : starEach [e] X.env = (false, eval e X.env) :: starEach [] X.env := by rfl) (hp2 : (backTo pos2 (starEach [] X.env)).any (·.1) = false := by rfl)
    (hs : starEach [.Call (.Name "set" p2) [e] [] pos2] X.env = (false, eval (.Call (.Name "set" p2) [e] [] pos2) X.env) :: starEach [] X.env := by rfl) (hpl : (backTo pos (starEach [] X.env)).any (·.1) = false := by rfl) :
    PE X (.Call (.Name "len" p) [.Call (.Name "set" p2) [e] [] pos2] [] pos) (lE X.K (dLenSet te)) :=
  PE.wk (pe_callB cr_lenM hg hm (by decide +kernel) (pa_cons (pe_callTy (cr_setM hc) hg2 hm2 (by decide +kernel) (pa_cons he pa_nil hs2) (by decide) (by decide) hs2 hp2) pa_nil hs) (by decide) (by decide) hs hpl) fun σ H Q ⟨N, δ, S, Q', re, rs, q, kk⟩ => by
    refine ⟨N, δ, S, _, re, rs, q, fun x S1 v H1 b1 rx q1 => ?_⟩
    obtain ⟨ds, hx, hb, ks, rfl, q1⟩ := q1
    obtain ⟨a, ws, rfl, sq, rw'⟩ := sq_sq b1.rs rx hx
    have e : ws = ks.map kV := RDs.atoms rw'
    subst e
    refine ⟨a, ks, rfl, sq, by simpa using hb, fun p np => ?_⟩
    refine ⟨p, ks, rfl, upd_same, fun n hn => ?_⟩
    obtain ⟨rs1, f1, le1⟩ := b1.rs.laid (o := SetMO X.prog X.w p ks) np
    exact kk _ S1 _ _ (b1.trans ⟨f1, rs1⟩) (.of _) (q1 n hn)
end
end DL

/-! Data layer, fourteenth part: zip of any two, texts that are walked. -/
namespace DL
open PySem L2 PyProof.Rows
section
variable {X : Cx} {pins : List (Addr × Obj)} {σ : L2.St} {H : Hp} {s : Shared} {xs : List V}
theorem Sd.begins (I : Inv X pins σ H s) {u : Value} : ∀ (d : Sd), d.Has X.K H xs → RelV d.v u → ∃ (o : Obj) (St : Heap → Prop), Begins u o St ∧ St s.heap ∧ (∀ h it, h.get? it = some o → d.At h it 0) ∧ d.Old s.heap.objs.size
  | .li a, has, r => by
    obtain rfl : u = Value.ref a := r
    obtain ⟨its, rv, p, _⟩ := I.list has
    exact ⟨_, _, begins_list a its.toArray, p.isList, fun h it e => ⟨_, e, rfl, rfl⟩, p.lt⟩
  | .tu a, has, r => by
    obtain rfl : u = Value.ref a := r
    obtain ⟨its, rv, p, _⟩ := I.tuple has
    have q : s.heap.IsTuple a its.toArray := p
    exact ⟨_, _, begins_tuple a its.toArray, q, fun h it e => ⟨_, e, rfl, rfl⟩, by obtain ⟨o, ho, _⟩ := q; exact Heap.lt_size ho⟩
  | .st x, has, r => by
    obtain ⟨t, rfl⟩ := (show ∃ t, u = Value.str x t from r)
    exact ⟨_, _, begins_text x t, trivial, fun h it e => ⟨t, _, e, rfl, rfl⟩, trivial⟩
end
def iZipM (K : PySem.W.Frag) (ta : TA) : TI := fun σ H R => ta σ H fun vs H1 => ∃ (d1 d2 : Sd) (xs ys : List V), vs = [d1.v, d2.v] ∧ d1.Has K H1 xs ∧ d2.Has K H1 ys ∧ R (Izm K d1 d2) H1
section
variable {X : Cx} {k : Nat}
theorem pi_zipM {e e2 : Expr} {ta : TA} {p pos tpos : Pos} {elts : List Expr} {kk : Nat} (hg : Gl X "zip") (hm : X.mg "zip" = none) (ha : PA X [e, e2] ta) (hs : starEach [e, e2] X.env = (false, eval e X.env) :: starEach [e2] X.env := by rfl) (hpl : (backTo pos (starEach [e2] X.env)).any (·.1) = false := by rfl) :
    PI X (.Tuple elts kk tpos) (.Call (.Name "zip" p) [e, e2] [] pos) (iZipM X.K ta) := by
  refine ⟨fun pins s σ H R I h => Call_ (ld_blt I hg hm boot_zip (callWith_type1 (thn (ha.run pos pins s σ H _ I h) fun us s1 ⟨vs, H1, I1, r1, q1⟩ => ?_) hs hpl))⟩
  obtain ⟨d1, d2, xs, ys, rfl, h1, h2, q⟩ := q1
  obtain ⟨u1, us', rfl, t1, rr⟩ : ∃ u us', us = u :: us' ∧ RelV d1.v u ∧ Vals [d2.v] us' := by
    cases r1 with
    | cons r rr => exact ⟨_, _, rfl, r, rr⟩
  obtain ⟨u2, rfl, r2⟩ := vals1 rr
  obtain ⟨o1, S1, B1, b1, a1, l1⟩ := Sd.begins I1 d1 h1 t1
  obtain ⟨o2, S2, B2, b2, a2, l2⟩ := Sd.begins I1 d2 h2 r2
  generalize hn : s1.heap.objs.size = n at l1 l2
  have new : ∀ c : Nat, c ∈ [n + 4, n + 2, n + 3, n, n + 1] → FpOk X pins H1 c := fun c hc => by
    have le : s1.heap.objs.size ≤ c := by
      rw [hn]
      simp only [List.mem_cons, List.not_mem_nil, or_false] at hc
      omega
    exact I1.fpOk le (I1.hok.fresh le)
  refine zip_begins2 B1 B2 b1 b2 fun h' hz hTI hTO g1 g2 hsz hk => wpAny_pyIter_zip hz ?_
  rw [hn] at hz hTI hTO g1 g2 ⊢
  exact ⟨n + 4, [n + 4, n + 2, n + 3, n, n + 1], _, _, H1, rfl, I1.kept (t' := s1.toks) hk, turn_zipM n l1 l2, ⟨hz, hTI, ⟨_, _, hTO⟩, a1 _ _ g1, a2 _ _ g2⟩, new, q⟩

/-! ### over data -/
def signs (x : Str) : List D := x.cps.toList.map fun c => .str ⟨#[c]⟩
def sdOf (S : Sto) (d : D) : Option (List D) := match d with
  | .at (.str x) => some (signs x)
  | d => sqOf S d
def zipMI (x y : D) : ItD := fun i S => (sdOf S x).bind fun p => (sdOf S y).bind fun q => if i ≤ p.length ∧ i ≤ q.length then some (p[i]?.bind fun d => q[i]?.map fun e => .tup [d, e]) else none
theorem rds_signs {K : Kx} {H : Hp} {S : Sto} (x : Str) : RDs K H S (signsV x) (signs x) := by
  have := RDs.of_atoms (K := K) (H := H) (S := S) (signsV x)
  unfold signsV at this ⊢
  rw [List.map_map] at this
  exact this
theorem tupLe_refl {K : Kx} {H : Hp} {S : Sto} : TupLe K H S K H S := ⟨fun _ _ h => h, fun _ _ h => h, fun _ _ h => h⟩
theorem sd_rel {K : Kx} {H0 : Hp} {S0 : Sto} {v : V} {x : D} {ds : List D} (rs : RS K H0 S0) (r : RD K H0 S0 v x) (h : sdOf S0 x = some ds) : ∃ d : Sd, v = d.v ∧
    ∀ (M : Addr → Prop) (H : Hp) (S : Sto), Bh ⟨K.k, M⟩ H0 S0 H S → TupLe K H0 S0 ⟨K.k, M⟩ H S → ∀ es, sdOf S x = some es → ∃ us, d.Has K.k H us ∧ RDs ⟨K.k, M⟩ H S us es := by
  have lists : ∀ ds, lsOf S0 x = some ds → (∀ S, sdOf S x = lsOf S x) → ∃ d : Sd, v = d.v ∧
    ∀ (M : Addr → Prop) (H : Hp) (S : Sto), Bh ⟨K.k, M⟩ H0 S0 H S → TupLe K H0 S0 ⟨K.k, M⟩ H S → ∀ es, sdOf S x = some es → ∃ us, d.Has K.k H us ∧ RDs ⟨K.k, M⟩ H S us es := fun ds hl e => by
    obtain ⟨a, vs, rfl, _, w⟩ := rel_ls rs r hl
    refine ⟨.li a, rfl, fun M H S b le es he => ?_⟩
    rw [e S] at he
    exact ls_at b le w he
  cases x with
  | tup xs =>
    obtain ⟨a, vs, rfl, t, rv⟩ := r.tup_
    refine ⟨.tu a, rfl, fun M H S b le es he => ?_⟩
    cases he
    exact ⟨vs, .of (le.t _ _ t), rv.le le⟩
  | wt xs =>
    obtain ⟨a, vs, rfl, t, rv⟩ := r.wt_
    refine ⟨.tu a, rfl, fun M H S b le es he => ?_⟩
    cases he
    exact ⟨vs, .inr t, rv.le le⟩
  | fl xs => exact lists _ h fun S => rfl
  | «at» u =>
    have e := r.at_
    subst e
    cases v with
    | str y =>
      refine ⟨.st y, rfl, fun M H S b le es he => ?_⟩
      cases he
      exact ⟨signsV y, rfl, rds_signs y⟩
    | ref a => exact lists _ h fun S => rfl
    | _ => exact nomatch h
def iZipMD (t : TDA) : TDI := fun δ S R => t δ S fun xs S1 => ∃ x y ds es, xs = [x, y] ∧ sdOf S1 x = some ds ∧ sdOf S1 y = some es ∧ R (zipMI x y) S1
theorem di_zipM {e e2 : Expr} {ta : TDA} {p pos tpos : Pos} {elts : List Expr} {kk : Nat} (hg : Gl X "zip") (hm : X.mg "zip" = none) (ha : PA X [e, e2] (lA X.K ta)) (hs : starEach [e, e2] X.env = (false, eval e X.env) :: starEach [e2] X.env := by rfl) (hpl : (backTo pos (starEach [e2] X.env)).any (·.1) = false := by rfl) :
    PI X (.Tuple elts kk tpos) (.Call (.Name "zip" p) [e, e2] [] pos) (lI X.K (iZipMD ta)) :=
  PI.wk (pi_zipM hg hm ha hs hpl) fun σ H R ⟨N, δ, S, R', re, rs, q, kk⟩ => by
    refine ⟨N, δ, S, _, re, rs, q, fun xs S1 vs H1 b1 rv q1 => ?_⟩
    obtain ⟨x, y, ds, es, rfl, h1, h2, q1⟩ := q1
    obtain ⟨v, w, rfl, rx, ry⟩ := rv.two'
    obtain ⟨d1, rfl, w1⟩ := sd_rel b1.rs rx h1
    obtain ⟨d2, rfl, w2⟩ := sd_rel b1.rs ry h2
    obtain ⟨us, c1, _⟩ := w1 _ _ _ (.refl b1.rs) tupLe_refl _ h1
    obtain ⟨ws, c2, _⟩ := w2 _ _ _ (.refl b1.rs) tupLe_refl _ h2
    refine ⟨d1, d2, us, ws, rfl, c1, c2, kk _ S1 _ H1 b1 ?_ q1⟩
    intro M i H' S' bb le
    unfold zipMI
    refine ⟨fun ez => ?_, fun d ez => ?_⟩
    · obtain ⟨p', g1, ez⟩ := Option.bind_eq_some_iff.mp ez
      obtain ⟨q', g2, ez⟩ := Option.bind_eq_some_iff.mp ez
      obtain ⟨u1, s1, r1⟩ := w1 _ _ _ bb le _ g1
      obtain ⟨u2, s2, r2⟩ := w2 _ _ _ bb le _ g2
      split at ez
      · rename_i hi
        have l1 := r1.length
        have l2 := r2.length
        have := zip_end r1 r2 (Option.some.inj ez)
        exact ⟨u1, u2, s1, s2, by omega, by omega, by omega⟩
      · cases ez
    · obtain ⟨p', g1, ez⟩ := Option.bind_eq_some_iff.mp ez
      obtain ⟨q', g2, ez⟩ := Option.bind_eq_some_iff.mp ez
      obtain ⟨u1, s1, r1⟩ := w1 _ _ _ bb le _ g1
      obtain ⟨u2, s2, r2⟩ := w2 _ _ _ bb le _ g2
      split at ez
      · obtain ⟨y1, y2, z1, z2, k1, k2, rfl, k3, k4⟩ := zip_step r1 r2 (Option.some.inj ez)
        refine ⟨⟨u1, u2, y1, y2, s1, s2, k1, k2⟩, fun z H2 yl => ?_⟩
        obtain ⟨T, c1, c2, rfl, hT, rfl, hz1, hz2⟩ := yl
        have e1 := hz1 u1 s1
        rw [k1] at e1
        cases e1
        have e2 := hz2 u2 s2
        rw [k2] at e2
        cases e2
        obtain ⟨b2, r2⟩ := new_tup bb.rs hT (.cons k3 (.cons k4 .nil))
        exact ⟨b2, r2⟩
      · cases ez
/-- a text that is walked -/
def strI (x : Str) : ItD := fun i _ => some (signs x)[i]?
def iStrD (te : TDE) : TDI := fun δ S R => te δ S fun v S1 => ∃ x, v = .str x ∧ R (strI x) S1
theorem di_str {tg e : Expr} {te : TDE} (he : PE X e (lE X.K te)) : PI X tg e (lI X.K (iStrD te)) :=
  PI.wk (pi_str he) fun σ H R ⟨N, δ, S, R', re, rs, q, kk⟩ => by
    refine ⟨N, δ, S, _, re, rs, q, fun x S1 v H1 b1 rx q1 => ?_⟩
    obtain ⟨y, rfl, q1⟩ := q1
    refine ⟨y, rx.at_, kk _ S1 _ H1 b1 ?_ q1⟩
    intro M i H' S' bb le
    unfold strI signs
    rw [List.getElem?_map, Array.getElem?_toList]
    refine ⟨fun ez => ?_, fun d ez => ?_⟩
    · have := Option.map_eq_none_iff.mp (Option.some.inj ez)
      exact Array.getElem?_eq_none_iff.mp this
    · obtain ⟨c, hc, rfl⟩ := Option.map_eq_some_iff.mp (Option.some.inj ez)
      refine ⟨(Array.getElem?_eq_some_iff.mp hc).1, fun z H2 yl => ?_⟩
      obtain ⟨rfl, c', hc', rfl⟩ := yl
      rw [hc] at hc'
      cases hc'
      exact ⟨.refl bb.rs, .of _⟩
end
end DL

/-! Data layer, fifteenth part: dicts by comprehension, written dicts, extend by a tuple. -/
namespace DL
open PySem L2 PyProof.Rows
section
variable {X : Cx} {k : Nat}

/-! ### {k: v for ..} -/
def dDc (wi : TDI) (g : TDG) (tt : TDT) (tk tv : TDE) (vs : List Nat) : TDE := fun δ S Q => wi δ S fun J S1 => ∀ A, S1 A = none → ∃ (W : Nat → Sto → Prop) (n : Nat), W 0 (up S1 A (.dk [])) ∧ ∀ i S2, W i S2 → ∃ r, J i S2 = some r ∧
  (r = none → Q (.ref A) S2) ∧
  ∀ x, r = some x → i < n ∧ g x (wipeD δ vs) S2 fun δ2 S3 => tt δ2 S3 fun b S4 =>
    if b = true then tk δ2 S4 fun y S5 => tv δ2 S5 fun z S6 => ∃ kvs κ, keyD y = some κ ∧ S6 A = some (.dk kvs) ∧ kvs.length < sizeLine ∧ W (i + 1) (up S6 A (.dk (putD kvs κ z))) else W (i + 1) S4
theorem lift_dc {K : PySem.W.Frag} {wi : TDI} {gv : TG} {g : TDG} {tt : TDT} {tk tv : TDE} (own : List (Str × Nat)) (hgd : ∀ N, TgC ⟨K, N⟩ (own.map (·.2)) gv g) {σ : L2.St} {H : Hp} {Q : VK} (h : lE K (dDc wi g tt tk tv (own.map (·.2))) σ H Q) :
    tDc (lI K wi) gv (lT K tt) (lE K tk) (lE K tv) (own.map (·.2)) σ H Q := by
  obtain ⟨N, δ, S, Q', re, rs, q, kk⟩ := h
  refine ⟨N, δ, S, _, re, rs, q, fun J S1 Jv H1 b1 rel q1 A hA => ?_⟩
  obtain ⟨W, n, w0, turn⟩ := q1 A (b1.rs.free hA)
  have re1 := re.le (rs.le b1.fr)
  obtain ⟨a0, f0⟩ := b1.rs.new (o := .dK []) (m := .dk []) hA fun c => ⟨[], upd_same, rfl, .nil⟩
  refine ⟨fun i m H2 => ∃ S2, m = n - i ∧ W i S2 ∧ Bh ⟨K, N⟩ H1 S1 H2 S2, ⟨n, _, rfl, w0, f0, a0⟩, ?_⟩
  rintro i m H2 ⟨S2, rfl, w2, b2⟩
  have l2 := b1.rs.le b2.fr
  have re2 := re1.le l2
  obtain ⟨r, hr, hn, hgo⟩ := turn i S2 w2
  obtain ⟨r1, r2⟩ := rel N i H2 S2 b2 l2
  cases r with
  | none => exact .inl ⟨r1 hr, kk _ S2 _ H2 (b1.trans b2) (.of _) (hn rfl)⟩
  | some x =>
    obtain ⟨hlt, hgx⟩ := hgo x rfl
    obtain ⟨go, yl⟩ := r2 x hr
    refine .inr ⟨go, fun H' => ∃ S', W (i + 1) S' ∧ Bh ⟨K, N⟩ H1 S1 H' S', fun H' ⟨S', h1, h2⟩ => ⟨n - (i + 1), by omega, S', rfl, h1, h2⟩, fun v H3 y => ?_⟩
    obtain ⟨b3, rv⟩ := yl v H3 y
    refine hgd N v x (wipe σ (own.map (·.2))) (wipeD δ (own.map (·.2))) H3 S2 _ _ rv (re_wipe (re2.le (b2.rs.le b3.fr)) _) b3.rs hgx fun σ4 H4 δ4 S4 e4 b4 re4 q4 => ?_
    refine ⟨e4.trans (wipe_wipe _ _), N, δ4, S4, _, re4, b4.rs, q4, fun c S5 H5 b5 q5 => ?_⟩
    have b25 := (b3.trans b4).trans b5
    cases c with
    | false =>
      rw [if_neg Bool.false_ne_true] at q5
      exact iteF ⟨S5, q5, b2.trans b25⟩
    | true =>
      rw [if_pos rfl] at q5
      have re5 := re4.le (b4.rs.le b5.fr)
      refine iteT ⟨N, δ4, S5, _, re5, b5.rs, q5, fun y S6 u H6 b6 r6 q6 => ?_⟩
      refine ⟨N, δ4, S6, _, re5.le (b5.rs.le b6.fr), b6.rs, q6, fun z S7 t H7 b7 r7 q7 => ?_⟩
      obtain ⟨kvs, κ, hk, e7, hl, w7⟩ := q7
      have ey := keyD_eq hk
      subst ey
      obtain ⟨ks, h1, h2, h3⟩ := b7.rs.ob A _ e7
      have hll : ks.length = kvs.length := by simpa using congrArg List.length h2
      obtain ⟨p1, p2⟩ := rel_put h2 h3 κ r7
      obtain ⟨c1, c2⟩ := b7.rs.write (o := .dK (putK ks κ t)) (m' := .dk (putD kvs κ z)) e7 fun le => ⟨_, upd_same, p1, p2.le le⟩
      exact ⟨ks, κ, r6.at_, h1, by omega, _, w7, (b2.trans ((b25.trans b6).trans b7)).trans ⟨c2, c1⟩⟩
variable {kx vx tg iter : Expr} {ifs : List Expr} {scope : Scope} {pos : Pos} {wi : TDI} {gv : TG} {g : TDG} {tt : TDT} {tk tv : TDE}
theorem de_dc (own : List (Str × Nat)) (hc : X.calm = true) (hN : X.N.Nodup) (hi : PI X tg iter (lI X.K wi)) (ok : BlkOk X.N X.env.scope scope own)
    (hg : ∀ (s : Shared) (H : Hp) (C : Addr) (cl : List (Str × Addr)) (fp : List Addr), PG (X.blk s H scope (compEnvC scope cl C X.env) fp) tg gv) (hgd : ∀ N, TgC ⟨X.K, N⟩ (own.map (·.2)) gv g) (ht : ∀ (s : Shared) (H : Hp) (C : Addr) (cl : List (Str × Addr)) (fp : List Addr), PTs (X.blk s H scope (compEnvC scope cl C X.env) fp) ifs (lT X.K tt))
    (hk : ∀ (s : Shared) (H : Hp) (C : Addr) (cl : List (Str × Addr)) (fp : List Addr), PE (X.blk s H scope (compEnvC scope cl C X.env) fp) kx (lE X.K tk)) (he : ∀ (s : Shared) (H : Hp) (C : Addr) (cl : List (Str × Addr)) (fp : List Addr), PE (X.blk s H scope (compEnvC scope cl C X.env) fp) vx (lE X.K tv))
    (hs : ∀ x, foldedSetIterable iter X.env x = pure x := by intro _; rfl) : PE X (.DictComp kx vx [⟨tg, iter, ifs, 0⟩] scope pos) (lE X.K (dDc wi g tt tk tv (own.map (·.2)))) :=
  PE.wk (pe_dc hc hN hi ok hg ht hk he hs) fun σ H Q h => lift_dc own hgd h
theorem ps_setDc {i : Nat} {y : Str} {py spos : Pos} {own : List (Str × Nat)} {wv : TI} {ttv : TT} {tkv tvv : TE} (hc : X.calm = true) (hN : X.N.Nodup) (hy : X.N[i]? = some y) (hyl : X.env.scope.names.lookup y = some .local)
    (hsw : swapsWith (.DictComp kx vx [⟨tg, iter, ifs, 0⟩] scope pos) (some (.Name y py)) spos.line X.env = pure true) (hi : PI X tg iter wv) (ok : BlkOk X.N X.env.scope scope own)
    (hg : ∀ (s : Shared) (H : Hp) (C : Addr) (cl : List (Str × Addr)) (fp : List Addr), PG (X.blk s H scope (compEnvC scope cl C X.env) fp) tg gv) (ht : ∀ (s : Shared) (H : Hp) (C : Addr) (cl : List (Str × Addr)) (fp : List Addr), PTs (X.blk s H scope (compEnvC scope cl C X.env) fp) ifs ttv)
    (hk : ∀ (s : Shared) (H : Hp) (C : Addr) (cl : List (Str × Addr)) (fp : List Addr), PE (X.blk s H scope (compEnvC scope cl C X.env) fp) kx tkv) (he : ∀ (s : Shared) (H : Hp) (C : Addr) (cl : List (Str × Addr)) (fp : List Addr), PE (X.blk s H scope (compEnvC scope cl C X.env) fp) vx tvv)
    (hs : ∀ x, foldedSetIterable iter X.env x = pure x := by intro _; rfl) : PS X (.Assign [.Name y py] (.DictComp kx vx [⟨tg, iter, ifs, 0⟩] scope pos) spos) (tAsg (tDc wv gv ttv tkv tvv (own.map (·.2))) (gName i)) := by
  refine ⟨fun pins s σ H D I h => ?_⟩
  rw [exec_Assign_Name_used _ _ _ _ hsw]
  refine wpAny_bind (wpAny_standAt (wpAny_bind ?_))
  change wpAny _ X.A (do let _ ← comprehension (.DictComp kx vx [⟨tg, iter, ifs, 0⟩] scope pos) scope X.env (firstIterPos [⟨tg, iter, ifs, 0⟩] pos) newDict false (eval iter X.env) (some (assign (.Name y py) X.env))) _ _ s
  have h' : tDc wv gv ttv tkv tvv (own.map (·.2)) σ H (fun x H1 => gName i x σ H1 D.nx) := h
  refine wpAny_bind (thn (dc_core (Qf := fun _ s' => SP X pins D .next s') hc hN I hi ok hg ht hk he hs h' fun L C s' m H' I' q hn f => ?_) fun _ s' hq => wpAny_pure (wpAny_pure hq))
  change wpAny _ _ (assign (.Name y py) X.env (.ref L)) _ _ _
  refine wpAny_assign_Name (store_ok2 (v := V.ref L) I' hN hy (.inl hyl) rfl (fun s2 I2 ⟨a, sb, ha⟩ => ?_) (.inr hyl))
  obtain ⟨f0, f1, f2, f3, f4, f5⟩ := f
  have nC : C ≠ a := by
    rcases ha with z | z
    · rw [z]; exact f1
    · exact fun e => f4 y a z e.symm
  exact ⟨m, hn.sameBut sb nC, fun h3 sb3 => ⟨_, H', I2.turned (t' := s2.toks) (fun b o hb e => (sb3.2 b hb).trans e) f0 f1 f3 f4 f5, q⟩⟩
theorem sw_trueD {gs : List Comprehension} {scope : Scope} {pos py : Pos} {y : Str} {l : Nat} {env : Env} (hk : env.scope.kind = .function) (hy : env.scope.names.lookup y = some .local) (hl : (py.line == pos.line) = true)
    (ha : (scope.names.any fun (n, k) => n == y && (k == .local || k == .cell)) = false) : swapsWith (.DictComp kx vx gs scope pos) (some (.Name y py)) l env = pure true := by
  have ky : env.kindOf y = some .local := hy
  have hb : env.blockKind = .function := by unfold Env.blockKind; rw [hk]; rfl
  unfold swapsWith
  simp only [hb, ky, ha, Expr.pos, hl]
  rfl
theorem ds_setDc (i : Nat) {y : Str} {py spos : Pos} (own : List (Str × Nat)) (hc : X.calm = true) (hN : X.N.Nodup) (hi : PI X tg iter (lI X.K wi)) (ok : BlkOk X.N X.env.scope scope own)
    (hg : ∀ (s : Shared) (H : Hp) (C : Addr) (cl : List (Str × Addr)) (fp : List Addr), PG (X.blk s H scope (compEnvC scope cl C X.env) fp) tg gv) (hgd : ∀ N, TgC ⟨X.K, N⟩ (own.map (·.2)) gv g) (ht : ∀ (s : Shared) (H : Hp) (C : Addr) (cl : List (Str × Addr)) (fp : List Addr), PTs (X.blk s H scope (compEnvC scope cl C X.env) fp) ifs (lT X.K tt))
    (hk : ∀ (s : Shared) (H : Hp) (C : Addr) (cl : List (Str × Addr)) (fp : List Addr), PE (X.blk s H scope (compEnvC scope cl C X.env) fp) kx (lE X.K tk)) (he : ∀ (s : Shared) (H : Hp) (C : Addr) (cl : List (Str × Addr)) (fp : List Addr), PE (X.blk s H scope (compEnvC scope cl C X.env) fp) vx (lE X.K tv))
    (hs : ∀ x, foldedSetIterable iter X.env x = pure x := by intro _; rfl) (hy : X.N[i]? = some y := by rfl) (hyl : X.env.scope.names.lookup y = some .local := by rfl)
    (hsw : swapsWith (.DictComp kx vx [⟨tg, iter, ifs, 0⟩] scope pos) (some (.Name y py)) spos.line X.env = pure true := by exact sw_trueD rfl rfl rfl (by decide +kernel)) :
    PS X (.Assign [.Name y py] (.DictComp kx vx [⟨tg, iter, ifs, 0⟩] scope pos) spos) (lS X.K (dAsg (dDc wi g tt tk tv (own.map (·.2))) (gdName i))) :=
  PS.wk (ps_setDc hc hN hy hyl hsw hi ok hg ht hk he hs) fun D σ H ⟨N, δ, S, D', re, rs, q, l⟩ => lift_dc own hgd ⟨N, δ, S, _, re, rs, q, fun d S1 v H1 b1 r1 q1 => l.nx _ S1 _ H1 b1 ((re.le (rs.le b1.fr)).set r1 i) q1⟩

/-! ### a written dict of texts -/
def lookS (kvs : List (Str × Str)) (z : Str) : Option Str := (kvs.find? fun q => q.1 == z).map (·.2)
def GDt (K : PySem.W.Frag) (w : World) (mg : Str → Option Value) (x : Str) (kvs : List (Str × Str)) : Prop := ∃ a, mg x = some (.ref a) ∧ ∀ z v, lookS kvs z = some v → KDct K w a z (.str v)
def dGix (kvs : List (Str × Str)) (t : TDE) : TDE := fun δ S Q => t δ S fun y S1 => ∃ z v, y = .str z ∧ lookS kvs z = some v ∧ Q (.str v) S1
theorem de_gix {x : Str} {kvs : List (Str × Str)} {e : Expr} {te : TDE} {p pos : Pos} (G : GDt X.K X.w X.mg x kvs) (he : PE X e (lE X.K te)) (hg : Gl X x := by rfl) (hd : (x == ("__debug__" : Str)) = false := by decide) (hs : PlainIx e := by exact fun _ _ => rfl) : PE X (.Subscript (.Name x p) e pos) (lE X.K (dGix kvs te)) := by
  obtain ⟨a, m, G⟩ := G
  refine PE.wk (pe_ix ix_kdict (pe_glob (v := .ref a) hg m rfl hd) he hs) fun σ H Q ⟨N, δ, S, Q', re, rs, q, kk⟩ => ?_
  refine ⟨N, δ, S, _, re, rs, q, fun y S1 v H1 b1 ry q1 => ?_⟩
  obtain ⟨z, u, rfl, hl, q1⟩ := q1
  exact ⟨a, z, .str u, rfl, ry.at_, G z u hl, kk _ S1 _ H1 b1 (.of _) q1⟩

/-! ### list.extend by a tuple or a list -/
theorem extend_tup (l : Addr) (items : Array Value) (n : Nat) (b : Addr) (items2 : Array Value) (n2 : Nat) (dd : Option Addr) (sl : Array (Option Value)) (h0 : ¬(!items.isEmpty && Builtin.List.listTooLong (items.size + items2.size)) = true) (h1 : items.size ≤ sizeLine) (h2 : items.size + items2.size ≤ sizeLine + 1) :
    Meets (Builtin.«list.extend» ⟨[.ref l, .ref b], []⟩) (fun _ R s => s.heap.get? l = some { cls := .type "list", dict := none, data := .seq items n, slots := #[] } ∧ s.heap.get? b = some { cls := .type "tuple", dict := dd, data := .seq items2 n2, slots := sl } ∧ R (.ok (.ret Value.none)) { s with heap := s.heap.update l (Obj.mapSeq fun x => x ++ items2), toks := s.toks }) :=
  .of_wp fun prog w A R s h => by
    obtain ⟨hp, g, d, tk, os⟩ := s
    obtain ⟨hl, hb, h⟩ := h
    have f1 := PySem.AutoSeq1.idx_int
    have f2 := PySem.F.sub_tuple_tuple
    have f3 := PySem.F.sub_list_list
    have f4 := PySem.F.sub_tuple_list
    have f5 := PySem.F.sub_list_tuple
    have hz' : (items ++ items2).size ≤ sizeLine + 1 := by rw [Array.size_append]; exact h2
    wp_walk using (wpAny_updateSeq hl rfl (hz := h1) (_hz' := hz')), AutoSeq1.wpAny_loadPart' hl, AutoSeq1.wpAny_loadPart' hb
    exact ⟨_, rfl, h⟩
def rExtT (K : PySem.W.Frag) : V → List V → Hp → VK → Prop := fun x vs H Q => ∃ (l b : Addr) (xs zs : List V), x = .ref l ∧ vs = [.ref b] ∧ H l = some (.lst xs) ∧ SqT K H b zs ∧ xs.length + zs.length ≤ sizeLine ∧ Q .non (upd H l (.lst (xs ++ zs)))
theorem mt_extT : MtM X "list.extend" (rExtT X.K) := by
  intro pins s σ H x vs v us Q I rx rv h
  obtain ⟨l, b, xs, zs, rfl, rfl, hH, hB, hz, q⟩ := h
  obtain rfl : v = Value.ref l := rx
  obtain ⟨u, rfl, ru⟩ := rv.one
  obtain rfl : u = Value.ref b := ru
  obtain ⟨z, its, n, r, hl, e⟩ := I.lstM hH
  obtain ⟨its2, r2, ⟨⟨c2, d2, dt2, s2⟩, e2, hc, n2, hd⟩, z2⟩ := I.tuple hB
  simp only at hc hd
  subst hc
  subst hd
  have l2 := r2.length
  have hsz : its.toArray.size + its2.toArray.size ≤ sizeLine := by rw [List.size_toArray, List.size_toArray]; omega
  have nl : ¬ (!its.toArray.isEmpty && Builtin.List.listTooLong (its.toArray.size + its2.toArray.size)) = true := by
    rw [notLongL hsz, Bool.and_false]
    exact Bool.false_ne_true
  refine call_meets PySem.F.slot_list_extend ⟨_, e, rfl⟩ PySem.F.entry_list_extend (PySem.F.args_list_extend_2 _ _) (extend_tup l its.toArray n b its2.toArray n2 d2 s2 nl (by omega) (by omega)) ⟨e, e2, ?_⟩
  refine ⟨.non, _, I.lset (its' := its ++ its2) hH e (by simp) (r.append r2) ?_, rfl, q⟩
  rw [List.length_append]
  omega
def tpOf : D → Option (List D)
  | .tup xs => some xs
  | .wt xs => some xs
  | _ => none
def extT : RDM := fun x ys S Q => ∃ a xs y zs, x = .ref a ∧ ys = [y] ∧ S a = some (.lst xs) ∧ tpOf y = some zs ∧ xs.length + zs.length ≤ sizeLine ∧ Q .non (up S a (.lst (xs ++ zs)))
theorem md_extT : MtR X "list.extend" (lM X.K extT) := by
  intro pins s σ H v vs vv us Q I rv rvs hh
  obtain ⟨N, x, ys, S, Q', rx, rxs, rs, ⟨a, xs, y, zs, rfl, rfl, e, hy, hz, q⟩, kk⟩ := hh
  obtain ⟨w, rfl, rw'⟩ := rxs.one'
  obtain ⟨ws, h1, h2⟩ := rs.ob a _ e
  obtain ⟨b, vs, rfl, hs, r3⟩ : ∃ b vs, w = .ref b ∧ SqT X.K H b vs ∧ RDs ⟨X.K, N⟩ H S vs zs := by
    cases y with
    | tup ds =>
      cases hy
      obtain ⟨b, vs, rfl, t, r⟩ := rw'.tup_
      exact ⟨b, vs, rfl, .of t, r⟩
    | wt ds =>
      cases hy
      obtain ⟨b, vs, rfl, t, r⟩ := rw'.wt_
      exact ⟨b, vs, rfl, .inr t, r⟩
    | _ => cases hy
  obtain ⟨b1, b2⟩ := rs.write (o := .lst (ws ++ vs)) (m' := .lst (xs ++ zs)) e fun le => ⟨_, upd_same, (h2.append r3).le le⟩
  exact mt_extT pins s σ H v _ vv us Q I rv rvs ⟨a, b, ws, vs, rx.at_, rfl, h1, hs, by rw [h2.length, r3.length]; exact hz, kk _ _ _ _ ⟨b2, b1⟩ (.of _) q⟩
end
end DL

/-! Data layer, sixteenth part: isinstance, int(bool), lists times, written-out dicts, lists taken apart, sorted(dict). -/
namespace DL
open PySem L2 PyProof.Rows
section
variable {X : Cx} {k : Nat}

/-! ### isinstance(x, T), T a built-in class -/
def tyN (S : Sto) : D → Option String
  | .at .non => some "NoneType"
  | .at (.bl _) => some "bool"
  | .at (.int _) => some "int"
  | .at (.str _) => some "str"
  | .at (.ref a) => match S a with
    | some (.lst _) => some "list"
    | some (.dk _) => some "dict"
    | some (.dt _) => some "dict"
    | _ => none
  | .tup _ => some "tuple"
  | .wt _ => some "tuple"
  | .fl _ => some "list"
  | _ => none
def kis (t c : String) : Bool := t == c || (t == "bool" && c == "int")
theorem kis_ok (K : PySem.W.Frag) : ∀ t ∈ ["NoneType", "bool", "int", "str", "list", "dict", "tuple"], ∀ c ∈ ["bool", "int", "str", "list", "dict", "tuple"], PySem.W.kitOne K (.type t) (.type c) = some (kis t c) := by
  intro t ht c hc
  simp only [List.mem_cons, List.not_mem_nil, or_false] at ht hc
  rcases ht with rfl | rfl | rfl | rfl | rfl | rfl | rfl <;> rcases hc with rfl | rfl | rfl | rfl | rfl | rfl <;> rfl
theorem tyN_mem {S : Sto} {x : D} {t : String} (h : tyN S x = some t) : t ∈ ["NoneType", "bool", "int", "str", "list", "dict", "tuple"] := by
  unfold tyN at h
  split at h <;> first | (cases h; simp) | (split at h <;> first | (cases h; simp) | cases h) | cases h
theorem tyX_of {K : Kx} {H : Hp} {S : Sto} {v : V} {x : D} {t : String} (rs : RS K H S) (r : RD K H S v x) (h : tyN S x = some t) : TyX K.k H v (.type t) := by
  cases x with
  | tup xs =>
    cases h
    obtain ⟨a, vs, rfl, e, _⟩ := r.tup_
    exact .base (.tup e)
  | wt xs =>
    cases h
    obtain ⟨a, vs, rfl, ⟨o, its, n, e, c, _⟩, _⟩ := r.wt_
    exact .kTuple e c
  | fl xs =>
    cases h
    obtain ⟨a, vs, rfl, fz, _⟩ := r.fl_
    rcases fz with ⟨e, _, _⟩ | ⟨o, its, n, e, c, _⟩
    · rcases e with e | ⟨o, e⟩
      · exact .base (.lst e)
      · exact .base (.frz e)
    · exact .kList e c
  | «at» v' =>
    have e := r.at_
    subst e
    cases v with
    | non => cases h; exact .base .non
    | bl b => cases h; exact .base (.bl b)
    | int i => cases h; exact .base (.int i)
    | str z => cases h; exact .base (.str z)
    | ref a =>
      unfold tyN at h
      dsimp only at h
      split at h
      · rename_i ys e
        cases h
        obtain ⟨vs, h1, _⟩ := rs.ob a _ e
        exact .base (.lst h1)
      · rename_i ys e
        cases h
        obtain ⟨vs, h1, _⟩ := rs.ob a _ e
        exact .base (.dK h1)
      · rename_i ys e
        cases h
        obtain ⟨vs, h1, _⟩ := rs.ob a _ e
        exact .base (.dT h1)
      · cases h
    | _ => cases h
def dIsi (T : String) (te : TDE) : TDE := fun δ S Q => te δ S fun x S1 => ∃ t, tyN S1 x = some t ∧ Q (.bl (kis t T)) S1
theorem de_isi {T : Str} {tn : String} {e : Expr} {te : TDE} {p p2 pos : Pos} (hg : Gl X "isinstance") (hm : X.mg "isinstance" = none) (hg2 : Gl X T) (hm2 : X.mg T = none) (he : PE X e (lE X.K te))
    (hv2 : bootBuiltins T = some (.type tn) := by decide +kernel) (hT : tn ∈ ["bool", "int", "str", "list", "dict", "tuple"] := by decide) (hn : T ≠ "__name__" := by decide) (hd : (T == ("__debug__" : Str)) = false := by decide)
    (hs2 : starEach [.Name T p2] X.env = (false, eval (.Name T p2) X.env) :: starEach [] X.env := by rfl) (hs : starEach [e, .Name T p2] X.env = (false, eval e X.env) :: starEach [.Name T p2] X.env := by rfl) (hpl : (backTo pos (starEach [.Name T p2] X.env)).any (·.1) = false := by rfl) :
    PE X (.Call (.Name "isinstance" p) [e, .Name T p2] [] pos) (lE X.K (dIsi tn te)) :=
  PE.wk (pe_callB call_isi hg hm (by decide +kernel) (pa_cons he (pa_cons (pe_bltn (v := .ty tn) hg2 hm2 hv2 rfl hn hd) pa_nil hs2) hs) (by decide) (by decide) hs hpl) fun σ H Q ⟨N, δ, S, Q', re, rs, q, kk⟩ => by
    refine ⟨N, δ, S, _, re, rs, q, fun x S1 v H1 b1 rx q1 => ?_⟩
    obtain ⟨t, ht, q1⟩ := q1
    exact ⟨v, .ty tn, .type t, .type tn, kis t tn, rfl, .ty tn, tyX_of b1.rs rx ht, kis_ok _ t (tyN_mem ht) tn hT, kk _ S1 _ H1 b1 (.of _) q1⟩

/-! ### int(b) -/
def intB : RDL := fun ds S Q => (∃ b, ds = [.bl b] ∧ Q (.int (if b then 1 else 0)) S) ∨ ∃ i, ds = [.int i] ∧ Q (.int i) S
theorem cd_int1 : CallR X (.type "int") (lL X.K intB) := by
  intro pins s σ H vs us Q I r hh
  obtain ⟨N, ds, S, Q', rd, rs, q, kk⟩ := hh
  rcases q with ⟨b, rfl, q⟩ | ⟨b, rfl, q⟩
  · obtain ⟨v, rfl, rx⟩ := rd.one'
    exact call_int1 pins s σ H _ us Q I r (.inr ⟨b, by rw [rx.at_], kk _ S _ H (.refl rs) (.of _) q⟩)
  · obtain ⟨v, rfl, rx⟩ := rd.one'
    exact call_int1 pins s σ H _ us Q I r (.inl ⟨b, by rw [rx.at_], kk _ S _ H (.refl rs) (.of _) q⟩)

/-! ### a list times an int -/
def mulL : RD2 := fun x y S Q => ∃ a i xs, x = .ref a ∧ y = .int i ∧ S a = some (.lst xs) ∧ -(2 ^ 63) ≤ i ∧ i < 2 ^ 63 ∧ xs.length * i.toNat ≤ sizeLine ∧ Q (.fl (List.replicate i.toNat xs).flatten) S
theorem rds_rep {K : Kx} {H : Hp} {S : Sto} {vs : List V} {ds : List D} (r : RDs K H S vs ds) : ∀ n, RDs K H S (List.replicate n vs).flatten (List.replicate n ds).flatten
  | 0 => .nil
  | n + 1 => by
    rw [List.replicate_succ, List.replicate_succ, List.flatten_cons, List.flatten_cons]
    exact r.append (rds_rep r n)
theorem od_mulL : OpR X (binaryOp .Mult) (l2 X.K mulL) := by
  intro pins s σ H v u vv uu Q I rv ru h'
  obtain ⟨N, x, y, S, Q', rx, ry, rs, ⟨a, i, xs, rfl, rfl, e, h1, h2, hz, q⟩, kk⟩ := h'
  obtain ⟨vs, h3, h4⟩ := rs.ob a _ e
  refine op_rep pins s σ H _ _ _ _ Q I rv ru ⟨a, i, vs, rx.at_, ry.at_, h3, h1, h2, by rw [h4.length]; exact hz, fun p np => ?_⟩
  obtain ⟨b1, r1⟩ := new_fl rs np (rds_rep h4 i.toNat)
  exact kk _ S _ _ b1 r1 q

/-! ### {"a": 1, ..}, all written -/
def dDlit (kvs : List (Key × V)) : TDE := fun _ S Q => ∀ p, S p = none → Q (.ref p) (up S p (.dk ((mergeK [] kvs).map fun q => (q.1, .at q.2))))
theorem tPairs_lit : ∀ (kvs : List (Key × V)) (σ : L2.St) (H : Hp) (Q : List (V × V) → Hp → Prop), Q (kvs.map fun kv => (kV kv.1, kv.2)) H → tPairs (kvs.map fun kv => (tC (kV kv.1), tC kv.2)) σ H Q
  | [], _, _, _, q => q
  | (k, v) :: r, σ, H, Q, q => tPairs_lit r σ H _ q
theorem de_dlit (kvs : List (Key × V)) {keys : List (Option Expr)} {values : List Expr} {pos : Pos} (h : PPs X pos keys values (kvs.map fun kv => (tC (kV kv.1), tC kv.2))) (hall : keys.all (·.isSome) = true := by rfl) (hl : keys.length = values.length := by rfl) (h0 : keys ≠ [] := by exact List.cons_ne_nil _ _)
    (h15 : keys.length ≤ 15 := by decide) (h16 : kvs.length ≤ 15 := by decide) : PE X (.Dict keys values pos) (lE X.K (dDlit kvs)) :=
  PE.wk (pe_disp h hall hl h0 h15) fun σ H Q ⟨N, δ, S, Q', re, rs, q, kk⟩ p np => by
    refine tPairs_lit kvs σ _ _ ⟨upd_same, kvs, rfl, h16, ?_⟩
    have e : upd (upd H p (.dK [])) p (.dK (mergeK [] kvs)) = upd H p (.dK (mergeK [] kvs)) := by
      funext a
      unfold upd
      split <;> rfl
    rw [e]
    obtain ⟨b1, b2⟩ := rs.new (o := .dK (mergeK [] kvs)) (m := .dk ((mergeK [] kvs).map fun q => (q.1, .at q.2))) np fun le => ⟨_, upd_same, by rw [List.map_map]; rfl, by
      have := RDs.of_atoms (K := ⟨X.K, N⟩) (H := upd H p (.dK (mergeK [] kvs))) (S := up S p (.dk ((mergeK [] kvs).map fun q => (q.1, .at q.2)))) ((mergeK [] kvs).map (·.2))
      rw [List.map_map] at this ⊢
      exact this⟩
    exact kk _ _ _ _ ⟨b2, b1⟩ (.of _) (q p (rs.free np))

/-! ### a, b, .. = a list -/
def gdLst (n : Nat) (t : TDGs) : TDG := fun d δ S Q => ∃ ds, lsOf S d = some ds ∧ ds.length = n ∧ t ds δ S Q
theorem dg_lst {es : List Expr} {kk : Nat} {pos : Pos} {t : TDGs} {n : Nat} (hc : X.calm = true) (h : PGs X es (lGs X.K t))
    (hn : (assignEach es X.env).length = n := by rfl) (hst : (assignEach es X.env).findIdx? (·.1) = none := by rfl) : PG X (.Tuple es kk pos) (lG X.K (gdLst n t)) :=
  PG.wk (pg_unl hc h hn hst) fun v σ H Q ⟨N, d, δ, S, Q', rd, re, rs, q, k⟩ => by
    obtain ⟨ds, hl, hn', q⟩ := q
    obtain ⟨a, vs, rfl, sq, rv⟩ := ls_sq rs rd hl
    exact ⟨a, vs, rfl, sq, by rw [rv.length, hn'], N, ds, δ, S, Q', rv, re, rs, q, k⟩

/-! ### sorted(d), fewer than 64 keys, texts -/
def srtDk : RDL := fun ds S Q => ∃ a kvs, ∃ ks : List Str, ds = [.ref a] ∧ S a = some (.dk kvs) ∧ kvs.map (·.1) = ks.map Sum.inr ∧ ks.length < 64 ∧ ∀ ys : List Str, ys.Perm ks → sortedS ys = true → Q (.fl (ys.map D.str)) S
theorem cd_sortedDk (hc : X.calm = true) : CallR X (.builtin "sorted") (lL X.K srtDk) := by
  intro pins s σ H vs us Q I r hh
  obtain ⟨N, ds, S, Q', rd, rs, ⟨a, kvs, ks, rfl, e, hk, h64, q⟩, kk⟩ := hh
  obtain ⟨v, rfl, rx⟩ := rd.one'
  have := rx.at_
  subst this
  obtain ⟨gs, h1, h2, h3⟩ := rs.ob a _ e
  refine call_sortedD hc pins s σ H _ us Q I r ⟨a, gs, ks, rfl, .inl h1, h2.trans hk, h64, fun ys p hp hs np => ?_⟩
  obtain ⟨b1, r1⟩ := new_fl rs np (rds_strs ys)
  exact kk _ S _ _ b1 r1 (q ys hp hs)
end
end DL

/-! Data layer, seventeenth part: a written dict's facts. -/
namespace DL
open PySem L2 PyProof.Rows
theorem look_all {K : PySem.W.Frag} {w : World} {a : Addr} (kvs : List (Str × Str)) (h : ∀ q ∈ kvs, KDct K w a q.1 (.str q.2)) : ∀ z v, lookS kvs z = some v → KDct K w a z (.str v) := by
  intro z v e
  unfold lookS at e
  obtain ⟨q, hq, rfl⟩ := Option.map_eq_some_iff.mp e
  have h1 := List.find?_some hq
  have h2 : q.1 = z := by simpa using h1
  subst h2
  exact h q (List.mem_of_find?_eq_some hq)
end DL

/-! Data layer, eighteenth part: words for the newer readings. -/
namespace DL
open PySem L2 PyProof.Rows
theorem zip_at {a b : D} {ds es : List D} {S : Sto} {i : Nat} {x y : D} (h1 : sdOf S a = some ds) (h2 : sdOf S b = some es) (hx : ds[i]? = some x) (hy : es[i]? = some y) : zipMI a b i S = some (some (.tup [x, y])) := by
  have l1 := (List.getElem?_eq_some_iff.mp hx).1
  have l2 := (List.getElem?_eq_some_iff.mp hy).1
  unfold zipMI
  rw [h1, h2]
  simp only [Option.bind_some]
  rw [if_pos ⟨by omega, by omega⟩, hx, hy]
  rfl
theorem zip_no {a b : D} {ds es : List D} {S : Sto} {i : Nat} (h1 : sdOf S a = some ds) (h2 : sdOf S b = some es) (hi : i ≤ ds.length) (hj : i ≤ es.length) (he : i = ds.length ∨ i = es.length) : zipMI a b i S = some none := by
  unfold zipMI
  rw [h1, h2]
  simp only [Option.bind_some]
  rw [if_pos ⟨hi, hj⟩]
  rcases he with rfl | rfl
  · rw [List.getElem?_eq_none (Nat.le_refl _)]; rfl
  · rw [List.getElem?_eq_none (l := es) (Nat.le_refl _)]
    cases ds[es.length]? <;> rfl
theorem sl_t {xs : List D} {lo hi : Option Int} {S : Sto} {Q : KD} {mu : Bool} (q : Q (.tup (cutD xs lo hi)) S) : sliceD mu (.tup xs) lo hi S Q := q
theorem cut_1 (x : D) (xs : List D) : cutD (x :: xs) (some 1) none = xs := by
  unfold cutD
  simp [HT.sIx]
/-- a list that is handed back and that nobody else holds -/
theorem rt_fl {p : Addr} {ds : List D} {S : Sto} {Q : KD} (h : S p = some (.lst ds)) (q : Q (.fl ds) (del S p)) : ∃ d1 S1, VW (.ref p) S d1 S1 ∧ Q d1 S1 := ⟨_, _, .fz sub_del h del_same, q⟩
theorem del_up {S : Sto} {p : Addr} {o : MO} (h : S p = none) : del (up S p o) p = S := by
  funext a
  by_cases e : a = p
  · subst e; rw [del_same, h]
  · rw [del_ne e, up_ne e]
/-- a dict made of items that stand -/
theorem dc_seq {ds : List D} {S0 : Sto} {Nx : Sto → Prop} {B : (Nat → Sto → Prop) → Nat → D → Sto → Prop} (Pv : Nat → Sto → Prop) (h0 : Pv 0 S0)
    (hs : ∀ i x S, ds[i]? = some x → Pv i S → B Pv i x S) (hd : ∀ i S, ds.length ≤ i → Pv i S → Nx S) :
    ∃ (W : Nat → Sto → Prop) (n : Nat), W 0 S0 ∧ ∀ i S2, W i S2 → ∃ r, seqI ds i S2 = some r ∧ (r = none → Nx S2) ∧ ∀ x, r = some x → i < n ∧ B W i x S2 :=
  ⟨Pv, ds.length, h0, fun i S p => ⟨ds[i]?, rfl, fun e => hd i S (List.getElem?_eq_none_iff.mp e) p, fun x e => ⟨(List.getElem?_eq_some_iff.mp e).1, hs i x S e p⟩⟩⟩
/-- handed back, and a thing forgotten that was new -/
theorem rt_up {d : D} {p : Addr} {o : MO} {S : Sto} {Q : KD} (h : S p = none) (q : Q d S) : ∃ d1 S1, VW d (up S p o) d1 S1 ∧ Q d1 S1 := by
  have e : Sub S (up S p o) := by
    have := sub_del (S := up S p o) (p := p)
    rw [del_up h] at this
    exact this
  exact rt_sub e q
end DL

/-! Data layer: objects of own classes: made, read, stored, their methods; lists of a comprehension that will be changed. -/
namespace DL
open PySem L2 PyProof.Rows
/-! ### attributes -/
def putFD (f : Str) (d : D) : List (Str × D) → List (Str × D)
  | [] => [(f, d)]
  | (g, w) :: r => if g = f then (g, d) :: r else (g, w) :: putFD f d r
theorem put_rel {K : Kx} {H : Hp} {S : Sto} {f : Str} {v : V} {d : D} (rv : RD K H S v d) : ∀ {gs : List (Str × V)} {fs : List (Str × D)}, gs.map (·.1) = fs.map (·.1) → RDs K H S (gs.map (·.2)) (fs.map (·.2)) →
    (L2.putF f v gs).map (·.1) = (putFD f d fs).map (·.1) ∧ RDs K H S ((L2.putF f v gs).map (·.2)) ((putFD f d fs).map (·.2))
  | [], [], _, _ => ⟨rfl, .cons rv .nil⟩
  | [], _ :: _, e, _ => by cases e
  | _ :: _, [], e, _ => by cases e
  | (g, w) :: gs, (g', w') :: fs, e, r => by
    rw [List.map_cons, List.map_cons, List.cons.injEq] at e
    obtain ⟨e1, e2⟩ := e
    dsimp only at e1
    subst e1
    obtain ⟨r1, r2⟩ := RDs.of_cons r
    show ((if g = f then (g, v) :: gs else (g, w) :: L2.putF f v gs) : List (Str × V)).map (·.1) = _ ∧ RDs K H S (((if g = f then (g, v) :: gs else (g, w) :: L2.putF f v gs) : List (Str × V)).map (·.2)) _
    unfold putFD
    by_cases h : g = f
    · rw [if_pos h, if_pos h]
      exact ⟨by rw [List.map_cons, List.map_cons, e2], .cons rv r2⟩
    · rw [if_neg h, if_neg h]
      obtain ⟨a, b⟩ := put_rel rv e2 r2
      exact ⟨by rw [List.map_cons, List.map_cons, a], .cons r1 b⟩
theorem look_rel {K : Kx} {H : Hp} {S : Sto} {f : Str} : ∀ {gs : List (Str × V)} {fs : List (Str × D)}, gs.map (·.1) = fs.map (·.1) → RDs K H S (gs.map (·.2)) (fs.map (·.2)) →
    (fs.lookup f = none → gs.lookup f = none) ∧ ∀ d, fs.lookup f = some d → ∃ v, gs.lookup f = some v ∧ RD K H S v d
  | [], [], _, _ => ⟨fun _ => rfl, fun _ e => by cases e⟩
  | [], _ :: _, e, _ => by cases e
  | _ :: _, [], e, _ => by cases e
  | (g, w) :: gs, (g', w') :: fs, e, r => by
    rw [List.map_cons, List.map_cons, List.cons.injEq] at e
    obtain ⟨e1, e2⟩ := e
    dsimp only at e1
    subst e1
    obtain ⟨r1, r2⟩ := RDs.of_cons r
    obtain ⟨a, b⟩ := look_rel (f := f) e2 r2
    rw [List.lookup_cons, List.lookup_cons]
    cases h : (f == g) with
    | true => exact ⟨fun e => (nomatch (show some w' = none from e)), fun d e => by
      have e : some w' = some d := e
      cases e
      exact ⟨w, rfl, r1⟩⟩
    | false => exact ⟨a, b⟩
section
variable {X : Cx} {CX : CXT} {k k' : Nat} {f C : Addr} {fd : FuncData} {ps : List Str} {sp : Sp} {E : XK}
variable {x m fn : Str} {p pos apos : Pos} {e o value : Expr} {es : List Expr} {ta : TE} {t : TA} {dv : List V} {ds : List Value}
theorem pg_meth {pl : Sem Bool} (he : PE X o ta) (c : Cls X.K C) (hm : Meth X.K C m f) (G : CallG X f sp E dv) (ha : PA X (e :: es) t) (hst : starEach (e :: es) X.env = (false, eval e X.env) :: starEach es X.env := by rfl) (hpl : (backTo pos (starEach es X.env)).any (·.1) = false := by rfl) (ht : eval (.Call (.Attribute o m apos) (e :: es) [] pos) X.env = (do
      let ov ← eval o X.env
      standAt apos.atName
      let (f, first) ← holding [ov] (getMethod ov m pl)
      callWith pos f first (backTo pos (starEach (e :: es) X.env)) (backToKw pos (keywordEach [] X.env))) := by rfl) :
    PE X (.Call (.Attribute o m apos) (e :: es) [] pos) (tMeth C m sp dv E ta t) := by
  constructor
  intro pins s σ H Q I h
  refine PySem.W.methodCall_KW (thn (he.run pins s σ H _ I h) ?_) ht
  rintro u s1 ⟨x, H1, I1, rx, a, dx, fs, rfl, ea, l, q⟩
  cases rx
  refine getmeth_ok I1 ea c hm l ?_
  refine PySem.W.callWith_K (h₀ := X.base) I1.ok.mod.kin hm.kp ?_ hst hpl
  refine thn (ha.run pos pins s1 σ H1 _ I1 q) ?_
  rintro us s2 ⟨vs, H2, I2, r, q2⟩
  exact ⟨I2.kIn, G pins σ H2 s2 Q (.ref a :: us) (.ref a :: vs) I2 (.cons rfl r) q2⟩
theorem pg_meth0 {pl : Sem Bool} (he : PE X o ta) (c : Cls X.K C) (hm : Meth X.K C m f) (G : CallG X f sp E dv) (ht : eval (.Call (.Attribute o m apos) [] [] pos) X.env = (do
      let ov ← eval o X.env
      standAt apos.atName
      let (f, first) ← holding [ov] (getMethod ov m pl)
      callWith pos f first (backTo pos (starEach [] X.env)) (backToKw pos (keywordEach [] X.env))) := by rfl) :
    PE X (.Call (.Attribute o m apos) [] [] pos) (tMeth C m sp dv E ta tNil) := by
  constructor
  intro pins s σ H Q I h
  refine PySem.W.methodCall_KW (thn (he.run pins s σ H _ I h) ?_) ht
  rintro u s1 ⟨x, H1, I1, rx, a, dx, fs, rfl, ea, l, q⟩
  cases rx
  refine getmeth_ok I1 ea c hm l ?_
  refine PySem.W.callWith_K0 I1.kIn hm.kp ?_
  exact G pins σ H1 s1 Q [.ref a] [.ref a] I1 (.cons rfl .nil) q
theorem run_makeG {pins : List (Addr × Obj)} {σ : L2.St} {H : Hp} {s : Shared} {Q : VK} {us : List Value} {vs : List V} (M : Mk X.K C f) (F : FnG X.prog X.w X.K X.mg X.base CX k f fd ps sp) (hr : Rg (k + 1) X.A) (hb : Binds X.K fd ps ds) (hd : Vals dv ds) (hx : Passes CX X E) (I : Inv X pins σ H s) (r : Vals vs us)
    (h : ∀ x dx : Addr, H x = none → H dx = none → dx ≠ x → sp (V.ref x :: (vs ++ dv)) (upd (upd H dx (.own x)) x (.ins C dx [])) (fun v H2 => v = V.non ∧ Q (V.ref x) H2) E) :
    wpAny (model X.prog X.w) X.A (call (.ref C) us) (EP X pins σ Q) X.xe s := by
  have hq := h (s.heap.objs.size + 1) s.heap.objs.size (I.hok.fresh (Nat.le_succ _)) (I.hok.fresh (Nat.le_refl _)) (Nat.ne_of_lt (Nat.lt_succ_self _))
  have I2 := I.made (C := C)
  have r2 : Vals (V.ref (s.heap.objs.size + 1) :: (vs ++ dv)) (Value.ref (s.heap.objs.size + 1) :: (us ++ ds)) := .cons rfl (r.append hd)
  have hl : (Value.ref (s.heap.objs.size + 1) :: (us ++ ds)).length = ps.length := r2.length.symm.trans (F.len _ _ _ _ hq)
  apply wpAny_call
  refine make_map I.kIn M.makes M.init (beq_iff_eq.mp M.fn) ?_
  refine codeAny_mono (F.run (X.A.under (Code.builtin "type.__call__" { pos := Value.ref C :: us })) X.stack _ _ ⟨Value.ref (s.heap.objs.size + 1) :: us, []⟩ (Value.ref (s.heap.objs.size + 1) :: (us ++ ds)) (V.ref (s.heap.objs.size + 1) :: (vs ++ dv)) _ E (hr.r.make C us []) ?_ (Env0.make I2.env0 C us []) (hb _ (Value.ref (s.heap.objs.size + 1) :: us) I2.kIn hl) r2 hq) ?_
  · have e : Code.guards (Code.builtin "type.__call__" { pos := Value.ref C :: us }) = [] := by
      unfold Code.guards
      rw [if_neg (by simp [Code.isGuard]; decide +kernel)]
    unfold Around.under
    dsimp only
    rw [e, hr.g]
    rfl
  · intro res s' hq'
    match res, hq' with
    | .error e, hq' => exact hx pins σ _ _ e s' I2 hq'
    | .ok .next, hq' => exact hq'.elim
    | .ok .brk, hq' => exact hq'.elim
    | .ok .cont, hq' => exact hq'.elim
    | .ok (.ret u), hq' =>
      obtain ⟨v, H', I3, rv, ev, q3⟩ := I2.after hq'
      subst ev
      exact ⟨rv, V.ref (s.heap.objs.size + 1), H', I3, rfl, q3⟩
theorem pg_make (M : Mk X.K C f) (F : FnG X.prog X.w X.K X.mg X.base CX k f fd ps sp) (hr : Rg (k + 1) X.A) (hg : Gl X x) (hm : X.mg x = some (.ref C)) (hb : Binds X.K fd ps ds) (hd : Vals dv ds) (hx : Passes CX X E) (ha : PA X (e :: es) t) (hdb : (x == ("__debug__" : Str)) = false := by decide)
    (he : starEach (e :: es) X.env = (false, eval e X.env) :: starEach es X.env := by rfl) (hpl : (backTo pos (starEach es X.env)).any (·.1) = false := by rfl) : PE X (.Call (.Name x p) (e :: es) [] pos) (tMake C sp dv E t) := by
  constructor
  intro pins s σ H Q I h
  apply wpAny_Call_Name_kw
  apply ld_glob I hg hm _ hdb
  apply PySem.W.callWith_K (h₀ := X.base) I.ok.mod.kin M.kp _ he hpl
  apply thn (ha.run pos pins s σ H _ I h)
  rintro us s1 ⟨vs, H1, I1, rv, q⟩
  exact ⟨I1.kIn, run_makeG M F hr hb hd hx I1 rv q⟩
theorem pg_make0 (M : Mk X.K C f) (F : FnG X.prog X.w X.K X.mg X.base CX k f fd ps sp) (hr : Rg (k + 1) X.A) (hg : Gl X x) (hm : X.mg x = some (.ref C)) (hb : Binds X.K fd ps ds) (hd : Vals dv ds) (hx : Passes CX X E) (hdb : (x == ("__debug__" : Str)) = false := by decide) : PE X (.Call (.Name x p) [] [] pos) (tMake C sp dv E tNil) := by
  constructor
  intro pins s σ H Q I h
  apply wpAny_Call_Name_kw
  apply ld_glob I hg hm _ hdb
  apply PySem.W.callWith_K0 I.kIn M.kp
  exact run_makeG M F hr hb hd hx I .nil h
end
/-! ### over data -/
section
variable {X : Cx} {k k' : Nat} {C : Addr} {ps : List Str} {sp : SpD} {st : Stmt}
variable {x m qual fn : Str} {p pos apos : Pos} {e o value : Expr} {es : List Expr} {ta tv : TDE} {t : TDA}
/-- the attribute's value -/
def dFld (C : Addr) (f : Str) (ta : TDE) : TDE := fun δ S Q => ta δ S fun x S1 => ∃ a fs d, x = .ref a ∧ S1 a = some (.ins C fs) ∧ fs.lookup f = some d ∧ Q d S1
theorem de_fld (c : Cls X.K C) (n : NoAttr X.K C fn) (he : PE X o (lE X.K ta)) (hb : attributeBase o fn X.env (eval o X.env) = eval o X.env := by rfl) : PE X (.Attribute o fn pos) (lE X.K (dFld C fn ta)) :=
  PE.wk (pe_fld he hb) fun σ H Q ⟨N, δ, S, Q', re, rs, q, kk⟩ => by
    refine ⟨N, δ, S, _, re, rs, q, fun x S1 v H1 b1 rx q1 => ?_⟩
    obtain ⟨a, fs, d, rfl, e, l, q1⟩ := q1
    obtain ⟨dx, gs, h1, h2, h3⟩ := b1.rs.ob a _ e
    obtain ⟨w, h4, h5⟩ := (look_rel h2 h3).2 d l
    exact ⟨a, C, dx, gs, w, rx.at_, h1, c, n, h4, kk d S1 w H1 b1 h5 q1⟩
/-- o.f = value -/
def dFldSet (C : Addr) (f : Str) (ta tv : TDE) : TDS := fun D δ S => tv δ S fun y S1 => ta δ S1 fun x S2 => ∃ a fs, x = .ref a ∧ S2 a = some (.ins C fs) ∧ fs.length < 1000 ∧ D.nx δ (up S2 a (.ins C (putFD f y fs)))
theorem ds_fld (c : Cls X.K C) (n : NoAttr X.K C fn) (ho : PE X o (lE X.K ta)) (hv : PE X value (lE X.K tv)) (hs : swapsWith value (some (.Attribute o fn apos)) pos.line X.env = pure false := by rfl) : PS X (.Assign [.Attribute o fn apos] value pos) (lS X.K (dFldSet C fn ta tv)) :=
  PS.wk (ps_fld ho hv hs) fun D σ H ⟨N, δ, S, D', re, rs, q, l⟩ => by
    refine ⟨N, δ, S, _, re, rs, q, fun y S1 v H1 b1 ry q1 => ?_⟩
    refine ⟨N, δ, S1, _, re.le (rs.le b1.fr), b1.rs, q1, fun x S2 u H2 b2 rx q2 => ?_⟩
    obtain ⟨a, fs, rfl, e, hl, q2⟩ := q2
    obtain ⟨dx, gs, h1, h2, h3⟩ := b2.rs.ob a _ e
    have ry2 := ry.le (b1.rs.le b2.fr)
    obtain ⟨p1, p2⟩ := put_rel (f := fn) ry2 h2 h3
    obtain ⟨c1, c2⟩ := b2.rs.write (o := .ins C dx (L2.putF fn v gs)) (m' := .ins C (putFD fn y fs)) e fun le => ⟨dx, _, upd_same, p1, p2.le le⟩
    have bb := (b1.trans b2).trans ⟨c2, c1⟩
    refine ⟨a, C, dx, gs, rx.at_, h1, c, n, ?_, l.nx δ _ σ _ bb (re.le (rs.le bb.fr)) q2⟩
    have := congrArg List.length h2
    rw [List.length_map, List.length_map] at this
    omega
/-- o.f += value, of ints -/
def dFldAdd (C : Addr) (f : Str) (ta tv : TDE) : TDS := fun D δ S => ta δ S fun x S1 => ∃ a fs i, x = .ref a ∧ S1 a = some (.ins C fs) ∧ fs.lookup f = some (.int i) ∧ tv δ S1 fun y S2 => ∃ j fs', y = .int j ∧ S2 a = some (.ins C fs') ∧ fs'.length < 1000 ∧ D.nx δ (up S2 a (.ins C (putFD f (.int (i + j)) fs')))
theorem ds_fldAdd (c : Cls X.K C) (n : NoAttr X.K C fn) (ho : PE X o (lE X.K ta)) (hv : PE X value (lE X.K tv)) : PS X (.AugAssign (.Attribute o fn apos) .Add value pos) (lS X.K (dFldAdd C fn ta tv)) :=
  PS.wk (ps_fldaug ho hv in_add) fun D σ H ⟨N, δ, S, D', re, rs, q, l⟩ => by
    refine ⟨N, δ, S, _, re, rs, q, fun x S1 v H1 b1 rx q1 => ?_⟩
    obtain ⟨a, fs, i, rfl, e, l0, q1⟩ := q1
    obtain ⟨dx, gs, h1, h2, h3⟩ := b1.rs.ob a _ e
    obtain ⟨w, h4, h5⟩ := (look_rel h2 h3).2 _ l0
    refine ⟨a, C, dx, gs, w, rx.at_, h1, c, n, h4, N, δ, S1, _, re.le (rs.le b1.fr), b1.rs, q1, fun y S2 u H2 b2 ry q2 => ?_⟩
    obtain ⟨j, fs', rfl, e', hl, q2⟩ := q2
    obtain ⟨dx', gs', g1, g2, g3⟩ := b2.rs.ob a _ e'
    refine ⟨i, j, h5.at_, ry.at_, dx', gs', g1, ?_, ?_⟩
    · have := congrArg List.length g2
      rw [List.length_map, List.length_map] at this
      omega
    · obtain ⟨p1, p2⟩ := put_rel (f := fn) (RD.of (K := ⟨X.K, N⟩) (H := H2) (S := S2) (.int (i + j))) g2 g3
      obtain ⟨c1, c2⟩ := b2.rs.write (o := .ins C dx' (L2.putF fn (.int (i + j)) gs')) (m' := .ins C (putFD fn (.int (i + j)) fs')) e' fun le => ⟨dx', _, upd_same, p1, p2.le le⟩
      have bb := (b1.trans b2).trans ⟨c2, c1⟩
      exact l.nx δ _ σ _ bb (re.le (rs.le bb.fr)) q2
/-- a method of own classes, as its callers know it -/
structure CalM (P : Program) (w : World) (K : PySem.W.Frag) (mg : Str → Option Value) (base : Heap) (k : Nat) (C : Addr) (m qual : Str) (st : Stmt) (ps : List Str) (sp : SpD) : Prop where
  ex : ∃ f fd, FnD P w K mg base CX0 k f fd ps sp ∧ Binds K fd ps [] ∧ Meth K C m f ∧ Fun K m qual st f fd
/-- how an instance is made -/
structure CalI (P : Program) (w : World) (K : PySem.W.Frag) (mg : Str → Option Value) (base : Heap) (k : Nat) (C : Addr) (x qual : Str) (st : Stmt) (ps : List Str) (sp : SpD) : Prop where
  ex : ∃ f fd, FnD P w K mg base CX0 k f fd ps sp ∧ Binds K fd ps [] ∧ Mk K C f ∧ mg x = some (.ref C) ∧ Fun K "__init__" qual st f fd
def dMeth (C : Addr) (m : Str) (sp : SpD) (E : XD) (ta : TDE) (t : TDA) : TDE := fun δ S Q => ta δ S fun x S1 => ∃ a fs, x = .ref a ∧ S1 a = some (.ins C fs) ∧ fs.lookup m = none ∧ t δ S1 fun ds S2 => sp (.ref a :: ds) S2 Q E
theorem lift_meth {σ : L2.St} {H : Hp} {Q : VK} (h : lE X.K (dMeth C m sp X0 ta t) σ H Q) : tMeth C m (lSp X.K sp) [] E0 (lE X.K ta) (lA X.K t) σ H Q := by
  obtain ⟨N, δ, S, Q', re, rs, q, kk⟩ := h
  refine ⟨N, δ, S, _, re, rs, q, fun x S1 v H1 b1 rx q1 => ?_⟩
  obtain ⟨a, fs, rfl, e, l, q1⟩ := q1
  obtain ⟨dx, gs, h1, h2, h3⟩ := b1.rs.ob a _ e
  refine ⟨a, dx, gs, rx.at_, h1, (look_rel h2 h3).1 l, N, δ, S1, _, re.le (rs.le b1.fr), b1.rs, q1, fun ds S2 vs H2 b2 r2 q2 => ?_⟩
  show lSp X.K sp (v :: (vs ++ [])) H2 Q E0
  rw [List.append_nil, ← lX0 (K := X.K), rx.at_]
  exact lift_sp (.cons (.of _) r2) b2.rs q2 fun d S' v H' b3 => kk d S' v H' ((b1.trans b2).trans b3)
theorem de_mt (M : CalM X.prog X.w X.K X.mg X.base k C m qual st ps sp) (c : Cls X.K C) (hr : Rg k' X.A) (ho : PE X o (lE X.K ta)) (ha : PA X (e :: es) (lA X.K t)) (hk : k ≤ k' := by decide) {pl : Sem Bool} (hst : starEach (e :: es) X.env = (false, eval e X.env) :: starEach es X.env := by rfl) (hpl : (backTo pos (starEach es X.env)).any (·.1) = false := by rfl) (ht : eval (.Call (.Attribute o m apos) (e :: es) [] pos) X.env = (do
      let ov ← eval o X.env
      standAt apos.atName
      let (f, first) ← holding [ov] (getMethod ov m pl)
      callWith pos f first (backTo pos (starEach (e :: es) X.env)) (backToKw pos (keywordEach [] X.env))) := by rfl) :
    PE X (.Call (.Attribute o m apos) (e :: es) [] pos) (lE X.K (dMeth C m sp X0 ta t)) := by
  obtain ⟨f, fd, F, b, mm, fn⟩ := M.ex
  exact PE.wk (pg_meth ho c mm (F.call (hr.mono hk) b .nil pass0) ha hst hpl ht) fun σ H Q h => lift_meth h
theorem de_mt0 (M : CalM X.prog X.w X.K X.mg X.base k C m qual st ps sp) (c : Cls X.K C) (hr : Rg k' X.A) (ho : PE X o (lE X.K ta)) (hk : k ≤ k' := by decide) {pl : Sem Bool} (ht : eval (.Call (.Attribute o m apos) [] [] pos) X.env = (do
      let ov ← eval o X.env
      standAt apos.atName
      let (f, first) ← holding [ov] (getMethod ov m pl)
      callWith pos f first (backTo pos (starEach [] X.env)) (backToKw pos (keywordEach [] X.env))) := by rfl) :
    PE X (.Call (.Attribute o m apos) [] [] pos) (lE X.K (dMeth C m sp X0 ta dNil)) := by
  obtain ⟨f, fd, F, b, mm, fn⟩ := M.ex
  refine PE.wk (pg_meth0 ho c mm (F.call (hr.mono hk) b .nil pass0) ht) fun σ H Q h => ?_
  obtain ⟨N, δ, S, Q', re, rs, q, kk⟩ := h
  refine ⟨N, δ, S, _, re, rs, q, fun x S1 v H1 b1 rx q1 => ?_⟩
  obtain ⟨a, fs, rfl, e, l, q1⟩ := q1
  obtain ⟨dx, gs, h1, h2, h3⟩ := b1.rs.ob a _ e
  refine ⟨a, dx, gs, rx.at_, h1, (look_rel h2 h3).1 l, ?_⟩
  show lSp X.K sp ([v] ++ []) H1 Q E0
  rw [List.append_nil, ← lX0 (K := X.K), rx.at_]
  exact lift_sp (.cons (.of _) .nil) b1.rs q1 fun d S' v H' b3 => kk d S' v H' (b1.trans b3)
def dMake (C : Addr) (sp : SpD) (E : XD) (t : TDA) : TDE := fun δ S Q => t δ S fun ds S1 => ∀ x, S1 x = none → sp (.ref x :: ds) (up S1 x (.ins C [])) (fun d S2 => d = .non ∧ Q (.ref x) S2) E
theorem make_rs {K : Kx} {H : Hp} {S : Sto} (rs : RS K H S) {x dx : Addr} (nx : H x = none) (ndx : H dx = none) (ne : dx ≠ x) : Bh K H S (upd (upd H dx (.own x)) x (.ins C dx [])) (up S x (.ins C [])) := by
  obtain ⟨r1, f1, _⟩ := rs.laid (o := .own x) ndx
  have n2 : (upd H dx (.own x)) x = none := by rw [upd_ne ne.symm]; exact nx
  obtain ⟨r2, f2⟩ := r1.new (o := .ins C dx []) (m := .ins C []) n2 fun _ => ⟨dx, [], upd_same, rfl, .nil⟩
  exact ⟨f1.trans f2, r2⟩
theorem de_mk (M : CalI X.prog X.w X.K X.mg X.base k C x qual st ps sp) (hr : Rg k' X.A) (ha : PA X (e :: es) (lA X.K t)) (hk : k + 1 ≤ k' := by decide) (hg : Gl X x := by rfl) (hdb : (x == ("__debug__" : Str)) = false := by decide)
    (he : starEach (e :: es) X.env = (false, eval e X.env) :: starEach es X.env := by rfl) (hpl : (backTo pos (starEach es X.env)).any (·.1) = false := by rfl) : PE X (.Call (.Name x p) (e :: es) [] pos) (lE X.K (dMake C sp X0 t)) := by
  obtain ⟨f, fd, F, b, mm, mg, fn⟩ := M.ex
  refine PE.wk (pg_make mm F (hr.mono hk) hg mg b .nil pass0 ha hdb he hpl) fun σ H Q h => ?_
  obtain ⟨N, δ, S, Q', re, rs, q, kk⟩ := h
  refine ⟨N, δ, S, _, re, rs, q, fun ds S1 vs H1 b1 r1 q1 x dx nx ndx ne => ?_⟩
  have bm := make_rs (C := C) b1.rs nx ndx ne
  rw [List.append_nil, ← lX0 (K := X.K)]
  exact lift_sp (.cons (.of _) (r1.le (b1.rs.le bm.fr))) bm.rs (q1 x (b1.rs.free nx)) fun d S' v H' b3 rv q3 => by
    obtain ⟨rfl, q3⟩ := q3
    exact ⟨rv.at_, kk _ S' _ H' ((b1.trans bm).trans b3) (.of _) q3⟩
theorem de_mk0 (M : CalI X.prog X.w X.K X.mg X.base k C x qual st ps sp) (hr : Rg k' X.A) (hk : k + 1 ≤ k' := by decide) (hg : Gl X x := by rfl) (hdb : (x == ("__debug__" : Str)) = false := by decide) : PE X (.Call (.Name x p) [] [] pos) (lE X.K (dMake C sp X0 dNil)) := by
  obtain ⟨f, fd, F, b, mm, mg, fn⟩ := M.ex
  refine PE.wk (pg_make0 mm F (hr.mono hk) hg mg b .nil pass0 hdb) fun σ H Q h => ?_
  obtain ⟨N, δ, S, Q', re, rs, q, kk⟩ := h
  show ∀ x dx, _
  intro x dx nx ndx ne
  have bm := make_rs (C := C) rs nx ndx ne
  show lSp X.K sp (V.ref x :: ([] ++ [])) _ _ E0
  rw [List.append_nil, ← lX0 (K := X.K)]
  exact lift_sp (.cons (.of _) .nil) bm.rs (q x (rs.free nx)) fun d S' v H' b3 rv q3 => by
    obtain ⟨rfl, q3⟩ := q3
    exact ⟨rv.at_, kk _ S' _ H' (bm.trans b3) (.of _) q3⟩
end
/-! ### lists of a comprehension that will be changed -/
section
variable {X : Cx}
/-- [e for x in .. if ..]: W by the turn, what is made so far, the store; nobody will change the new list -/
def dLcM (wi : TDI) (g : TDG) (tt : TDT) (te : TDE) (vs : List Nat) : TDE := fun δ S Q => wi δ S fun J S1 => ∃ (W : Nat → List DL.D → Sto → Prop) (n : Nat), W 0 [] S1 ∧ ∀ i acc S2, W i acc S2 → ∃ r, J i S2 = some r ∧
  (r = none → ∀ A : Addr, S2 A = none → Q (.ref A) (up S2 A (.lst acc))) ∧
  ∀ x, r = some x → i < n ∧ acc.length < sizeLine ∧ g x (wipeD δ vs) S2 fun δ2 S3 => tt δ2 S3 fun b S4 =>
    if b = true then te δ2 S4 fun y S5 => W (i + 1) (acc ++ [y]) S5 else W (i + 1) acc S4
theorem lift_lcM {K : PySem.W.Frag} {wi : TDI} {gv : TG} {g : TDG} {tt : TDT} {te : TDE} (own : List (Str × Nat)) (hgd : ∀ N, TgC ⟨K, N⟩ (own.map (·.2)) gv g) {σ : L2.St} {H : Hp} {Q : VK} (h : lE K (dLcM wi g tt te (own.map (·.2))) σ H Q) : tLc (lI K wi) gv (lT K tt) (lE K te) (own.map (·.2)) σ H Q := by
  obtain ⟨N, δ, S, Q', re, rs, q, kk⟩ := h
  refine ⟨N, δ, S, _, re, rs, q, fun J S1 Jv H1 b1 rel q1 A hA => ?_⟩
  obtain ⟨W, n, w0, turn⟩ := q1
  have re1 := re.le (rs.le b1.fr)
  have nA := b1.rs.nhid hA
  have sA := b1.rs.free hA
  obtain ⟨M, hM⟩ : ∃ M : Addr → Prop, M = fun a => N a ∨ a = A := ⟨_, rfl⟩
  -- the new list is hidden while it is made
  obtain ⟨rsA, frA, leA⟩ := b1.rs.laid (o := .lst []) hA
  have leM : ∀ {H2 : Hp} {S2 : Sto}, TupLe ⟨K, M⟩ H2 S2 ⟨K, N⟩ H2 S2 := fun {H2 S2} => ⟨fun a xs z => z, fun _ _ z => z, fun a xs z => z.elim (fun ⟨z1, z2, z3⟩ => .inl ⟨z1, z2, fun hn => z3 (by rw [hM]; exact .inl hn)⟩) .inr⟩
  have leN : TupLe ⟨K, N⟩ H1 S1 ⟨K, M⟩ (upd H1 A (.lst [])) S1 := by
    refine ⟨leA.t, fun _ _ z => z, fun a xs z => ?_⟩
    rcases z with ⟨z1, z2, z3⟩ | z
    · have ne : a ≠ A := fun e => by subst e; rcases z1 with z1 | ⟨o, z1⟩ <;> (rw [hA] at z1; cases z1)
      refine .inl ⟨?_, z2, fun hm => ?_⟩
      · rcases z1 with z1 | ⟨o, z1⟩
        · exact .inl (by rw [upd_ne ne]; exact z1)
        · exact .inr ⟨o, by rw [upd_ne ne]; exact z1⟩
      · rw [hM] at hm; exact hm.elim z3 ne
    · exact .inr z
  have bM : Bh ⟨K, M⟩ H1 S1 (upd H1 A (.lst [])) S1 := by
    refine ⟨frA, fun a o e => ?_, fun a ha => ?_, fun a ha => ?_⟩
    · have ne : a ≠ A := fun z => by subst z; rw [sA] at e; cases e
      exact (b1.rs.ob a o e).le leN (upd_ne ne)
    · rw [hM] at ha
      rcases ha with ha | ha
      · exact hid_upd b1.rs.hid a ha
      · exact ⟨_, by rw [ha]; exact upd_same⟩
    · rw [hM] at ha
      rcases ha with ha | ha
      · exact b1.rs.hidS a ha
      · rw [ha]; exact sA
  -- what a turn leaves: seen without the new list
  have toN : ∀ {H2 : Hp} {S2 : Sto}, Bh ⟨K, M⟩ H1 S1 H2 S2 → Bh ⟨K, N⟩ H1 S1 H2 S2 := fun {H2 S2} b => ⟨b.fr, fun a o e => (b.rs.ob a o e).le leM rfl, fun a ha => b.rs.hid a (by show M a; rw [hM]; exact .inl ha), fun a ha => b.rs.hidS a (by show M a; rw [hM]; exact .inl ha)⟩
  have reM : RE ⟨K, M⟩ (upd H1 A (.lst [])) S1 σ δ := re1.le leN
  refine ⟨fun i m H2 => ∃ acc S2 vs, m = n - i ∧ W i acc S2 ∧ (Bh ⟨K, M⟩ H1 S1 H2 S2 ∧ TupLe ⟨K, N⟩ H1 S1 ⟨K, M⟩ H2 S2) ∧ RE ⟨K, M⟩ H2 S2 σ δ ∧ H2 A = some (.lst vs) ∧ S2 A = none ∧ RDs ⟨K, M⟩ H2 S2 vs acc, ⟨n, [], S1, [], rfl, w0, ⟨bM, leN⟩, reM, upd_same, sA, .nil⟩, ?_⟩
  rintro i m H2 ⟨acc, S2, us, rfl, w2, ⟨b2, l2⟩, re2, hA2, sA2, ra⟩
  obtain ⟨r, hr, hn, hgo⟩ := turn i acc S2 w2
  obtain ⟨r1, r2⟩ := rel M i H2 S2 b2 l2
  cases r with
  | none =>
    refine .inl ⟨r1 hr, ?_⟩
    have leU : TupLe ⟨K, M⟩ H2 S2 ⟨K, N⟩ H2 (up S2 A (.lst acc)) := ⟨fun a xs z => z, fun _ _ z => z, fun a xs z => z.elim (fun ⟨z1, z2, z3⟩ => .inl ⟨z1, by rw [up_ne (fun e => z3 (by show M a; rw [hM]; exact .inr e))]; exact z2, fun hn => z3 (by show M a; rw [hM]; exact .inl hn)⟩) .inr⟩
    have bU : Bh ⟨K, N⟩ H1 S1 H2 (up S2 A (.lst acc)) := by
      refine ⟨fun a o e n => ?_, fun a o e => ?_, fun a ha => b2.rs.hid a (by show M a; rw [hM]; exact .inl ha), fun a ha => ?_⟩
      · have ne : a ≠ A := fun z => by subst z; rw [hA] at e; cases e
        obtain ⟨z1, z2⟩ := b2.fr a o e n
        exact ⟨z1, by rw [up_ne ne]; exact z2⟩
      · by_cases z : a = A
        · subst z
          rw [up_same] at e
          cases e
          exact ⟨_, hA2, ra.le leU⟩
        · rw [up_ne z] at e
          exact (b2.rs.ob a o e).le leU rfl
      · have ne : a ≠ A := fun z => by subst z; exact nA ha
        rw [up_ne ne]
        exact b2.rs.hidS a (by show M a; rw [hM]; exact .inl ha)
    exact kk _ _ _ H2 (b1.trans bU) (.of _) (hn rfl A sA2)
  | some x =>
    obtain ⟨hlt, hsz, hgx⟩ := hgo x rfl
    obtain ⟨go, yl⟩ := r2 x hr
    refine .inr ⟨go, fun H' => ∃ acc' S' vs', W (i + 1) acc' S' ∧ (Bh ⟨K, M⟩ H1 S1 H' S' ∧ TupLe ⟨K, N⟩ H1 S1 ⟨K, M⟩ H' S') ∧ RE ⟨K, M⟩ H' S' σ δ ∧ H' A = some (.lst vs') ∧ S' A = none ∧ RDs ⟨K, M⟩ H' S' vs' acc', fun H' ⟨a', S', v', h1, h2, h3, h4, h5, h6⟩ => ⟨n - (i + 1), by omega, a', S', v', rfl, h1, h2, h3, h4, h5, h6⟩, fun v H3 y => ?_⟩
    obtain ⟨b3, rv⟩ := yl v H3 y
    have le3 := b2.rs.le b3.fr
    have fin : ∀ {H' : Hp} {S' : Sto}, Bh ⟨K, M⟩ H2 S2 H' S' → H' A = some (.lst us) ∧ S' A = none := fun {H' S'} b => b.fr A _ hA2 sA2
    -- a turn that adds nothing
    have skip : ∀ {H' : Hp} {S' : Sto}, Bh ⟨K, M⟩ H2 S2 H' S' → W (i + 1) acc S' → ∃ acc' S' vs', W (i + 1) acc' S' ∧ (Bh ⟨K, M⟩ H1 S1 H' S' ∧ TupLe ⟨K, N⟩ H1 S1 ⟨K, M⟩ H' S') ∧ RE ⟨K, M⟩ H' S' σ δ ∧ H' A = some (.lst vs') ∧ S' A = none ∧ RDs ⟨K, M⟩ H' S' vs' acc' := fun {H' S'} b w =>
      have le := b2.rs.le b.fr
      ⟨acc, S', us, w, ⟨b2.trans b, l2.trans le⟩, re2.le le, (fin b).1, (fin b).2, ra.le le⟩
    refine hgd M v x (wipe σ (own.map (·.2))) (wipeD δ (own.map (·.2))) H3 S2 _ _ rv (re_wipe (re2.le le3) _) b3.rs hgx fun σ4 H4 δ4 S4 e4 b4 re4 q4 => ?_
    refine ⟨e4.trans (wipe_wipe _ _), ?_⟩
    have b24 := b3.trans b4
    refine ⟨M, δ4, S4, _, re4, b4.rs, q4, fun c S5 H5 b5 q5 => ?_⟩
    have b25 := b24.trans b5
    cases c with
    | false =>
      rw [if_neg Bool.false_ne_true] at q5
      exact iteF (skip b25 q5)
    | true =>
      rw [if_pos rfl] at q5
      refine iteT ⟨M, δ4, S5, _, re4.le (b4.rs.le b5.fr), b5.rs, q5, fun y S6 u H6 b6 r6 q6 => ?_⟩
      have b26 := b25.trans b6
      obtain ⟨hA6, sA6⟩ := fin b26
      have le6 := b2.rs.le b26.fr
      refine ⟨us, hA6, by rw [ra.length]; exact hsz, ?_⟩
      have le7 : TupLe ⟨K, M⟩ H6 S6 ⟨K, M⟩ (upd H6 A (.lst (us ++ [u]))) S6 := by
        refine ⟨fun a xs z => ?_, fun _ _ z => z, fun a xs z => ?_⟩
        · rw [upd_ne (ne_of z hA6 (by intro w; cases w))]; exact z
        · rcases z with ⟨z1, z2, z3⟩ | z
          · have ne : a ≠ A := fun e => z3 (by show M a; rw [hM]; exact .inr e)
            refine .inl ⟨?_, z2, z3⟩
            rcases z1 with z1 | ⟨o, z1⟩
            · exact .inl (by rw [upd_ne ne]; exact z1)
            · exact .inr ⟨o, by rw [upd_ne ne]; exact z1⟩
          · exact .inr z
      have bb := b2.trans b26
      refine ⟨acc ++ [y], S6, us ++ [u], q6, ⟨⟨fun a o e n => ?_, fun a o e => ?_, fun a ha => hid_upd bb.rs.hid a ha, bb.rs.hidS⟩, (l2.trans le6).trans le7⟩, (re2.le le6).le le7, upd_same, sA6, ((ra.le le6).append (.cons r6 .nil)).le le7⟩
      · obtain ⟨z1, z2⟩ := bb.fr a o e n
        exact ⟨by rw [upd_ne (ne_of_none e hA)]; exact z1, z2⟩
      · have ne : a ≠ A := fun z => by subst z; rw [sA6] at e; cases e
        exact (bb.rs.ob a o e).le le7 (upd_ne ne)
theorem de_lcM {elt tg iter : Expr} {ifs : List Expr} {scope : Scope} {pos : Pos} {wi : TDI} {gv : TG} {g : TDG} {tt : TDT} {te : TDE} (own : List (Str × Nat)) (hc : X.calm = true) (hN : X.N.Nodup) (hi : PI X tg iter (lI X.K wi)) (ok : BlkOk X.N X.env.scope scope own)
    (hg : ∀ (s : Shared) (H : Hp) (C : Addr) (cl : List (Str × Addr)) (fp : List Addr), PG (X.blk s H scope (compEnvC scope cl C X.env) fp) tg gv) (hgd : ∀ N, TgC ⟨X.K, N⟩ (own.map (·.2)) gv g) (ht : ∀ (s : Shared) (H : Hp) (C : Addr) (cl : List (Str × Addr)) (fp : List Addr), PTs (X.blk s H scope (compEnvC scope cl C X.env) fp) ifs (lT X.K tt))
    (he : ∀ (s : Shared) (H : Hp) (C : Addr) (cl : List (Str × Addr)) (fp : List Addr), PE (X.blk s H scope (compEnvC scope cl C X.env) fp) elt (lE X.K te)) (hs : ∀ x, foldedSetIterable iter X.env x = pure x := by intro _; rfl) :
    PE X (.ListComp elt [⟨tg, iter, ifs, 0⟩] scope pos) (lE X.K (dLcM wi g tt te (own.map (·.2)))) := PE.wk (pe_lc hc hN hi ok hg ht he hs) fun σ H Q h => lift_lcM own hgd h
/-- name = [..] -/
theorem ds_setLcM (i : Nat) {y : Str} {py spos : Pos} {elt tg iter : Expr} {ifs : List Expr} {scope : Scope} {pos : Pos} {wi : TDI} {gv : TG} {g : TDG} {tt : TDT} {te : TDE} (own : List (Str × Nat)) (hc : X.calm = true) (hN : X.N.Nodup) (hi : PI X tg iter (lI X.K wi)) (ok : BlkOk X.N X.env.scope scope own)
    (hg : ∀ (s : Shared) (H : Hp) (C : Addr) (cl : List (Str × Addr)) (fp : List Addr), PG (X.blk s H scope (compEnvC scope cl C X.env) fp) tg gv) (hgd : ∀ N, TgC ⟨X.K, N⟩ (own.map (·.2)) gv g) (ht : ∀ (s : Shared) (H : Hp) (C : Addr) (cl : List (Str × Addr)) (fp : List Addr), PTs (X.blk s H scope (compEnvC scope cl C X.env) fp) ifs (lT X.K tt))
    (he : ∀ (s : Shared) (H : Hp) (C : Addr) (cl : List (Str × Addr)) (fp : List Addr), PE (X.blk s H scope (compEnvC scope cl C X.env) fp) elt (lE X.K te)) (hs : ∀ x, foldedSetIterable iter X.env x = pure x := by intro _; rfl)
    (hy : X.N[i]? = some y := by rfl) (hyl : X.env.scope.names.lookup y = some .local := by rfl) (hsw : swapsWith (.ListComp elt [⟨tg, iter, ifs, 0⟩] scope pos) (some (.Name y py)) spos.line X.env = pure true := by exact sw_true rfl rfl rfl (by decide +kernel)) :
    PS X (.Assign [.Name y py] (.ListComp elt [⟨tg, iter, ifs, 0⟩] scope pos) spos) (lS X.K (dAsg (dLcM wi g tt te (own.map (·.2))) (gdName i))) :=
  PS.wk (ps_setLc hc hN hy hyl hsw hi ok hg ht he hs) fun D σ H ⟨N, δ, S, D', re, rs, q, l⟩ => lift_lcM own hgd ⟨N, δ, S, _, re, rs, q, fun d S1 v H1 b1 r1 q1 => l.nx _ S1 _ H1 b1 ((re.le (rs.le b1.fr)).set r1 i) q1⟩
end
end DL

/-! Data layer: a tuple times an int, empty dicts shown, three names at once, str(int), ints of the module. -/
namespace DL
open PySem L2 PyProof.Rows
theorem tuple_mul0 (l : Addr) (items : Array Value) (n : Nat) (dd : Option Addr) (sl : Array (Option Value)) (x : Int) (u : Tok) (c0 : (decide (x < -2 ^ 63) || decide (x ≥ 2 ^ 63)) = false) (c1 : (items.isEmpty || x == 1) = false) (c2 : (decide (x ≤ 0) || items.isEmpty) = true) :
    Meets (Builtin.«tuple.__mul__» { pos := [Value.ref l, Value.int x u] }) fun x_1 R s =>
      s.heap.get? l = some { cls := Value.type "tuple", dict := dd, data := Data.seq items n, slots := sl } ∧ R (Except.ok (Flow.ret (Value.ref s.heap.objs.size))) { heap := s.heap.push { cls := Value.type "tuple", data := Data.seq #[] }, gens := s.gens, drawn := s.drawn, toks := s.toks, os := s.os } := by
  refine Meets.of_wp fun prog w A R s h => ?_
  obtain ⟨hp, g, d, tk, os⟩ := s
  obtain ⟨hl, h⟩ := h
  have f1 := AutoSeq1.idx_int
  refine wpAny_ite_false (decide_eq_false (by rw [c0]; exact Bool.false_ne_true)) ?_
  refine wpAny_bind ?_
  refine wpAny_bind ?_
  refine wpAny_bind (wpAny_load' hl (wpAny_pure (wpAny_pure ?_)))
  refine wpAny_ite_false (by rw [c1]; rfl) ?_
  refine wpAny_ite_true (by rw [c2]; rfl) ?_
  refine wpAny_bind ?_
  unfold Builtin.Tuple.tupleExact newObj
  apply wpAny_ite_false
  · decide
  refine wpAny_bind (wpAny_alloc' (wpAny_pure ?_))
  refine wpAny_pure ?_
  exact ⟨_, rfl, h⟩
section
variable {X : Cx}
/-- a tuple times an int: none, or two and more -/
def rRepT2 (K : PySem.W.Frag) : R2 := fun x y H Q => ∃ l k xs, x = .ref l ∧ y = .int k ∧ H l = some (.tup xs) ∧ xs ≠ [] ∧ xs.length * k.toNat ≤ 1000000 ∧ -1000000 ≤ k ∧ k ≤ 1000000 ∧ k ≠ 1 ∧ ∀ p, H p = none → Q (.ref p) (upd H p (.tup (List.replicate k.toNat xs).flatten))
theorem op_repT2 : OpR X (binaryOp .Mult) (rRepT2 X.K) := by
  intro pins s σ H x y v u Q I rx ry h
  obtain ⟨l, k, xs, rfl, rfl, hT, hne, hm, h1, h2, n1, q⟩ := h
  cases rx
  obtain ⟨t, rfl⟩ := ry
  obtain ⟨its, r, ⟨w, ho, hc, n, hd⟩, hs⟩ := I.tuple (.of hT)
  obtain ⟨cls, dd, data, sl⟩ := w
  dsimp only at hc hd
  subst hc
  subst hd
  have hle : its.length = xs.length := r.length.symm
  have hn : its ≠ [] := fun e => hne (List.eq_nil_of_length_eq_zero (by rw [← hle, e]; rfl))
  have hi : its.toArray.isEmpty = false := by
    cases its with
    | nil => exact absurd rfl hn
    | cons a b => rfl
  have hsz0 : its.toArray.size = xs.length := by rw [List.size_toArray, hle]
  have c0 : (decide (k < -2 ^ 63) || decide (k ≥ 2 ^ 63)) = false := by
    rw [decide_eq_false (by omega), decide_eq_false (by omega)]; rfl
  have c1 : (its.toArray.isEmpty || k == 1) = false := by
    rw [hi, Bool.false_or]
    exact beq_eq_false_iff_ne.mpr n1
  have flen : (List.replicate k.toNat its).flatten.length ≤ sizeLine := by
    rw [lm_len_rep_flat, hle, sizeLine_eq, Nat.mul_comm]; omega
  have flen2 : (List.replicate k.toNat xs).flatten.length ≤ sizeLine := by
    rw [lm_len_rep_flat, sizeLine_eq, Nat.mul_comm]; omega
  by_cases hk : k ≤ 0
  · have ek : k.toNat = 0 := by omega
    have c2 : (decide (k ≤ 0) || its.toArray.isEmpty) = true := by rw [decide_eq_true hk]; rfl
    refine wpAny_binaryOp_repeat_ref (by decide : (Value.type "tuple" == Value.type "int") = false) ⟨_, ho, rfl⟩ (fun s' => typeIs_int s' k t) noFill_tuple_mul F.fills_int_mul F.slot_int_rmul repeat_tuple F.slot_int_index.lookup
      (call_meets F.slot_int_rmul (typeIs_int s k t) F.entry_int_rmul (F.args_int_rmul_2 (Value.int k t) (Value.ref l)) (int_rmul_tuple k t l its.toArray n dd sl) ⟨ho, rfl, ⟨_, ho, rfl⟩,
        call_meets F.slot_tuple_mul ⟨_, ho, rfl⟩ F.entry_tuple_mul (F.args_tuple_mul_2 (Value.ref l) (Value.int k t)) (tuple_mul0 l its.toArray n dd sl k t c0 c1 c2) ⟨ho, ?_⟩⟩)
    have q := q s.heap.objs.size (I.hok.fresh (Nat.le_refl _))
    rw [ek] at q
    refine ⟨V.ref s.heap.objs.size, upd H s.heap.objs.size (HO.tup []), I.laid (fun b ob z => Heap.get?_push_of_some _ z) (Nat.le_refl _) ⟨Nat.zero_le _, [], .nil, IsTup.new s.heap #[]⟩, rfl, q⟩
  · have c2 : (decide (k ≤ 0) || its.toArray.isEmpty) = false := by rw [decide_eq_false hk, hi]; rfl
    have hmi : (its.toArray.size : Int) * k ≤ 1000000 := by
      rw [hsz0]
      have e : ((xs.length * k.toNat : Nat) : Int) = (xs.length : Int) * k := by rw [Int.natCast_mul, Int.toNat_of_nonneg (by omega)]
      omega
    have c4 : Builtin.Tuple.tupleTooMany ((its.toArray.size : Int) * k) = false := by
      show decide ((its.toArray.size : Int) * k > (sizeLine : Nat)) = false
      rw [sizeLine_eq]
      exact decide_eq_false (by omega)
    refine wpAny_binaryOp_repeat_ref (by decide : (Value.type "tuple" == Value.type "int") = false) ⟨_, ho, rfl⟩ (fun s' => typeIs_int s' k t) noFill_tuple_mul F.fills_int_mul F.slot_int_rmul repeat_tuple F.slot_int_index.lookup
      (call_meets F.slot_int_rmul (typeIs_int s k t) F.entry_int_rmul (F.args_int_rmul_2 (Value.int k t) (Value.ref l)) (int_rmul_tuple k t l its.toArray n dd sl) ⟨ho, rfl, ⟨_, ho, rfl⟩,
        call_meets F.slot_tuple_mul ⟨_, ho, rfl⟩ F.entry_tuple_mul (F.args_tuple_mul_2 (Value.ref l) (Value.int k t)) (tuple_mulW l its.toArray n dd sl k t c0 c1 c2 (by omega) c4 (by rw [size_rep, List.size_toArray]; exact flen)) ⟨ho, ?_⟩⟩)
    rw [size_rep]
    exact ⟨V.ref s.heap.objs.size, upd H s.heap.objs.size (HO.tup (List.replicate k.toNat xs).flatten), I.laid (fun b ob z => Heap.get?_push_of_some _ z) (Nat.le_refl _) ⟨flen2, _, r.rep k.toNat, IsTup.new s.heap _⟩, rfl, q s.heap.objs.size (I.hok.fresh (Nat.le_refl _))⟩
def mulT : RD2 := fun x y S Q => ∃ xs k, x = .tup xs ∧ y = .int k ∧ xs ≠ [] ∧ xs.length * k.toNat ≤ 1000000 ∧ -1000000 ≤ k ∧ k ≤ 1000000 ∧ k ≠ 1 ∧ Q (.tup (List.replicate k.toNat xs).flatten) S
theorem od_mulT : OpR X (binaryOp .Mult) (l2 X.K mulT) := by
  intro pins s σ H v u vv uu Q I rv ru h'
  obtain ⟨N, x, y, S, Q', rx, ry, rs, ⟨xs, k, rfl, rfl, hne, hz, k1, k2, k3, q⟩, kk⟩ := h'
  obtain ⟨a, vs, rfl, e, r⟩ := rx.tup_
  refine op_repT2 pins s σ H _ _ _ _ Q I rv ru ⟨a, k, vs, rfl, ry.at_, e, fun z => hne (by subst z; cases xs with | nil => rfl | cons d ds => exact absurd r.length (by simp)), by rw [r.length]; exact hz, k1, k2, k3, fun p np => ?_⟩
  obtain ⟨r1, f1, le⟩ := rs.laid (o := .tup (List.replicate k.toNat vs).flatten) np
  exact kk _ S _ _ ⟨f1, r1⟩ (.of_tup upd_same ((rds_rep r k.toNat).le le)) q
/-! ### repr, of an empty dict, too -/
def repD2 : RDL := fun ds S Q => repD ds S Q ∨ ∃ p, ds = [.ref p] ∧ S p = some (.dk []) ∧ Q (.str "{}") S
theorem cd_repr2 {k : Nat} (hr : Rg k X.A) : CallR X (.builtin "repr") (lL X.K repD2) := by
  intro pins s σ H vs us Q I r hh
  obtain ⟨N, ds, S, Q', rd, rs, q, kk⟩ := hh
  rcases q with q | ⟨p, rfl, e, q⟩
  · exact cd_repr hr pins s σ H vs us Q I r ⟨N, ds, S, Q', rd, rs, q, kk⟩
  · obtain ⟨v, rfl, rx⟩ := rd.one'
    have ev := rx.at_
    subst ev
    obtain ⟨u, rfl, ru⟩ := Vals.one r
    cases ru
    obtain ⟨ks, h1, h2, _⟩ := rs.ob p _ e
    have hk : ks = [] := by cases ks with | nil => rfl | cons a b => simp at h2
    subst hk
    have hu := hr.r.un
    obtain ⟨_, hm, vs, kv, o, es, ep, g1, g2, g3, g4⟩ := I.hok p _ h1
    have hv : vs = [] := by cases kv; rfl
    subst hv
    have he : es.toList = [] := by
      have z := g4.2.1
      cases h : es.toList with
      | nil => rfl
      | cons a b => rw [h] at z; cases z
    have rr : Reads s.heap (.ref p) (.dict []) (p :: [] ++ []) := .dict g1 g2.1 g3 (by rw [he]; exact .nil) (by rw [he]; exact .nil)
    refine repr_of_reads' rr rfl (fun _ z => ?_) hr.g (by show X.A.units + 2 < cLine; omega) (fun _ _ e => e) (fun h' u tk hk => ⟨.str _, H, I.kept hk, ⟨u, rfl⟩, kk _ S _ H (.refl rs) (.of _) q⟩) (by decide)
    have z : sysModules = p := by simpa using z
    rw [z] at hm
    simp at hm
/-! ### str(i) -/
def strN : RDL := fun ds S Q => ∃ i, ds = [.int i] ∧ i.natAbs.log2 < 1920 ∧ Q (.str (Str.ofString (toString i))) S
theorem cd_strN : CallR X (.type "str") (lL X.K strN) := by
  intro pins s σ H vs us Q I r hh
  obtain ⟨N, ds, S, Q', rd, rs, ⟨i, rfl, hi, q⟩, kk⟩ := hh
  obtain ⟨v, rfl, rx⟩ := rd.one'
  exact call_str_int pins s σ H _ us Q I r ⟨i, by rw [rx.at_], hi, kk _ S _ H (.refl rs) (.of _) q⟩
/-! ### a, b, c = x, y, z -/
def dPar3 (i j l : Nat) (ta : TDA) : TDS := fun D δ S => ta δ S fun ds S1 => ∃ d e f, ds = [d, e, f] ∧ D.nx (((δ.set i (some d)).set j (some e)).set l (some f)) S1
theorem ds_par3 (i j l : Nat) {x y z : Str} {a b c : Expr} {ta : TDA} {px py pz pt pos : Pos} {kt k2 pt2} (hc : X.calm = true) (hN : X.N.Nodup) (ha : PA X [a, b, c] (lA X.K ta)) (hi : X.N[i]? = some x := by rfl) (hj : X.N[j]? = some y := by rfl) (hl : X.N[l]? = some z := by rfl) (hij : i ≠ j := by decide) (hil : i ≠ l := by decide) (hjl : j ≠ l := by decide)
    (hx : X.env.scope.names.lookup x = some .local := by rfl) (hy : X.env.scope.names.lookup y = some .local := by rfl) (hz : X.env.scope.names.lookup z = some .local := by rfl)
    (hw : swappedStores [.Tuple [.Name x px, .Name y py, .Name z pz] kt pt] (.Tuple [a, b, c] k2 pt2) X.env = pure (some [x, y, z]) := by rfl) (hs : swapsWithSole [.Tuple [.Name x px, .Name y py, .Name z pz] kt pt] (.Tuple [a, b, c] k2 pt2) pos.line X.env = pure false := by rfl) :
    PS X (.Assign [.Tuple [.Name x px, .Name y py, .Name z pz] kt pt] (.Tuple [a, b, c] k2 pt2) pos) (lS X.K (dPar3 i j l ta)) :=
  PS.wk (ps_par3 hc hN hi hj hl hij hil hjl hx hy hz ha hw hs) fun D σ H ⟨N, δ, S, D', re, rs, q, l⟩ => by
    refine ⟨N, δ, S, _, re, rs, q, fun ds S1 vs H1 b1 r1 q1 => ?_⟩
    obtain ⟨d, e, f, rfl, q1⟩ := q1
    obtain ⟨v, ws, rfl, ra, r2⟩ := r1.inv_cons
    obtain ⟨w, ws', rfl, rb, r3⟩ := r2.inv_cons
    obtain ⟨u, ws'', rfl, rc, r4⟩ := r3.inv_cons
    rw [r4.inv_nil]
    exact ⟨v, w, u, rfl, l.nx _ S1 _ H1 b1 ((((re.le (rs.le b1.fr)).set ra _).set rb _).set rc _) q1⟩
/-! ### an int of the module -/
def GI (mg : Str → Option Value) (x : Str) (i : Int) : Prop := ∃ t, mg x = some (.int i t)
theorem de_gi {x : Str} {i : Int} {pos : Pos} (g : GI X.mg x i) (hg : Gl X x := by rfl) (hd : (x == ("__debug__" : Str)) = false := by decide) : PE X (.Name x pos) (lE X.K (dC (.int i))) := by
  obtain ⟨t, m⟩ := g
  exact de_glob (v := .int i) hg m ⟨t, rfl⟩ (fun N H S => .of _) hd
end
end DL

/-! Data layer: data to be compared, of ints of any size; ends of lists. -/
namespace DL
open PySem L2 PyProof.Rows
structure Cm (k : Nat) (d : D) : Prop where
  p : pur d = true
  l : (toPy d).canLay0 = true
  k : (toPy d).depth ≤ k
structure Cms (k : Nat) (ds : List D) : Prop where
  p : purs ds = true
  l : PyData.canLayAll0 (toPys ds) = true
  k : PyData.depthAll (toPys ds) ≤ k
theorem Cm.of {k w : Nat} {d : D} (h : Sm k w d) : Cm k d := ⟨h.p, h.l, h.k⟩
theorem Cm.mono {k k' : Nat} {d : D} (h : Cm k d) (a : k ≤ k') : Cm k' d := ⟨h.p, h.l, Nat.le_trans h.k a⟩
theorem Cms.of {k : Nat} : ∀ {ds : List D}, (∀ d ∈ ds, Cm k d) → Cms k ds
  | [], _ => ⟨by unfold purs; rfl, by simp [toPys, PyData.canLayAll0], by simp [toPys, PyData.depthAll]⟩
  | d :: ds, h => by
    have a := h d List.mem_cons_self
    have b := Cms.of (ds := ds) fun x hx => h x (List.mem_cons_of_mem _ hx)
    refine ⟨by unfold purs; rw [a.p, b.p]; rfl, ?_, ?_⟩
    · unfold toPys; simp [PyData.canLayAll0, a.l, b.l]
    · unfold toPys; simp only [PyData.depthAll]; have := a.k; have := b.k; omega
theorem Cm.tup {k : Nat} {ds : List D} (h : ∀ d ∈ ds, Cm k d) : Cm (k + 1) (.tup ds) := by
  have b := Cms.of h
  refine ⟨by unfold pur; exact b.p, ?_, ?_⟩ <;> unfold toPy
  · simp only [PyData.canLay0]; exact b.l
  · simp only [PyData.depth]; have := b.k; omega
theorem Cm.fl {k : Nat} {ds : List D} (h : ∀ d ∈ ds, Cm k d) : Cm (k + 1) (.fl ds) := by
  have b := Cms.of h
  refine ⟨by unfold pur; exact b.p, ?_, ?_⟩ <;> unfold toPy
  · simp only [PyData.canLay0]; exact b.l
  · simp only [PyData.depth]; have := b.k; omega
theorem Cm.non {k : Nat} : Cm k .non := ⟨by unfold pur; rfl, by unfold toPy; rfl, by unfold toPy; exact Nat.zero_le _⟩
theorem Cm.bl {k : Nat} {b : Bool} : Cm k (.bl b) := ⟨by unfold pur; rfl, by unfold toPy; rfl, by unfold toPy; exact Nat.zero_le _⟩
theorem Cm.int {k : Nat} {i : Int} : Cm k (.int i) := ⟨by unfold pur; rfl, by unfold toPy; rfl, by unfold toPy; exact Nat.zero_le _⟩
theorem Cm.str {k : Nat} {z : Str} (h : PyData.strOk z = true) : Cm k (.str z) := ⟨by unfold pur; rfl, by unfold toPy; exact h, by unfold toPy; exact Nat.zero_le _⟩
theorem Cm.shaped {k : Nat} {d : D} (h : Cm k d) (hk : k ≤ 64 := by decide) : cmpOk d = true := by
  unfold cmpOk
  show (pur d && ((toPy d).canLay0 && decide ((toPy d).depth ≤ 64))) = true
  rw [h.p, h.l, decide_eq_true (Nat.le_trans h.k hk)]
  rfl
theorem cm1 {k : Nat} {a : D} (h : Cm k a) : ∀ d ∈ [a], Cm k d := fun d hd => by rw [List.mem_singleton.mp hd]; exact h
theorem cmc {k : Nat} {a : D} {l : List D} (h : Cm k a) (t : ∀ d ∈ l, Cm k d) : ∀ d ∈ a :: l, Cm k d := fun d hd => (List.mem_cons.mp hd).elim (fun e => e ▸ h) (t d)
theorem cm0 {k : Nat} : Cm (k + 1) (.fl []) := Cm.fl fun d hd => by cases hd
theorem ceq_of {neg : Bool} {x y : D} {S : Sto} {Q : KD} {k k' : Nat} (hx : Cm k x) (hy : Cm k' y) (q : Q (.bl (xor neg (PyData.eqv (toPy x) (toPy y)))) S) (hn : ∀ u, x ≠ .at u) (hk : k ≤ 64 := by decide) (hk' : k' ≤ 64 := by decide) : eqD neg x y S Q := by
  unfold eqD
  split
  all_goals first
    | exact absurd rfl (hn _)
    | skip
  rw [rsv_pur hx.p, rsv_pur hy.p]
  exact ⟨hx.shaped hk, hy.shaped hk', q⟩
/-- a list against the empty one -/
theorem eq_nil {neg : Bool} {xs : List D} {S : Sto} {Q : KD} {k : Nat} (h : ∀ d ∈ xs, Cm k d) (q : Q (.bl (xor neg xs.isEmpty)) S) (hk : k + 1 ≤ 64 := by decide) : eqD neg (.fl xs) (.fl []) S Q :=
  ceq_of (Cm.fl h) (cm0 (k := 0)) (by rw [eqv_nil]; exact q) (fun u e => nomatch e) hk
theorem eq_nilL {neg : Bool} {p : Addr} {xs : List D} {S : Sto} {Q : KD} {k : Nat} (e : S p = some (.lst xs)) (h : ∀ d ∈ xs, Cm k d) (q : Q (.bl (xor neg xs.isEmpty)) S) (hk : k + 1 ≤ 64 := by decide) : eqD neg (.ref p) (.fl []) S Q :=
  eq_l e ((Cm.fl h).shaped hk) ((cm0 (k := 0)).shaped) (by rw [eqv_nil]; exact q)
theorem ng {i : Int} {S : Sto} {Q : KD} (q : Q (.int (-i)) S) : negD (.int i) S Q := q
/-! ### a chain of two, as a test -/
section
variable {X : Cx}
theorem lift_chain {r r' : RD2} {ta tb tc : TDE} {σ : L2.St} {H : Hp} {Q : VK} (h : lE X.K (dChain r r' ta tb tc) σ H Q) : tChain (l2 X.K r) (l2 X.K r') (lE X.K ta) (lE X.K tb) (lE X.K tc) σ H Q := by
  obtain ⟨N, δ, S, Q', re, rs, q, k⟩ := h
  refine ⟨N, δ, S, _, re, rs, q, fun x S1 v H1 b1 rx q1 => ?_⟩
  refine ⟨N, δ, S1, _, re.le (rs.le b1.fr), b1.rs, q1, fun y S2 u H2 b2 ry q2 => ?_⟩
  refine ⟨N, x, y, S2, _, rx.le (b1.rs.le b2.fr), ry, b2.rs, q2, fun z S3 w H3 b3 rz q3 => ?_⟩
  obtain ⟨i, rfl, q3⟩ := q3
  refine ⟨i, rz.at_, ?_⟩
  have bb := (b1.trans b2).trans b3
  cases i with
  | true =>
    rw [if_pos rfl] at q3 ⊢
    refine ⟨N, δ, S3, _, re.le (rs.le bb.fr), b3.rs, q3, fun w' S4 x' H4 b4 rw' q4 => ?_⟩
    exact ⟨N, y, w', S4, Q', (ry.le (b2.rs.le b3.fr)).le (b3.rs.le b4.fr), rw', b4.rs, q4, fun d S' w2 H' b5 => k d S' w2 H' ((bb.trans b4).trans b5)⟩
  | false =>
    rw [if_neg Bool.false_ne_true] at q3 ⊢
    exact k _ S3 _ H3 bb (.of _) q3
theorem dt_chain {r r' : RD2} {ta tb tc : TDE} {a b c : Expr} {pos : Pos} {op op' : CmpOp} (ho : OpR X (compareOp op) (l2 X.K r)) (ho' : OpR X (compareOp op') (l2 X.K r')) (ha : PE X a (lE X.K ta)) (hb : PE X b (lE X.K tb)) (hc : PE X c (lE X.K tc)) (hm : lastMarks [op, op'] [b, c] = false := by first | rfl | decide) : PT X (.Compare a [op, op'] [b, c] pos) (lT X.K (dB (dChain r r' ta tb tc))) :=
  PT.wk (pt_chain ho ho' ha hb hc hm) fun σ H Q ⟨N, δ, S, Q', re, rs, q, k⟩ =>
    lift_chain (Q := fun x H' => ∃ k, x = .bl k ∧ Q k H') ⟨N, δ, S, _, re, rs, q, fun d S' v H' b rv ⟨c, e, q'⟩ => ⟨c, by subst e; exact rv.at_, k c S' H' b q'⟩⟩
end
/-! ### ends of lists -/
theorem ixN_z (n : Nat) : ixN (n + 1) (-1) = some n := by
  unfold ixN
  rw [if_neg (by omega), if_pos (by omega)]
  congr 1
  omega
theorem set_last {α : Type} (xs : List α) (x y : α) : (xs ++ [x]).set xs.length y = xs ++ [y] := by simp
theorem cut_init (xs : List D) : cutD xs none (some (-1)) = xs.dropLast := by
  unfold cutD
  rw [List.dropLast_eq_take]
  simp only [HT.sIx]
  cases xs with
  | nil => rfl
  | cons x xs => simp; congr 1; omega
theorem cut_last (xs : List D) : cutD xs (some (-1)) none = xs.getLast?.toList := by
  unfold cutD
  simp only [HT.sIx]
  rcases List.eq_nil_or_concat xs with rfl | ⟨q, x, e⟩
  · rfl
  · rw [List.concat_eq_append] at e
    subst e
    simp
    have e : (-1 + ((q.length : Int) + 1)).toNat = q.length := by omega
    rw [e, List.drop_left]
    have e2 : q.length + 1 - q.length = 1 := by omega
    rw [e2]
    rfl
end DL

/-! Data layer: any sequence against the empty one, sum, dict(pairs), list(dict), f-strings, written dicts looked up, displays of dicts, a tuple times one. -/
namespace DL
open PySem L2 PyProof.Rows
section
variable {X : Cx} {k : Nat}
/-! ### == (), == [], of any items -/
def eq0D (neg : Bool) : RD2 := fun x y S Q => (∃ xs, x = .tup xs ∧ y = .tup [] ∧ Q (.bl (xor neg xs.isEmpty)) S) ∨ ∃ xs, lsOf S x = some xs ∧ y = .fl [] ∧ Q (.bl (xor neg xs.isEmpty)) S
theorem isz {vs : List V} {ds : List D} {us : List Value} {K : Kx} {H : Hp} {S : Sto} (r : RDs K H S vs ds) (rv : Vals vs us) : us.length = ds.length := rv.length.symm.trans r.length
theorem od_eq0G {neg : Bool} {op : CmpOp} (hr : Rg k X.A)
    (ht : ∀ (E Q : Value → Shared → Prop) (s : Shared) (l b : Addr) (i : Array Value), s.heap.IsTuple l i → s.heap.IsTuple b #[] → Q (.bool (xor neg i.isEmpty)) s → wpAny (model X.prog X.w) X.A (compareOp op (.ref l) (.ref b)) Q E s)
    (hl : ∀ (E Q : Value → Shared → Prop) (s : Shared) (l b : Addr) (i : Array Value), s.heap.IsList l i → s.heap.IsList b #[] → Q (.bool (xor neg i.isEmpty)) s → wpAny (model X.prog X.w) X.A (compareOp op (.ref l) (.ref b)) Q E s) : OpR X (compareOp op) (l2 X.K (eq0D neg)) := by
  intro pins s σ H v u vv uu Q I rv ru hh
  obtain ⟨N, x, y, S, Q', rx, ry, rs, q, kk⟩ := hh
  have em : ∀ {us : List Value} {ds : List D}, us.length = ds.length → us.toArray.isEmpty = ds.isEmpty := fun {us ds} h => by
    cases us <;> cases ds <;> first | rfl | simp at h
  rcases q with ⟨xs, rfl, rfl, q⟩ | ⟨xs, hx, rfl, q⟩
  · obtain ⟨a, vs, rfl, t, r⟩ := rx.tup_
    obtain ⟨b, ws, rfl, t2, r2⟩ := ry.tup_
    have := r2.inv_nil
    subst this
    obtain ⟨its, r3, p, _⟩ := I.tuple (.of t)
    obtain ⟨its2, r4, p2, _⟩ := I.tuple (.of t2)
    cases r4
    cases rv
    cases ru
    exact ht _ _ s a b its.toArray p p2 ⟨.bl _, H, I, by rw [em (isz r r3)]; rfl, kk _ S _ H (.refl rs) (.of _) q⟩
  · obtain ⟨a, vs, rfl, t, r⟩ := ls_sq rs rx hx
    obtain ⟨b, ws, rfl, t2, r2⟩ := ls_sq rs ry (xs := []) rfl
    have := r2.inv_nil
    subst this
    obtain ⟨its, r3, p, _⟩ := I.list t
    obtain ⟨its2, r4, p2, _⟩ := I.list t2
    cases r4
    cases rv
    cases ru
    exact hl _ _ s a b its.toArray p.isList p2.isList ⟨.bl _, H, I, by rw [em (isz r r3)]; rfl, kk _ S _ H (.refl rs) (.of _) q⟩
theorem od_eq0 (hr : Rg k X.A) : OpR X (compareOp .Eq) (l2 X.K (eq0D false)) := by
  have hu := hr.r.un
  refine od_eq0G hr (fun E Q s l b i h1 h2 q => ?_) fun E Q s l b i h1 h2 q => ?_
  · refine SeqAt.eq_tupleAt (e := fun _ => true) h1 h2 (by omega) (fun j z1 z2 => absurd z2 (by simp)) ?_
    have e : ((List.range (min i.size (#[] : Array Value).size)).all (fun _ => true) && i.size == (#[] : Array Value).size) = xor false i.isEmpty := by
      obtain ⟨l⟩ := i
      cases l <;> simp
    rw [e]
    exact q
  · by_cases h : i.size = 0
    · refine SeqAt.eq_listAt (e := fun _ => true) h1 h2 h (by omega) (fun j z1 z2 => absurd z2 (by simp)) ?_
      have e : (List.range i.size).all (fun _ => true) = xor false i.isEmpty := by simp [Array.isEmpty, h]
      rw [e]
      exact q
    · refine SeqAt.eq_list_lengthsAt h1 h2 (by simpa using h) (by omega) ?_
      have e : xor false i.isEmpty = false := by simp [Array.isEmpty, h]
      rw [e] at q
      exact q
theorem od_ne0 (hr : Rg k X.A) : OpR X (compareOp .NotEq) (l2 X.K (eq0D true)) := by
  have hu := hr.r.un
  refine od_eq0G hr (fun E Q s l b i h1 h2 q => ?_) fun E Q s l b i h1 h2 q => ?_
  · refine SeqAt.RcNeAt.tuples (e := fun _ => true) h1 h2 (by omega) (fun j z1 z2 => absurd z2 (by simp)) X.prog X.w E Q ?_
    have e : (!((List.range (min i.size (#[] : Array Value).size)).all (fun _ => true) && i.size == (#[] : Array Value).size)) = xor true i.isEmpty := by
      obtain ⟨l⟩ := i
      cases l <;> simp
    rw [e]
    exact q
  · by_cases h : i.size = 0
    · refine SeqAt.RcNeAt.lists (e := fun _ => true) h1 h2 h (by omega) (fun j z1 z2 => absurd z2 (by simp)) X.prog X.w E Q ?_
      have e : (!(List.range i.size).all (fun _ => true)) = xor true i.isEmpty := by simp [Array.isEmpty, h]
      rw [e]
      exact q
    · refine SeqAt.RcNeAt.lists_lengths h1 h2 (by simpa using h) (by omega) X.prog X.w E Q ?_
      have e : xor true i.isEmpty = true := by simp [Array.isEmpty, h]
      rw [e] at q
      exact q
theorem e0_t {neg : Bool} {xs : List D} {S : Sto} {Q : KD} (q : Q (.bl (xor neg xs.isEmpty)) S) : eq0D neg (.tup xs) (.tup []) S Q := .inl ⟨xs, rfl, rfl, q⟩
theorem e0_f {neg : Bool} {xs : List D} {S : Sto} {Q : KD} (q : Q (.bl (xor neg xs.isEmpty)) S) : eq0D neg (.fl xs) (.fl []) S Q := .inr ⟨xs, rfl, rfl, q⟩
theorem e0_l {neg : Bool} {x : D} {xs : List D} {S : Sto} {Q : KD} (h : lsOf S x = some xs) (q : Q (.bl (xor neg xs.isEmpty)) S) : eq0D neg x (.fl []) S Q := .inr ⟨xs, h, rfl, q⟩
/-! ### sum -/
def sumD : RDL := fun ds S Q => ∃ (x : D) (ns : List Int), ds = [x] ∧ lsOf S x = some (ns.map D.int) ∧ Q (.int ns.sum) S
theorem cd_sum (hc : X.calm = true) : CallR X (.builtin "sum") (lL X.K sumD) := by
  intro pins s σ H vs us Q I r hh
  obtain ⟨N, ds, S, Q', rd, rs, ⟨x, bs, rfl, hx, q⟩, kk⟩ := hh
  obtain ⟨v, rfl, rx⟩ := rd.one'
  obtain ⟨a, ws, rfl, sq, rw'⟩ := ls_sq rs rx hx
  have e : ws = bs.map V.int := RDs.atoms (us := bs.map V.int) (by rw [List.map_map]; exact rw')
  subst e
  exact L2.cr_sum hc pins s σ H _ us Q I r ⟨a, bs, rfl, sq, kk _ S _ H (.refl rs) (.of _) q⟩
/-! ### dict(pairs) -/
def dctP : RDL := fun ds S Q => ∃ (x : D) (kvs : List (Key × V)), ds = [x] ∧ lsOf S x = some (kvs.map fun kv => .tup [.at (kV kv.1), .at kv.2]) ∧ ∀ p, S p = none → Q (.ref p) (up S p (.dk ((mergeK [] kvs).map fun q => (q.1, .at q.2))))
theorem pairs_of {K : Kx} {H : Hp} {S : Sto} : ∀ {kvs : List (Key × V)} {vs : List V}, RDs K H S vs (kvs.map fun kv => D.tup [.at (kV kv.1), .at kv.2]) → ∃ ps : List Addr, vs = ps.map V.ref ∧ Paired (fun p kv => SqT K.k H p [kV kv.1, kv.2]) ps kvs
  | [], vs, r => ⟨[], r.inv_nil, .nil⟩
  | kv :: kvs, vs, r => by
    obtain ⟨v, ws, rfl, r1, r2⟩ := r.inv_cons
    obtain ⟨ps, rfl, pp⟩ := pairs_of r2
    obtain ⟨a, us, rfl, t, ru⟩ := r1.tup_
    have e : us = [kV kv.1, kv.2] := ru.atoms (us := [kV kv.1, kv.2])
    subst e
    exact ⟨a :: ps, rfl, .cons (.of t) pp⟩
theorem dk_atoms {K : Kx} {H : Hp} {S : Sto} {p : Addr} (kvs : List (Key × V)) (rs : RS K H S) (np : H p = none) : Bh K H S (upd H p (.dK kvs)) (up S p (.dk (kvs.map fun q => (q.1, .at q.2)))) := by
  obtain ⟨b1, b2⟩ := rs.new (o := .dK kvs) (m := .dk (kvs.map fun q => (q.1, .at q.2))) np fun le => ⟨_, upd_same, by rw [List.map_map]; rfl, by
    have := RDs.of_atoms (K := K) (H := upd H p (.dK kvs)) (S := up S p (.dk (kvs.map fun q => (q.1, .at q.2)))) (kvs.map (·.2))
    rw [List.map_map] at this ⊢
    exact this⟩
  exact ⟨b2, b1⟩
theorem cd_dictP (hc : X.calm = true) : CallR X (.type "dict") (lL X.K dctP) := by
  intro pins s σ H vs us Q I r hh
  obtain ⟨N, ds, S, Q', rd, rs, ⟨x, kvs, rfl, hx, q⟩, kk⟩ := hh
  obtain ⟨v, rfl, rx⟩ := rd.one'
  obtain ⟨a, ws, rfl, sq, rw'⟩ := ls_sq rs rx hx
  obtain ⟨ps, rfl, pp⟩ := pairs_of rw'
  refine call_dictP hc pins s σ H _ us Q I r ⟨a, ps, kvs, rfl, sq, pp, fun p np => ?_⟩
  exact kk _ _ _ _ (dk_atoms _ rs np) (.of _) (q p (rs.free np))
/-! ### list(dict) -/
def lstDk : RDL := fun ds S Q => ∃ (a : Addr) (kvs : List (Key × D)), ds = [.ref a] ∧ S a = some (.dk kvs) ∧ Q (.fl (kvs.map fun kv => .at (kV kv.1))) S
theorem cd_listDk (hc : X.calm = true) : CallR X (.type "list") (lL X.K lstDk) := by
  intro pins s σ H vs us Q I r hh
  obtain ⟨N, ds, S, Q', rd, rs, ⟨a, kvs, rfl, e, q⟩, kk⟩ := hh
  obtain ⟨v, rfl, rx⟩ := rd.one'
  have := rx.at_
  subst this
  obtain ⟨ks, h1, h2, h3⟩ := rs.ob a _ e
  refine call_listD hc pins s σ H _ us Q I r ⟨a, ks, rfl, .inl h1, fun p np => ?_⟩
  have e2 : (ks.map fun kv => kV kv.1) = (kvs.map (·.1)).map kV := by rw [← h2, List.map_map]; rfl
  have e3 : (kvs.map fun kv => D.at (kV kv.1)) = ((kvs.map (·.1)).map kV).map D.at := by rw [List.map_map, List.map_map]; rfl
  rw [e3] at q
  rw [e2]
  obtain ⟨b1, r1⟩ := new_fl rs np (RDs.of_atoms (K := ⟨X.K, N⟩) (H := H) (S := S) ((kvs.map (·.1)).map kV))
  exact kk _ S _ _ b1 r1 q
/-! ### f'c{i}' -/
def dFsi (c : Str) (te : TDE) : TDE := fun δ S Q => (Str.empty ++ c).length ≤ sizeLine ∧ te δ S fun x S1 => ∃ i : Int, x = .int i ∧ i.natAbs.log2 < 1920 ∧ (Str.empty ++ c ++ Str.ofString (toString i)).length ≤ sizeLine ∧ Q (.str (Str.empty ++ c ++ Str.ofString (toString i))) S1
theorem de_fsi {c : Str} {e : Expr} {te : TDE} {j} {p1 p2 pos : Pos} (he : PE X e (lE X.K te)) : PE X (.JoinedStr [.Constant (.str c) j p1, .FormattedValue e (-1) none p2] pos) (lE X.K (dFsi c te)) :=
  PE.wk (pe_joined (.cons pe_str (.cons (pe_fmt he) .nil))) fun σ H Q ⟨N, δ, S, Q', re, rs, ⟨h0, q⟩, kk⟩ => by
    refine ⟨c, rfl, h0, ?_⟩
    refine ⟨N, δ, S, _, re, rs, q, fun x S1 v H1 b1 rx q1 => ?_⟩
    obtain ⟨i, rfl, h1, h3, q1⟩ := q1
    exact .inr ⟨i, rx.at_, h1, Str.ofString (toString i), rfl, h3, kk _ S1 _ H1 b1 (.of _) q1⟩
end
end DL

/-! Data layer: written dicts looked up by get, texts of the module, displays of dicts, a tuple times one, keys by their values. -/
namespace DL
open PySem L2 PyProof.Rows
/-! ### a text of the module -/
def GS (mg : Str → Option Value) (x z : Str) : Prop := ∃ t, mg x = some (.str z t)
theorem de_gs {X : Cx} {x z : Str} {pos : Pos} (g : GS X.mg x z) (hg : Gl X x := by rfl) (hd : (x == ("__debug__" : Str)) = false := by decide) : PE X (.Name x pos) (lE X.K (dC (.str z))) := by
  obtain ⟨t, m⟩ := g
  exact de_glob (v := .str z) hg m ⟨t, rfl⟩ (fun N H S => .of _) hd
/-! ### a written dict of texts, all of it -/
def EntsS : List DictEntry → List (Str × Str) → Prop
  | [], [] => True
  | e :: r, kv :: q => (∃ t, e.key = .str kv.1 t) ∧ (∃ t, e.val = .str kv.2 t) ∧ EntsS r q
  | _, _ => False
theorem ents_find {z : Str} : ∀ {es : List DictEntry} {kvs : List (Str × Str)}, EntsS es kvs → (lookS kvs z = none → es.find? (fun d => Value.isStrOf z d.key) = none) ∧ ∀ v, lookS kvs z = some v → ∃ e t, es.find? (fun d => Value.isStrOf z d.key) = some e ∧ e.val = .str v t
  | [], [], _ => ⟨fun _ => rfl, fun v h => by cases h⟩
  | [], _ :: _, h => h.elim
  | _ :: _, [], h => h.elim
  | e :: r, (k, v) :: q, ⟨⟨t, h1⟩, ⟨t2, h2⟩, h3⟩ => by
    obtain ⟨a, b⟩ := ents_find (z := z) h3
    have hk : Value.isStrOf z e.key = decide (k = z) := by
      rw [h1, ← PySem.W.isStr_of]
      show (k == z) = decide (k = z)
      rfl
    by_cases h : k = z
    · have h' : Value.isStrOf z e.key = true := by rw [hk, decide_eq_true h]
      refine ⟨fun n => ?_, fun u n => ?_⟩
      · simp [lookS, List.find?_cons, h] at n
      · have : v = u := by simpa [lookS, List.find?_cons, h] using n
        subst this
        exact ⟨e, t2, by rw [List.find?_cons, h'], h2⟩
    · have h' : Value.isStrOf z e.key = false := by rw [hk, decide_eq_false h]
      have e1 : lookS ((k, v) :: q) z = lookS q z := by simp [lookS, List.find?_cons, h]
      rw [e1, List.find?_cons, h']
      exact ⟨a, b⟩
def GDx (K : PySem.W.Frag) (w : World) (mg : Str → Option Value) (x : Str) (kvs : List (Str × Str)) : Prop := ∃ a es n, mg x = some (.ref a) ∧ K.lookup a = some ⟨.type "dict", none, .dict es n, #[]⟩ ∧ PySem.W.KeysLit w.params es.toList ∧ EntsS es.toList kvs ∧ (a == sysModules) = false
section
variable {X : Cx} {k : Nat}
def lookD (kvs : List (Str × Str)) (z : Str) : D := match lookS kvs z with
  | none => .non
  | some v => .str v
def dGget (kvs : List (Str × Str)) (te : TDE) : TDE := fun δ S Q => te δ S fun x S1 => ∃ z, x = .str z ∧ Q (lookD kvs z) S1
theorem de_gget {x : Str} {kvs : List (Str × Str)} {e : Expr} {te : TDE} {p apos cpos : Pos} (G : GDx X.K X.w X.mg x kvs) (he : PE X e (lE X.K te)) (m : M1 X (.Name x p) "get" apos e cpos) (hg : Gl X x := by rfl) (hd : (x == ("__debug__" : Str)) = false := by decide) : PE X (.Call (.Attribute (.Name x p) "get" apos) [e] [] cpos) (lE X.K (dGget kvs te)) := by
  obtain ⟨a, es, n, hm, hl, hk, hs, low⟩ := G
  refine ⟨fun pins s σ H Q I ⟨N, δ, S, Q', re, rs, q, kk⟩ => ?_⟩
  refine wpAny_Call_method m.base m.few m.line PySem.F.plainAttrs_dict PySem.F.slot_dict_get PySem.F.type_dict_get (ld_glob I hg hm ?_ hd)
  have hm' := PySem.W.mapOf_K (prog := X.prog) (w := X.w) I.kIn hl hk
  refine ⟨hm'.typeIs, fun b eb => by cases eb; exact ⟨_, I.kIn _ _ hl, rfl⟩, ?_⟩
  rw [m.trees]
  refine Calls.callWith_builtin rfl (Calls.evalArgs_plain (Calls.spliced_cons (thn (he.run pins s σ H (fun v H2 => ∃ y S2, Bh ⟨X.K, N⟩ H S H2 S2 ∧ RD ⟨X.K, N⟩ H2 S2 v y ∧ ∃ z, y = .str z ∧ Q' (lookD kvs z) S2) I ⟨N, δ, S, _, re, rs, q, fun d S' v H' b r q' => ⟨d, S', b, r, q'⟩⟩) fun iv s2 h2 => Calls.spliced_nil ?_)))
  obtain ⟨v, H2, I2, rv, y, S2, b2, ry, z, rfl, q2⟩ := h2
  have ev := ry.at_
  subst ev
  obtain ⟨t, rfl⟩ := (show ∃ t, iv = Value.str z t from rv)
  have hm2 := PySem.W.mapOf_K (prog := X.prog) (w := X.w) I2.kIn hl hk
  obtain ⟨f1, f2⟩ := ents_find (z := z) hs
  refine call_meetsIn PySem.F.slot_dict_get hm2.typeIs PySem.F.entry_dict_get (PySem.F.args_dict_get_2 _ _) (meets_dict_get _ a (strKind_is X.prog X.w z t) low) ⟨_, hm2, ?_⟩
  have ef : ∀ r, es.toList.find? (fun d => Value.isStrOf z d.key) = r → PySem.findBy Value.isStrOf es z = r.map (·.val) := fun r e => by
    obtain ⟨l⟩ := es
    unfold PySem.findBy
    rw [List.find?_toArray]
    exact congrArg _ e
  cases hz : lookS kvs z with
  | none =>
    rw [ef _ (f1 hz)]
    refine ⟨.non, H2, I2.tok _, rfl, kk _ S2 _ H2 b2 (.of _) ?_⟩
    unfold lookD at q2
    rw [hz] at q2
    exact q2
  | some v =>
    obtain ⟨e, t2, h1, h2⟩ := f2 v hz
    rw [ef _ h1]
    refine ⟨.str v, H2, I2.tok _, ⟨t2, h2⟩, kk _ S2 _ H2 b2 (.of _) ?_⟩
    unfold lookD at q2
    rw [hz] at q2
    exact q2
/-! ### {'a': e, ..} -/
def dPrs : List (Key × TDE) → DSt → Sto → (List D → Sto → Prop) → Prop
  | [], _, S, Q => Q [] S
  | kt :: r, δ, S, Q => kt.2 δ S fun y S1 => dPrs r δ S1 fun ys S2 => Q (y :: ys) S2
def dDisp (kts : List (Key × TDE)) : TDE := fun δ S Q => ∀ p, S p = none → dPrs kts δ (up S p (.dk [])) fun ys S2 => S2 p = some (.dk []) ∧ Q (.ref p) (up S2 p (.dk ((kts.map (·.1)).zip ys)))
theorem merge_app : ∀ (more kvs : List (Key × V)), ((kvs ++ more).map (·.1)).Nodup → mergeK kvs more = kvs ++ more
  | [], kvs, _ => by rw [List.append_nil]; rfl
  | kv :: r, kvs, h => by
    have e : putK kvs kv.1 kv.2 = kvs ++ [kv] := by
      unfold putK
      rw [if_neg]
      intro hh
      obtain ⟨x, hx, hy⟩ := List.any_eq_true.mp hh
      have hy : x.1 = kv.1 := of_decide_eq_true hy
      rw [List.map_append, List.map_cons] at h
      exact (List.nodup_append.mp h).2.2 x.1 (List.mem_map_of_mem hx) kv.1 List.mem_cons_self hy
    have e2 : mergeK kvs (kv :: r) = mergeK (putK kvs kv.1 kv.2) r := rfl
    rw [e2, e, merge_app r (kvs ++ [kv]) (by rw [List.append_assoc]; exact h), List.append_assoc]
    rfl
theorem lift_prs {K : PySem.W.Frag} {N : Addr → Prop} : ∀ (kts : List (Key × TDE)) {δ : DSt} {σ : L2.St} {H : Hp} {S : Sto} {Q' : List D → Sto → Prop} {Q : List (V × V) → Hp → Prop}, RE ⟨K, N⟩ H S σ δ → RS ⟨K, N⟩ H S → dPrs kts δ S Q' →
    (∀ (ys : List D) (S' : Sto) (vs : List V) (H' : Hp), Bh ⟨K, N⟩ H S H' S' → RDs ⟨K, N⟩ H' S' vs ys → vs.length = kts.length → Q' ys S' → Q (((kts.map (·.1)).zip vs).map fun kv => (kV kv.1, kv.2)) H') → tPairs (kts.map fun kt => (tC (kV kt.1), lE K kt.2)) σ H Q
  | [], δ, σ, H, S, Q', Q, re, rs, q, kk => kk [] S [] H (.refl rs) .nil rfl q
  | kt :: r, δ, σ, H, S, Q', Q, re, rs, q, kk => by
    refine ⟨N, δ, S, _, re, rs, q, fun y S1 v H1 b1 ry q1 => ?_⟩
    refine lift_prs r (re.le (rs.le b1.fr)) b1.rs q1 fun ys S2 vs H2 b2 rys hl q2 => ?_
    exact kk (y :: ys) S2 (v :: vs) H2 (b1.trans b2) (.cons (ry.le (b1.rs.le b2.fr)) rys) (by simp [hl]) q2
theorem de_disp (kts : List (Key × TDE)) {keys : List (Option Expr)} {values : List Expr} {pos : Pos} (h : PPs X pos keys values (kts.map fun kt => (tC (kV kt.1), lE X.K kt.2))) (hn : (kts.map (·.1)).Nodup := by decide) (hall : keys.all (·.isSome) = true := by rfl) (hl : keys.length = values.length := by rfl) (h0 : keys ≠ [] := by exact List.cons_ne_nil _ _)
    (h15 : keys.length ≤ 15 := by decide) (h16 : kts.length ≤ 15 := by decide) : PE X (.Dict keys values pos) (lE X.K (dDisp kts)) :=
  PE.wk (pe_disp h hall hl h0 h15) fun σ H Q ⟨N, δ, S, Q', re, rs, q, kk⟩ p np => by
    obtain ⟨a0, f0⟩ := rs.new (o := .dK []) (m := .dk []) np fun c => ⟨[], upd_same, rfl, .nil⟩
    have b0 : Bh ⟨X.K, N⟩ H S (upd H p (.dK [])) (up S p (.dk [])) := ⟨f0, a0⟩
    refine lift_prs kts (re.le (rs.le f0)) a0 (q p (rs.free np)) fun ys S2 vs H2 b2 ry hlv ⟨e2, q2⟩ => ?_
    obtain ⟨ks, h1, h2, _⟩ := b2.rs.ob p _ e2
    have hks : ks = [] := by cases ks with | nil => rfl | cons a b => simp at h2
    subst hks
    have z1 : ((kts.map (·.1)).zip vs).map (·.1) = kts.map (·.1) := by rw [List.map_fst_zip]; simp [hlv]
    have z2 : ((kts.map (·.1)).zip vs).map (·.2) = vs := by rw [List.map_snd_zip]; simp [hlv]
    have hly : ys.length = kts.length := by rw [← ry.length, hlv]
    have z3 : ((kts.map (·.1)).zip ys).map (·.1) = kts.map (·.1) := by rw [List.map_fst_zip]; simp [hly]
    have z4 : ((kts.map (·.1)).zip ys).map (·.2) = ys := by rw [List.map_snd_zip]; simp [hly]
    refine ⟨h1, (kts.map (·.1)).zip vs, rfl, by simp [hlv]; exact h16, ?_⟩
    have em : mergeK [] ((kts.map (·.1)).zip vs) = (kts.map (·.1)).zip vs := merge_app _ [] (by rw [List.nil_append, z1]; exact hn)
    rw [em]
    obtain ⟨c1, c2⟩ := b2.rs.write (o := .dK ((kts.map (·.1)).zip vs)) (m' := .dk ((kts.map (·.1)).zip ys)) e2 fun le => ⟨_, upd_same, by rw [z1, z3], by rw [z2, z4]; exact ry.le le⟩
    exact kk _ _ _ _ ((b0.trans b2).trans ⟨c2, c1⟩) (.of _) q2
/-! ### a tuple times an int, one, too -/
theorem tuple_mul1 (l : Addr) (items : Array Value) (n : Nat) (dd : Option Addr) (sl : Array (Option Value)) (x : Int) (u : Tok) (c0 : (decide (x < -2 ^ 63) || decide (x ≥ 2 ^ 63)) = false) (c1 : (items.isEmpty || x == 1) = true) :
    Meets (Builtin.«tuple.__mul__» { pos := [Value.ref l, Value.int x u] }) fun x_1 R s =>
      s.heap.get? l = some { cls := Value.type "tuple", dict := dd, data := Data.seq items n, slots := sl } ∧ R (Except.ok (Flow.ret (Value.ref l))) s := by
  refine Meets.of_wp fun prog w A R s h => ?_
  obtain ⟨hp, g, d, tk, os⟩ := s
  obtain ⟨hl, h⟩ := h
  have f1 := AutoSeq1.idx_int
  refine wpAny_ite_false (decide_eq_false (by rw [c0]; exact Bool.false_ne_true)) ?_
  refine wpAny_bind ?_
  refine wpAny_bind ?_
  refine wpAny_bind (wpAny_load' hl (wpAny_pure (wpAny_pure ?_)))
  refine wpAny_ite_true (decide_eq_true c1) ?_
  wp_walk using wpAny_loadPart' hl, wpAny_load' hl
  exact ⟨_, rfl, h⟩
/-- a tuple times one: itself -/
def mulT1 : RD2 := fun x y S Q => mulT x y S Q ∨ ∃ xs, x = .tup xs ∧ y = .int 1 ∧ Q (.tup xs) S
theorem od_mulT1 : OpR X (binaryOp .Mult) (l2 X.K mulT1) := by
  intro pins s σ H v u vv uu Q I rv ru h'
  obtain ⟨N, x, y, S, Q', rx, ry, rs, q, kk⟩ := h'
  rcases q with q | ⟨xs, rfl, rfl, q⟩
  · exact od_mulT pins s σ H v u vv uu Q I rv ru ⟨N, x, y, S, Q', rx, ry, rs, q, kk⟩
  obtain ⟨a, vs, rfl, e, r⟩ := rx.tup_
  have ey := ry.at_
  subst ey
  cases rv
  obtain ⟨t, rfl⟩ := (show ∃ t, uu = Value.int 1 t from ru)
  obtain ⟨its, r3, ⟨w, ho, hc, n, hd⟩, hs⟩ := I.tuple (.of e)
  obtain ⟨cls, dd, data, sl⟩ := w
  dsimp only at hc hd
  subst hc
  subst hd
  have c1 : (its.toArray.isEmpty || (1 : Int) == 1) = true := by simp
  refine wpAny_binaryOp_repeat_ref (by decide : (Value.type "tuple" == Value.type "int") = false) ⟨_, ho, rfl⟩ (fun s' => typeIs_int s' 1 t) noFill_tuple_mul F.fills_int_mul PySem.F.slot_int_rmul repeat_tuple PySem.F.slot_int_index.lookup
    (call_meets PySem.F.slot_int_rmul (typeIs_int s 1 t) PySem.F.entry_int_rmul (PySem.F.args_int_rmul_2 (Value.int 1 t) (Value.ref a)) (int_rmul_tuple 1 t a its.toArray n dd sl) ⟨ho, rfl, ⟨_, ho, rfl⟩,
      call_meets PySem.F.slot_tuple_mul ⟨_, ho, rfl⟩ PySem.F.entry_tuple_mul (PySem.F.args_tuple_mul_2 (Value.ref a) (Value.int 1 t)) (tuple_mul1 a its.toArray n dd sl 1 t (by decide) c1) ⟨ho, ?_⟩⟩)
  exact ⟨V.ref a, H, I, rfl, kk _ S _ H (.refl rs) (.of_tup e r) q⟩
end
end DL

/-! Data layer: values of any kind, a dict of the store among them; what repr tells of them. -/
namespace DL
open PySem L2 PyProof.Rows
/-- the only dicts among such values -/
def dcA : List (Key × D) := [(.inr "a", .int 1)]
mutual
/-- what a value reads as -/
def pyOf (S : Sto) : D → PyData
  | .at .non => .none
  | .at (.bl b) => .bool b
  | .at (.int i) => .int i
  | .at (.str s) => .str s
  | .at (.ref a) => match S a with
    | some (.dk []) => .dict []
    | some (.dk _) => .dict [(.str "a", .int 1)]
    | _ => .none
  | .at _ => .none
  | .tup l => .tuple (pyOfs S l)
  | .wt l => .tuple (pyOfs S l)
  | .fl l => .list (pyOfs S l)
def pyOfs (S : Sto) : List D → List PyData
  | [] => []
  | d :: ds => pyOf S d :: pyOfs S ds
end
mutual
/-- a value; lists in it, dicts in it -/
def vok (S : Sto) (ls dd : Bool) (n : Nat) : D → Prop
  | .at .non => True
  | .at (.bl _) => True
  | .at (.int i) => i.natAbs.log2 < 1900 ∧ (PyData.shown (.int i)).length ≤ 41
  | .at (.str s) => PyData.strOk s = true ∧ s.length ≤ 64
  | .at (.ref a) => dd = true ∧ (S a = some (.dk []) ∨ S a = some (.dk dcA))
  | .at _ => False
  | .tup l => l.length ≤ n ∧ voks S ls dd n l
  | .wt _ => False
  | .fl l => ls = true ∧ voks S ls dd n l
def voks (S : Sto) (ls dd : Bool) (n : Nat) : List D → Prop
  | [] => True
  | d :: ds => vok S ls dd n d ∧ voks S ls dd n ds
end
theorem voks_iff {S : Sto} {ls dd : Bool} {n : Nat} : ∀ {xs : List D}, voks S ls dd n xs ↔ ∀ x ∈ xs, vok S ls dd n x
  | [] => by unfold voks; simp
  | x :: xs => by unfold voks; rw [voks_iff]; simp
theorem pyOfs_map {S : Sto} : ∀ xs : List D, pyOfs S xs = xs.map (pyOf S)
  | [] => by unfold pyOfs; rfl
  | x :: xs => by unfold pyOfs; rw [pyOfs_map xs]; rfl
section
variable {X : Cx} {pins : List (Addr × Obj)} {σ : L2.St} {H : Hp} {s : Shared} {N : Addr → Prop} {S : Sto} {ls dd : Bool} {n : Nat}
mutual
theorem vok_reads (I : Inv X pins σ H s) (rs : RS ⟨X.K, N⟩ H S) : ∀ {d : D} {v : V} {u : Value}, RD ⟨X.K, N⟩ H S v d → RelV v u → vok S ls dd n d → ∃ as, Reads s.heap u (pyOf S d) as ∧ (ls = false → ∀ z ∈ as, (z == sysModules) = false)
  | .at w, v, u, r, rv, h => by
    have e := r.at_
    subst e
    cases v with
    | non => cases rv; unfold pyOf; exact ⟨_, .none, fun _ z hz => nomatch hz⟩
    | bl b => cases rv; unfold pyOf; exact ⟨_, .bool b, fun _ z hz => nomatch hz⟩
    | int i => obtain ⟨t, rfl⟩ := rv; unfold pyOf; exact ⟨_, .int i t, fun _ z hz => nomatch hz⟩
    | str x => obtain ⟨t, rfl⟩ := rv; unfold pyOf; exact ⟨_, .str x t, fun _ z hz => nomatch hz⟩
    | byt _ => unfold vok at h; exact h.elim
    | flt _ => unfold vok at h; exact h.elim
    | ty _ => unfold vok at h; exact h.elim
    | ref a =>
      unfold vok at h
      cases rv
      rcases h.2 with e | e
      · unfold pyOf
        rw [e]
        obtain ⟨ks, h1, h2, _⟩ := rs.ob a _ e
        have hk : ks = [] := by cases ks with | nil => rfl | cons a b => simp at h2
        subst hk
        obtain ⟨_, hm, vs, kv, o, es, ep, g1, g2, g3, g4⟩ := I.hok a _ h1
        have hv : vs = [] := by cases kv; rfl
        subst hv
        have he : es.toList = [] := by
          have z := g4.2.1
          cases h : es.toList with
          | nil => rfl
          | cons a b => rw [h] at z; cases z
        refine ⟨_, .dict g1 g2.1 g3 (by rw [he]; exact .nil) (by rw [he]; exact .nil), fun _ z hz => ?_⟩
        have : z = a := by simpa using hz
        rw [this]; exact hm
      · unfold pyOf
        rw [e]
        obtain ⟨ks, h1, h2, h3⟩ := rs.ob a _ e
        obtain ⟨k0, v0, rfl⟩ : ∃ k0 v0, ks = [(k0, v0)] := by
          cases ks with
          | nil => simp [dcA] at h2
          | cons p r =>
            cases r with
            | nil => exact ⟨p.1, p.2, rfl⟩
            | cons q r => simp [dcA] at h2
        have ek : k0 = .inr "a" := by simpa [dcA] using h2
        subst ek
        have ev : v0 = .int 1 := by
          have := (RDs.of_cons (v := v0) (d := D.int 1) (vs := []) (ds := []) h3).1
          exact this.at_
        subst ev
        obtain ⟨_, hm, vs, kv, o, es, ep, g1, g2, g3, g4⟩ := I.hok a _ h1
        obtain ⟨w1, rfl, hw1, hw2⟩ : ∃ w1, vs = [(.inr "a", w1)] ∧ RelV (.int 1) w1 ∧ True := by
          cases kv with
          | cons p q =>
            cases q
            rename_i b
            obtain ⟨bk, bv⟩ := b
            obtain ⟨p1, p2⟩ := p
            dsimp only at p1 p2
            subst p1
            exact ⟨bv, rfl, p2, trivial⟩
        obtain ⟨t1, rfl⟩ := hw1
        have z := g4.2.1
        obtain ⟨e0, he, hk0, hv0⟩ : ∃ e0, es.toList = [e0] ∧ keyIs (.inr "a") e0.key = true ∧ e0.val = .int 1 t1 := by
          cases h : es.toList with
          | nil => rw [h] at z; cases z
          | cons b c =>
            rw [h] at z
            cases z with
            | cons p1 p2 p3 =>
              cases p3
              exact ⟨b, rfl, p1, p2⟩
        obtain ⟨t2, ht2⟩ : ∃ t2, e0.key = .str "a" t2 := by
          rcases keyIs_shape hk0 with ⟨i, t, e1, e2⟩ | ⟨x, t, e1, e2⟩
          · first | cases e1 | cases e2
          · first
              | (cases e1; exact ⟨t, e2⟩)
              | (cases e2; exact ⟨t, e1⟩)
        refine ⟨_, .dict (as := []) (bs := []) g1 g2.1 g3 ?_ ?_, fun _ z hz => ?_⟩
        · rw [he]
          show ReadsAll _ [e0.key] [.str "a"] []
          rw [ht2]
          exact .cons (as := []) (bs := []) (.str _ _) .nil
        · rw [he]
          show ReadsAll _ [e0.val] [.int 1] []
          rw [hv0]
          exact .cons (as := []) (bs := []) (.int _ _) .nil
        · have : z = a := by simpa using hz
          rw [this]; exact hm
  | .tup xs, v, u, r, rv, h => by
    obtain ⟨a, vs, rfl, t, ru⟩ := r.tup_
    unfold vok at h
    unfold pyOf
    cases rv
    obtain ⟨its, r3, ⟨o, ho, hc, n, hd⟩, _⟩ := I.tuple (.of t)
    obtain ⟨as, q1, q2⟩ := voks_reads I rs ru r3 h.2
    exact ⟨_, .tuple ho hc hd q1, q2⟩
  | .wt xs, v, u, r, rv, h => by unfold vok at h; exact h.elim
  | .fl xs, v, u, r, rv, h => by
    obtain ⟨a, vs, rfl, t, ru⟩ := r.fl_
    unfold vok at h
    unfold pyOf
    cases rv
    obtain ⟨its, r3, ⟨o, n, ho, hc, _, hd⟩, _⟩ := I.list t.sq
    obtain ⟨as, q1, q2⟩ := voks_reads I rs ru r3 h.2
    exact ⟨_, .list ho hc hd q1, fun z => by rw [h.1] at z; cases z⟩
theorem voks_reads (I : Inv X pins σ H s) (rs : RS ⟨X.K, N⟩ H S) : ∀ {ds : List D} {vs : List V} {us : List Value}, RDs ⟨X.K, N⟩ H S vs ds → Vals vs us → voks S ls dd n ds → ∃ as, ReadsAll s.heap us (pyOfs S ds) as ∧ (ls = false → ∀ z ∈ as, (z == sysModules) = false)
  | [], vs, us, r, rv, h => by
    have := r.inv_nil
    subst this
    cases rv
    unfold pyOfs
    exact ⟨_, .nil, fun _ z hz => nomatch hz⟩
  | d :: ds, vs, us, r, rv, h => by
    obtain ⟨v, ws, rfl, r1, r2⟩ := r.inv_cons
    cases rv with
    | cons rv1 rv2 =>
      unfold voks at h
      unfold pyOfs
      obtain ⟨as, q1, q2⟩ := vok_reads I rs r1 rv1 h.1
      obtain ⟨bs, q3, q4⟩ := voks_reads I rs r2 rv2 h.2
      exact ⟨_, .cons q1 q3, fun z y hy => (List.mem_append.mp hy).elim (q2 z y) (q4 z y)⟩
end
mutual
theorem vok_props : ∀ {d : D}, vok S ls dd n d → (pyOf S d).showable = true ∧ (pyOf S d).leavesShort 41 = true ∧ (dd = false → (pyOf S d).hasDict = false)
  | .at w, h => by
    cases w with
    | non => unfold pyOf; exact ⟨rfl, rfl, fun _ => rfl⟩
    | bl b => unfold pyOf; exact ⟨rfl, rfl, fun _ => rfl⟩
    | int i => unfold vok at h; unfold pyOf; exact ⟨decide_eq_true (by omega), decide_eq_true h.2, fun _ => rfl⟩
    | str x =>
      unfold vok at h
      unfold pyOf
      refine ⟨rfl, ?_, fun _ => rfl⟩
      simp only [PyData.leavesShort, List.all_eq_true, decide_eq_true_eq]
      intro c hc
      have h0 := h.1
      unfold PyData.strOk at h0
      rw [Array.all_eq_true] at h0
      obtain ⟨i, hi, e⟩ := List.getElem_of_mem hc
      have := h0 i (by simpa using hi)
      rw [Array.getElem_toList] at e
      rw [e] at this
      have := of_decide_eq_true this
      have z : (16 : Nat) ^ 8 = 4294967296 := by decide
      omega
    | byt _ => unfold vok at h; exact h.elim
    | flt _ => unfold vok at h; exact h.elim
    | ty _ => unfold vok at h; exact h.elim
    | ref a =>
      unfold vok at h
      unfold pyOf
      rcases h.2 with e | e <;> rw [e]
      · exact ⟨rfl, rfl, fun z => by rw [h.1] at z; cases z⟩
      · exact ⟨by decide +kernel, by decide +kernel, fun z => by rw [h.1] at z; cases z⟩
  | .tup xs, h => by
    unfold vok at h
    unfold pyOf
    obtain ⟨a, b, c⟩ := voks_props h.2
    exact ⟨by simp only [PyData.showable]; exact a, by simp only [PyData.leavesShort]; exact b, fun z => by simp only [PyData.hasDict]; exact c z⟩
  | .wt xs, h => by unfold vok at h; exact h.elim
  | .fl xs, h => by
    unfold vok at h
    unfold pyOf
    obtain ⟨a, b, c⟩ := voks_props h.2
    exact ⟨by simp only [PyData.showable]; exact a, by simp only [PyData.leavesShort]; exact b, fun z => by simp only [PyData.hasDict]; exact c z⟩
theorem voks_props : ∀ {ds : List D}, voks S ls dd n ds → PyData.showableAll (pyOfs S ds) = true ∧ PyData.leavesShortAll 41 (pyOfs S ds) = true ∧ (dd = false → PyData.hasDictAll (pyOfs S ds) = false)
  | [], h => by unfold pyOfs; exact ⟨rfl, rfl, fun _ => rfl⟩
  | d :: ds, h => by
    unfold voks at h
    unfold pyOfs
    obtain ⟨a, b, c⟩ := vok_props h.1
    obtain ⟨a2, b2, c2⟩ := voks_props h.2
    exact ⟨by simp only [PyData.showableAll, a, a2]; rfl, by simp only [PyData.leavesShortAll, b, b2]; rfl, fun z => by simp only [PyData.hasDictAll, c z, c2 z]; rfl⟩
end
/-- repr of such a value -/
def repD3 : RDL := fun ds S Q => ∃ x ls dd n, ds = [x] ∧ (ls && dd) = false ∧ vok S ls dd n x ∧ (pyOf S x).depth ≤ 60 ∧ (pyOf S x).weight ≤ 300000 ∧ Q (.str (pyOf S x).shown) S
theorem cd_repr3 {k : Nat} (hr : Rg k X.A) : CallR X (.builtin "repr") (lL X.K repD3) := by
  intro pins s σ H vs us Q I r hh
  obtain ⟨N, ds, S, Q', rd, rs, ⟨x, ls, dd, n, rfl, hl, hv, hd, hw, q⟩, kk⟩ := hh
  obtain ⟨v, rfl, rx⟩ := rd.one'
  obtain ⟨u, rfl, ru⟩ := Vals.one r
  have fin : ∀ {u : Tok} {h' : Heap} {tk : Nat}, Inv X pins σ H { s with heap := h', toks := tk } → EP X pins σ Q (.str (pyOf S x).shown u) { s with heap := h', toks := tk } := fun {u h' tk} J => ⟨.str _, H, J, ⟨u, rfl⟩, kk _ S _ H (.refl rs) (.of _) q⟩
  obtain ⟨as, rr, hs⟩ := vok_reads I rs rx ru hv
  obtain ⟨p1, p2, p3⟩ := vok_props hv
  have hz : (pyOf S x).shown.length ≤ sizeLine := by
    have := PyData.shown_le 41 (by decide) _ p2
    rw [sizeLine_eq]
    omega
  have hu := hr.r.un
  have low : (pyOf S x).hasDict = true → sysModules ∉ as := fun z hm => by
    cases dd with
    | false => rw [p3 rfl] at z; cases z
    | true =>
      have : ls = false := by simpa using hl
      have := hs this _ hm
      simp at this
  generalize pyOf S x = d at rr p1 p2 p3 hz low fin hd hw q
  cases d with
  | none => cases rr; exact PySem.P.repr_of_none (fin (I.tok _))
  | bool b => cases rr; exact PySem.P.repr_of_bool (by cases b <;> exact fin (I.tok _))
  | int i => cases rr; exact PySem.P.repr_of_int (of_decide_eq_true p1) (fin (I.tok _))
  | str z => cases rr; exact PySem.P.repr_of_str (fin (I.tok _)) hz
  | list xs =>
    cases rr
    rename_i a o vs n e1 e2 e3 e4
    exact repr_of_reads' (.list e1 e2 e3 e4) p1 low hr.g (by omega) (fun _ _ e => e) (fun h' u tk hk => fin (I.kept hk)) hz
  | tuple xs =>
    cases rr
    rename_i a o vs n e1 e2 e3 e4
    exact repr_of_reads' (.tuple e1 e2 e3 e4) p1 low hr.g (by omega) (fun _ _ e => e) (fun h' u tk hk => fin (I.kept hk)) hz
  | dict kvs =>
    have rr2 := rr
    cases rr
    exact repr_of_reads' rr2 p1 low hr.g (by omega) (fun _ _ e => e) (fun h' u tk hk => fin (I.kept hk)) hz
end
end DL

/-! Data layer: [k for k in d if d[k] > c]. -/
namespace DL
open PySem L2 PyProof.Rows
section
variable {X : Cx}
def rDx : R2 := fun x y H Q => ∃ a v, x = .ref a ∧ DGet H a y (some v) ∧ Q v H
abbrev rGtI : R2 := rI0 fun i j => .bl (decide (j < i))
def dKgt (i j : Nat) (c : Int) : TDE := fun δ S Q => ∃ (a : Addr) (ks : List (Key × Int)), δ[i]? = some (some (.ref a)) ∧ S a = some (.dk (ks.map fun q => (q.1, .int q.2))) ∧ (ks.map (·.1)).Nodup ∧ ks.length < sizeLine ∧ j < δ.length ∧ Q (.fl ((ks.filter fun q => decide (c < q.2)).map fun q => .at (kV q.1))) S
theorem val_at {ks : List (Key × Int)} (h : (ks.map (·.1)).Nodup) {n : Nat} {q : Key × Int} (e : ks[n]? = some q) : valV (ks.map fun q => (q.1, V.int q.2)) q.1 = some (.int q.2) := by
  induction ks generalizing n with
  | nil => simp at e
  | cons p r ih =>
    rw [List.map_cons, List.nodup_cons] at h
    cases n with
    | zero =>
      simp only [List.getElem?_cons_zero, Option.some.injEq] at e
      subst e
      simp [valV, List.find?_cons]
    | succ n =>
      simp only [List.getElem?_cons_succ] at e
      have ne : p.1 ≠ q.1 := fun z => h.1 (by rw [z]; exact List.mem_map_of_mem (List.mem_of_getElem? e))
      rw [List.map_cons]
      have := valV_neg (p := ((p.1, V.int p.2) : Key × V)) (r := r.map fun q => (q.1, V.int q.2)) (k := q.1) ne
      rw [this]
      exact ih h.2 e
theorem take_filter {ks : List (Key × Int)} {c : Int} {n : Nat} {q : Key × Int} (e : ks[n]? = some q) : (((ks.take (n + 1)).filter fun q => decide (c < q.2)).map fun q => kV q.1) = (((ks.take n).filter fun q => decide (c < q.2)).map fun q => kV q.1) ++ (if c < q.2 then [kV q.1] else []) := by
  rw [tk1 e, List.filter_append, List.map_append]
  congr 1
  by_cases h : c < q.2
  · rw [if_pos h, List.filter_cons, if_pos (decide_eq_true h)]; rfl
  · rw [if_neg h, List.filter_cons, decide_eq_false h]; rfl
theorem un1 {k : Nat} {A : Around} (hr : Rg k A) : A.units + 1 < cLine := by have := hr.r.un; omega
theorem de_kgt (i j : Nat) (c : Int) {one : Str} {elt tg iter : Expr} {ifs : List Expr} {scope : Scope} {pos : Pos} (hij : i ≠ j) (hc : X.calm = true) (hN : X.N.Nodup) (hi : PE X iter (tVar i)) (ok : BlkOk X.N X.env.scope scope [(one, j)])
    (hg : ∀ (s : Shared) (H : Hp) (C : Addr) (cl : List (Str × Addr)) (fp : List Addr), PG (X.blk s H scope (compEnvC scope cl C X.env) fp) tg (gName j))
    (ht : ∀ (s : Shared) (H : Hp) (C : Addr) (cl : List (Str × Addr)) (fp : List Addr), PTs (X.blk s H scope (compEnvC scope cl C X.env) fp) ifs (tTest (tOp rGtI (tOp rDx (tVar i) (tVar j)) (tC (.int c)))))
    (he : ∀ (s : Shared) (H : Hp) (C : Addr) (cl : List (Str × Addr)) (fp : List Addr), PE (X.blk s H scope (compEnvC scope cl C X.env) fp) elt (tVar j)) (hs : ∀ x, foldedSetIterable iter X.env x = pure x := by intro _; rfl) :
    PE X (.ListComp elt [⟨tg, iter, ifs, 0⟩] scope pos) (lE X.K (dKgt i j c)) :=
  PE.wk (pe_lock (pe_lc (own := [(one, j)]) hc hN (pi_keys hi) ok hg ht he hs)) fun σ H Q ⟨N, δ, S, Q', re, rs, ⟨a, ks, hδ, e, nd, hsz, hjd, q⟩, kk⟩ => by
    obtain ⟨v, hσ, rv⟩ := re.2 i _ hδ
    have ev := rv.at_
    subst ev
    obtain ⟨gs, h1, h2, h3⟩ := rs.ob a _ e
    have egs : gs = ks.map fun q => (q.1, V.int q.2) := by
      have r : RDs ⟨X.K, N⟩ H S (gs.map (·.2)) ((ks.map fun q => V.int q.2).map D.at) := by
        rw [List.map_map] at h3 ⊢
        exact h3
      have e2 := r.atoms
      rw [List.map_map] at h2
      have : ∀ (gs : List (Key × V)) (ks : List (Key × Int)), gs.map (·.1) = ks.map ((·.1) ∘ fun q => (q.1, D.int q.2)) → gs.map (·.2) = ks.map (fun q => V.int q.2) → gs = ks.map fun q => (q.1, V.int q.2) := by
        intro gs
        induction gs with
        | nil => intro ks a b; cases ks with | nil => rfl | cons p r => simp at a
        | cons g gs ih =>
          intro ks a b
          cases ks with
          | nil => simp at a
          | cons p r =>
            rw [List.map_cons, List.map_cons, List.cons.injEq] at a b
            rw [List.map_cons, ← ih r a.2 b.2]
            congr 1
            exact Prod.ext a.1 b.1
      exact this gs ks h2 e2
    subst egs
    refine ⟨a, .dK (ks.map fun q => (q.1, V.int q.2)), h1, trivial, fun od => ?_⟩
    refine ⟨.ref a, hσ, a, od, rfl, .inl ⟨_, upd_same, fun Dn hD => ?_⟩⟩
    have neD : a ≠ Dn := fun z => by subst z; rw [upd_same] at hD; cases hD
    have hD0 : H Dn = none := by rw [upd_ne (fun z => neD z.symm)] at hD; exact hD
    refine ⟨fun n m H2 => m = ks.length - n ∧ n ≤ ks.length ∧ H2 = upd (upd H a (.frz od (.dK (ks.map fun q => (q.1, V.int q.2))))) Dn (.lst (((ks.take n).filter fun q => decide (c < q.2)).map fun q => kV q.1)), ⟨ks.length, rfl, Nat.zero_le _, rfl⟩, ?_⟩
    rintro n m H2 ⟨rfl, hn, rfl⟩
    have hfa : (upd (upd H a (.frz od (.dK (ks.map fun q => (q.1, V.int q.2))))) Dn (.lst (((ks.take n).filter fun q => decide (c < q.2)).map fun q => kV q.1))) a = some (.frz od (.dK (ks.map fun q => (q.1, V.int q.2)))) := by
      rw [upd_ne neD, upd_same]
    by_cases hlt : n < ks.length
    · refine .inr ⟨⟨hfa, by simpa using hlt⟩, fun H' => H' = upd (upd H a (.frz od (.dK (ks.map fun q => (q.1, V.int q.2))))) Dn (.lst (((ks.take (n + 1)).filter fun q => decide (c < q.2)).map fun q => kV q.1)), fun H' e' => ⟨ks.length - (n + 1), by omega, rfl, hlt, e'⟩, ?_⟩
      rintro x H' ⟨rfl, kx, vx, hk, rfl⟩
      obtain ⟨q0, hq0, eq0⟩ := map_at hk
      cases eq0
      have hw : wipe ((wipe σ [j]).set j (some (kV q0.1))) [j] = wipe σ [j] := by
        rw [wipe_set List.mem_cons_self, wipe_wipe]
      have hσi : ((wipe σ [j]).set j (some (kV q0.1)))[i]? = some (some (.ref a)) := by
        rw [List.getElem?_set_ne (Ne.symm hij)]
        show (σ.set j none)[i]? = _
        rw [List.getElem?_set_ne (Ne.symm hij), hσ]
      have hjl : j < σ.length := by rw [re.1]; exact hjd
      have hσj : ((wipe σ [j]).set j (some (kV q0.1)))[j]? = some (some (kV q0.1)) := by
        rw [List.getElem?_set_self]
        show j < (σ.set j none).length
        simpa using hjl
      show wipe ((wipe σ [j]).set j (some (kV q0.1))) [j] = wipe σ [j] ∧ _
      refine ⟨hw, ?_⟩
      refine ⟨.ref a, hσi, kV q0.1, hσj, a, .int q0.2, rfl, .inl ⟨_, q0.1, .inr ⟨od, hfa⟩, rfl, (val_at nd hq0).symm⟩, q0.2, c, rfl, rfl, decide (c < q0.2), rfl, ?_⟩
      by_cases hgt : c < q0.2
      · rw [decide_eq_true hgt]
        refine iteT ⟨kV q0.1, hσj, _, upd_same, ?_, ?_⟩
        · rw [List.length_map]
          exact Nat.lt_of_le_of_lt (List.length_filter_le _ _) (by rw [List.length_take]; omega)
        · rw [take_filter hq0, if_pos hgt, upd_upd]
      · rw [decide_eq_false hgt]
        refine iteF ?_
        rw [take_filter hq0, if_neg hgt, List.append_nil]
    · have en : n = ks.length := by omega
      subst en
      refine .inl ⟨⟨hfa, by simp⟩, hfa, ?_⟩
      rw [List.take_length]
      have eH : upd (upd (upd H a (.frz od (.dK (ks.map fun q => (q.1, V.int q.2))))) Dn (.lst ((ks.filter fun q => decide (c < q.2)).map fun q => kV q.1))) a (.dK (ks.map fun q => (q.1, V.int q.2))) = upd H Dn (.lst ((ks.filter fun q => decide (c < q.2)).map fun q => kV q.1)) := by
        funext b
        by_cases hb : b = a
        · subst hb; rw [upd_same, upd_ne neD, h1]
        · rw [upd_ne hb]
          by_cases hb2 : b = Dn
          · subst hb2; rw [upd_same, upd_same]
          · rw [upd_ne hb2, upd_ne hb2, upd_ne hb]
      rw [eH]
      obtain ⟨b1, r1⟩ := new_fl rs hD0 (ds := ((ks.filter fun q => decide (c < q.2)).map fun q => kV q.1).map D.at) (RDs.of_atoms _)
      refine kk _ S _ _ b1 r1 ?_
      rw [List.map_map]
      exact q
end
/-! ### sorted of any sequence of texts -/
def srtQ : RDL := fun ds S Q => ∃ (x : D) (ys : List Str), ds = [x] ∧ sqOf S x = some (ys.map D.str) ∧ ys.length ≤ 100000 ∧ ∀ zs : List Str, zs.Perm ys → sortedS zs = true → Q (.fl (zs.map D.str)) S
theorem cd_sortedQ {X : Cx} : CallR X (.builtin "sorted") (lL X.K srtQ) := by
  intro pins s σ H vs us Q I r hh
  obtain ⟨N, ds, S, Q', rd, rs, ⟨x, ys, rfl, hx, hz, q⟩, kk⟩ := hh
  obtain ⟨v, rfl, rx⟩ := rd.one'
  obtain ⟨a, ws, rfl, sq, rw'⟩ := sq_sq rs rx hx
  have e : ws = ys.map V.str := RDs.atoms (us := ys.map V.str) (by rw [List.map_map]; exact rw')
  subst e
  obtain ⟨u, rfl, ru⟩ := Vals.one r
  cases ru
  have hz2 : ys.length ≤ sizeLine := Nat.le_trans hz (by decide)
  obtain ⟨its, r3, T, o, n, hT, ho, hc, hd⟩ : ∃ its : List Value, Vals (ys.map V.str) its ∧ ∃ (T : String) (o : Obj) (n : Nat), (T = "list" ∨ T = "tuple") ∧ s.heap.get? a = some o ∧ o.cls = .type T ∧ o.data = .seq its.toArray n := by
    rcases sq with sq | sq
    · obtain ⟨its, r', pl, _⟩ := I.list sq
      obtain ⟨o, ho, hc, n, hd⟩ := pl.isList
      exact ⟨its, r', _, o, n, .inl rfl, ho, hc, hd⟩
    · obtain ⟨its, r', pl, _⟩ := I.tuple sq
      obtain ⟨o, ho, hc, n, hd⟩ := pl
      exact ⟨its, r', _, o, n, .inr rfl, ho, hc, hd⟩
  have hS := r3.strs
  have hl : its.length = ys.length := by have := r3.length; rw [List.length_map] at this; exact this.symm
  have vz : its.length ≤ sizeLine := by omega
  refine Calls.call_function_entry kind_sorted plain_sorted entry_sorted (args_sorted1 _) ?_
  unfold Builtin.«sorted»
  refine wpAny_bind (m := checkCount "sorted" 1 1 _) (wpAny_pure ?_)
  refine wpAny_bind (wpAny_collect_seq (A := X.A.in1) a hT ho hc hd (fun h' k1 => ?_) (by rw [List.size_toArray]; exact vz))
  rw [List.toList_toArray]
  refine wpAny_bind (wpAny_newList ?_ vz)
  have hoL : (h'.push (seqObj "list" its.toArray 0)).get? h'.objs.size = some (seqObj "list" its.toArray 0) := Heap.get?_push_size _ rfl
  refine wpAny_bind (wpAny_holding (wpAny_call_entry slot_list_sort ⟨_, hoL, rfl⟩ entry_list_sort
      (list_sort_treeKAny strKind_oneLt hoL hS.keysOf (fun v₁ v₂ rest e => keyKind_strs (by rw [← e]; exact hS)) vz fun st' a1 a2 => ⟨_, rfl, ?_⟩) (args_list_sort _)))
  obtain ⟨zs, g1, g2, g3⟩ := sorted_out_str hS a1 a2
  obtain ⟨c, hc2⟩ := sortedHeap_at (vs := its) (out := (arrOf st').map (·.2)) hoL
  have hlen : (zs.map V.str).length ≤ sizeLine := by rw [List.length_map, g2.length_eq]; exact hz2
  have I1 : Inv X pins σ H { s with heap := h' } := I.kept (t' := s.toks) k1
  have nH : H h'.objs.size = none := I1.hok.fresh (Nat.le_refl _)
  obtain ⟨b1, r1⟩ := new_fl rs nH (rds_strs zs)
  refine wpAny_pure ⟨_, rfl, .ref h'.objs.size, upd H h'.objs.size (.lst (zs.map V.str)), I1.laid (t' := s.toks) (fun b u e => ?_) (Nat.le_refl _)
    (show ObjOk X.prog X.w _ _ _ (.lst (zs.map V.str)) from ⟨hlen, ((arrOf st').map (·.2)).toList, c, vals_of_strs g1, by rw [Array.toArray_toList]; exact hc2⟩), rfl, kk _ S _ _ b1 r1 (q zs g2 g3)⟩
  have hb : b < h'.objs.size := Heap.lt_size e
  rw [sortedHeap_old (Nat.ne_of_lt hb) (by rw [size_push']; exact Nat.lt_succ_of_lt hb)]
  exact Heap.get?_push_of_some _ e
/-- a def that promises nothing -/
theorem cal_no {P : Program} {w : World} {K : PySem.W.Frag} {mg : Str → Option Value} {base : Heap} {k : Nat} {x : Str} {st : Stmt} {ps : List Str} {sp : SpD} {f : Addr} {fd : FuncData} (F : Fun K x x st f fd) (mf : mg x = some (.ref f)) (b : Binds K fd ps []) (h : ∀ ds S Q E, ¬ sp ds S Q E) : Cal P w K mg base k x st ps sp :=
  ⟨f, fd, ⟨fun vs H Q E ⟨_, _, _, _, _, _, _, q, _⟩ => (h _ _ _ _ q).elim, fun A outer s H args us vs Q E _ _ _ _ _ ⟨_, _, _, _, _, _, _, q, _⟩ => (h _ _ _ _ q).elim⟩, b, mf, F⟩
end DL

/-! Data layer: [k for k in ds[0] if ds[0][k] > c]; where a text stands in a list. -/
namespace DL
open PySem L2 PyProof.Rows
section
variable {X : Cx}
abbrev rLx (K : PySem.W.Frag) : R2 := fun x y H Q => ∃ (a : Addr) (vs : List V) (i : Int) (w : V), x = .ref a ∧ y = .int i ∧ SqL K H a vs ∧ atI vs i = some w ∧ Q w H
def dKgtL (i j : Nat) (c : Int) : TDE := fun δ S Q => ∃ (l a : Addr) (ds : List D) (ks : List (Key × Int)), δ[i]? = some (some (.ref l)) ∧ S l = some (.lst (.ref a :: ds)) ∧ S a = some (.dk (ks.map fun q => (q.1, .int q.2))) ∧ (ks.map (·.1)).Nodup ∧ ks.length < sizeLine ∧ j < δ.length ∧ Q (.fl ((ks.filter fun q => decide (c < q.2)).map fun q => .at (kV q.1))) S
theorem de_kgtL (i j : Nat) (c : Int) {one : Str} {elt tg iter : Expr} {ifs : List Expr} {scope : Scope} {pos : Pos} (hij : i ≠ j) (hc : X.calm = true) (hN : X.N.Nodup) (hi : PE X iter (tOp (rLx X.K) (tVar i) (tC (.int 0)))) (ok : BlkOk X.N X.env.scope scope [(one, j)])
    (hg : ∀ (s : Shared) (H : Hp) (C : Addr) (cl : List (Str × Addr)) (fp : List Addr), PG (X.blk s H scope (compEnvC scope cl C X.env) fp) tg (gName j))
    (ht : ∀ (s : Shared) (H : Hp) (C : Addr) (cl : List (Str × Addr)) (fp : List Addr), PTs (X.blk s H scope (compEnvC scope cl C X.env) fp) ifs (tTest (tOp rGtI (tOp rDx (tOp (rLx X.K) (tVar i) (tC (.int 0))) (tVar j)) (tC (.int c)))))
    (he : ∀ (s : Shared) (H : Hp) (C : Addr) (cl : List (Str × Addr)) (fp : List Addr), PE (X.blk s H scope (compEnvC scope cl C X.env) fp) elt (tVar j)) (hs : ∀ x, foldedSetIterable iter X.env x = pure x := by intro _; rfl) :
    PE X (.ListComp elt [⟨tg, iter, ifs, 0⟩] scope pos) (lE X.K (dKgtL i j c)) :=
  PE.wk (pe_lock (pe_lc (own := [(one, j)]) hc hN (pi_keys hi) ok hg ht he hs)) fun σ H Q ⟨N, δ, S, Q', re, rs, ⟨l, a, ds, ks, hδ, el, e, nd, hsz, hjd, q⟩, kk⟩ => by
    obtain ⟨v, hσ, rv⟩ := re.2 i _ hδ
    have ev := rv.at_
    subst ev
    obtain ⟨gs, h1, h2, h3⟩ := rs.ob a _ e
    obtain ⟨vl, hl1, hl2⟩ := rs.ob l _ el
    obtain ⟨v0, vl, rfl, hv0, _⟩ := hl2.inv_cons
    have hv0 := hv0.at_
    subst hv0
    have la : l ≠ a := fun z => by subst z; rw [e] at el; cases el
    have at0 : atI (V.ref a :: vl) 0 = some (V.ref a) := at_0
    have egs : gs = ks.map fun q => (q.1, V.int q.2) := by
      have r : RDs ⟨X.K, N⟩ H S (gs.map (·.2)) ((ks.map fun q => V.int q.2).map D.at) := by
        rw [List.map_map] at h3 ⊢
        exact h3
      have e2 := r.atoms
      rw [List.map_map] at h2
      have : ∀ (gs : List (Key × V)) (ks : List (Key × Int)), gs.map (·.1) = ks.map ((·.1) ∘ fun q => (q.1, D.int q.2)) → gs.map (·.2) = ks.map (fun q => V.int q.2) → gs = ks.map fun q => (q.1, V.int q.2) := by
        intro gs
        induction gs with
        | nil => intro ks a b; cases ks with | nil => rfl | cons p r => simp at a
        | cons g gs ih =>
          intro ks a b
          cases ks with
          | nil => simp at a
          | cons p r =>
            rw [List.map_cons, List.map_cons, List.cons.injEq] at a b
            rw [List.map_cons, ← ih r a.2 b.2]
            congr 1
            exact Prod.ext a.1 b.1
      exact this gs ks h2 e2
    subst egs
    refine ⟨a, .dK (ks.map fun q => (q.1, V.int q.2)), h1, trivial, fun od => ?_⟩
    refine ⟨.ref l, hσ, l, _, 0, .ref a, rfl, rfl, .of (xs := V.ref a :: vl) (by rw [upd_ne la]; exact hl1), at0, a, od, rfl, .inl ⟨_, upd_same, fun Dn hD => ?_⟩⟩
    have neD : a ≠ Dn := fun z => by subst z; rw [upd_same] at hD; cases hD
    have hD0 : H Dn = none := by rw [upd_ne (fun z => neD z.symm)] at hD; exact hD
    refine ⟨fun n m H2 => m = ks.length - n ∧ n ≤ ks.length ∧ H2 = upd (upd H a (.frz od (.dK (ks.map fun q => (q.1, V.int q.2))))) Dn (.lst (((ks.take n).filter fun q => decide (c < q.2)).map fun q => kV q.1)), ⟨ks.length, rfl, Nat.zero_le _, rfl⟩, ?_⟩
    rintro n m H2 ⟨rfl, hn, rfl⟩
    have hfa : (upd (upd H a (.frz od (.dK (ks.map fun q => (q.1, V.int q.2))))) Dn (.lst (((ks.take n).filter fun q => decide (c < q.2)).map fun q => kV q.1))) a = some (.frz od (.dK (ks.map fun q => (q.1, V.int q.2)))) := by
      rw [upd_ne neD, upd_same]
    have hll : (upd (upd H a (.frz od (.dK (ks.map fun q => (q.1, V.int q.2))))) Dn (.lst (((ks.take n).filter fun q => decide (c < q.2)).map fun q => kV q.1))) l = some (.lst (V.ref a :: vl)) := by
      rw [upd_ne (fun z => by subst z; rw [hD0] at hl1; cases hl1), upd_ne la]; exact hl1
    by_cases hlt : n < ks.length
    · refine .inr ⟨⟨hfa, by simpa using hlt⟩, fun H' => H' = upd (upd H a (.frz od (.dK (ks.map fun q => (q.1, V.int q.2))))) Dn (.lst (((ks.take (n + 1)).filter fun q => decide (c < q.2)).map fun q => kV q.1)), fun H' e' => ⟨ks.length - (n + 1), by omega, rfl, hlt, e'⟩, ?_⟩
      rintro x H' ⟨rfl, kx, vx, hk, rfl⟩
      obtain ⟨q0, hq0, eq0⟩ := map_at hk
      cases eq0
      have hw : wipe ((wipe σ [j]).set j (some (kV q0.1))) [j] = wipe σ [j] := by
        rw [wipe_set List.mem_cons_self, wipe_wipe]
      have hσi : ((wipe σ [j]).set j (some (kV q0.1)))[i]? = some (some (.ref l)) := by
        rw [List.getElem?_set_ne (Ne.symm hij)]
        show (σ.set j none)[i]? = _
        rw [List.getElem?_set_ne (Ne.symm hij), hσ]
      have hjl : j < σ.length := by rw [re.1]; exact hjd
      have hσj : ((wipe σ [j]).set j (some (kV q0.1)))[j]? = some (some (kV q0.1)) := by
        rw [List.getElem?_set_self]
        show j < (σ.set j none).length
        simpa using hjl
      show wipe ((wipe σ [j]).set j (some (kV q0.1))) [j] = wipe σ [j] ∧ _
      refine ⟨hw, ?_⟩
      refine ⟨.ref l, hσi, l, _, 0, .ref a, rfl, rfl, .of (xs := V.ref a :: vl) hll, at0, kV q0.1, hσj, a, .int q0.2, rfl, .inl ⟨_, q0.1, .inr ⟨od, hfa⟩, rfl, (val_at nd hq0).symm⟩, q0.2, c, rfl, rfl, decide (c < q0.2), rfl, ?_⟩
      by_cases hgt : c < q0.2
      · rw [decide_eq_true hgt]
        refine iteT ⟨kV q0.1, hσj, _, upd_same, ?_, ?_⟩
        · rw [List.length_map]
          exact Nat.lt_of_le_of_lt (List.length_filter_le _ _) (by rw [List.length_take]; omega)
        · rw [take_filter hq0, if_pos hgt, upd_upd]
      · rw [decide_eq_false hgt]
        refine iteF ?_
        rw [take_filter hq0, if_neg hgt, List.append_nil]
    · have en : n = ks.length := by omega
      subst en
      refine .inl ⟨⟨hfa, by simp⟩, hfa, ?_⟩
      rw [List.take_length]
      have eH : upd (upd (upd H a (.frz od (.dK (ks.map fun q => (q.1, V.int q.2))))) Dn (.lst ((ks.filter fun q => decide (c < q.2)).map fun q => kV q.1))) a (.dK (ks.map fun q => (q.1, V.int q.2))) = upd H Dn (.lst ((ks.filter fun q => decide (c < q.2)).map fun q => kV q.1)) := by
        funext b
        by_cases hb : b = a
        · subst hb; rw [upd_same, upd_ne neD, h1]
        · rw [upd_ne hb]
          by_cases hb2 : b = Dn
          · subst hb2; rw [upd_same, upd_same]
          · rw [upd_ne hb2, upd_ne hb2, upd_ne hb]
      rw [eH]
      obtain ⟨b1, r1⟩ := new_fl rs hD0 (ds := ((ks.filter fun q => decide (c < q.2)).map fun q => kV q.1).map D.at) (RDs.of_atoms _)
      refine kk _ S _ _ b1 r1 ?_
      rw [List.map_map]
      exact q

/-- x.index(y): a text of a list of texts -/
def idxD : RDM := fun x ys S Q => ∃ (zs : List Str) (z : Str) (j : Nat), lsOf S x = some (zs.map D.str) ∧ ys = [.str z] ∧ zs[j]? = some z ∧ (∀ m, m < j → zs[m]? ≠ some z) ∧ Q (.int (j : Nat)) S
theorem md_index : MtR X "list.index" (lM X.K idxD) := by
  intro pins s σ H v vs vv us Q I rv rvs hh
  obtain ⟨N, x, ys, S, Q', rx, rxs, rs, ⟨zs, z, j, hx, rfl, hj, hm, q⟩, kk⟩ := hh
  obtain ⟨w, rfl, rw'⟩ := rxs.one'
  have := rw'.at_
  subst this
  obtain ⟨a, ws, rfl, sq, r⟩ := ls_sq rs rx hx
  have e : ws = zs.map V.str := RDs.atoms (us := zs.map V.str) (by rw [List.map_map]; exact r)
  subst e
  refine mt_index pins s σ H _ _ vv us Q I rv rvs ⟨a, _, .str z, j, .str z, rfl, rfl, sq, rfl, ?_, by rw [List.getElem?_map, hj]; rfl, ?_, fun m z' hm1 hm2 => ?_, kk _ S _ H (.refl rs) (.of _) q⟩
  · rw [List.all_map, List.all_eq_true]; intro y _; rfl
  · simp [eqV]
  · obtain ⟨y, hy, rfl⟩ := map_at hm2
    have ne : y ≠ z := fun e => hm m hm1 (by rw [hy, e])
    simp [eqV, ne]
end
end DL

/-! Data layer: dict of pairs of any values. -/
namespace DL
open PySem L2 PyProof.Rows
/-! ### dict(pairs), any values -/
def dctQ : RDL := fun ds S Q => ∃ (x : D) (kvs : List (Key × D)), ds = [x] ∧ lsOf S x = some (kvs.map fun q => .tup [.at (kV q.1), q.2]) ∧ (kvs.map (·.1)).Nodup ∧ ∀ p, S p = none → Q (.ref p) (up S p (.dk kvs))
theorem pairs_ofD {K : Kx} {H : Hp} {S : Sto} : ∀ {kvs : List (Key × D)} {vs : List V}, RDs K H S vs (kvs.map fun q => .tup [.at (kV q.1), q.2]) → ∃ (ks : List (Key × V)) (ps : List Addr), vs = ps.map V.ref ∧ Paired (fun p kv => SqT K.k H p [kV kv.1, kv.2]) ps ks ∧ ks.map (·.1) = kvs.map (·.1) ∧ RDs K H S (ks.map (·.2)) (kvs.map (·.2))
  | [], vs, r => ⟨[], [], r.inv_nil, .nil, rfl, .nil⟩
  | kv :: kvs, vs, r => by
    obtain ⟨v, ws, rfl, r1, r2⟩ := r.inv_cons
    obtain ⟨ks, ps, rfl, pp, e, rr⟩ := pairs_ofD r2
    obtain ⟨a, us, rfl, t, ru⟩ := r1.tup_
    obtain ⟨k0, us, rfl, rk, ru⟩ := ru.inv_cons
    obtain ⟨w0, us, rfl, rw', ru⟩ := ru.inv_cons
    have := ru.inv_nil
    subst this
    have := rk.at_
    subst this
    exact ⟨(kv.1, w0) :: ks, a :: ps, rfl, .cons (.of t) pp, by rw [List.map_cons, List.map_cons, e], .cons rw' rr⟩
theorem cd_dictQ {X : Cx} (hc : X.calm = true) : CallR X (.type "dict") (lL X.K dctQ) := by
  intro pins s σ H vs us Q I r hh
  obtain ⟨N, ds, S, Q', rd, rs, ⟨x, kvs, rfl, hx, hn, q⟩, kk⟩ := hh
  obtain ⟨v, rfl, rx⟩ := rd.one'
  obtain ⟨a, ws, rfl, sq, rw'⟩ := ls_sq rs rx hx
  obtain ⟨ks, ps, rfl, pp, e, rr⟩ := pairs_ofD rw'
  refine call_dictP hc pins s σ H _ us Q I r ⟨a, ps, ks, rfl, sq, pp, fun p np => ?_⟩
  rw [merge_app _ [] (by rw [List.nil_append, e]; exact hn), List.nil_append]
  obtain ⟨b1, b2⟩ := rs.new (o := .dK ks) (m := .dk kvs) np fun le => ⟨_, upd_same, e, rr.le le⟩
  exact kk _ _ _ _ ⟨b2, b1⟩ (.of _) (q p (rs.free np))
end DL

/-! Data layer: enumerate of a tuple, a list, a text. -/
namespace DL
open PySem L2 PyProof.Rows
theorem wite {prog : Program} {w : World} {α : Type} {c : Bool} {x y : Sem α} {A0 : Around} {Q0 : α → Shared → Prop} {E0 : Value → Shared → Prop} {s0 : Shared} (h1 : wpAny (model prog w) A0 x Q0 E0 s0) (h2 : wpAny (model prog w) A0 y Q0 E0 s0) : wpAny (model prog w) A0 (if c = true then x else y) Q0 E0 s0 := by
  cases c
  · rw [if_neg Bool.false_ne_true]; exact h2
  · rw [if_pos rfl]; exact h1
theorem meets_enum1 {v : Value} {o : Obj} {H : Heap → Prop} (B : Begins v o H) : Meets (Builtin.«enumerate.__new__» { pos := [Value.type "enumerate", v] }) fun x R s =>
    H s.heap ∧ R (Except.ok (Flow.ret (Value.ref (s.heap.push o).objs.size))) { heap := (s.heap.push o).push { cls := Value.type "enumerate", data := Data.fields #[Value.none, Value.bool false, Value.ref s.heap.objs.size, rawInt 0, Value.none, Value.none] }, gens := s.gens, drawn := s.drawn, toks := s.toks, os := s.os } :=
  Meets.of_wp fun prog w A R s h => by
    obtain ⟨hp, g, d, tk, os⟩ := s
    obtain ⟨h1, h⟩ := h
    have q1 : ∀ {A' : Around} {E : Value → Shared → Prop} {Q : Value → Shared → Prop}, Q (Value.ref hp.objs.size) ⟨hp.push o, g, d, tk, os⟩ → wpAny (model prog w) A' (pyIter v) Q E ⟨hp, g, d, tk, os⟩ := fun q => B.iter prog w _ _ _ _ h1 q
    refine wpAny_bind ?_
    refine wpAny_bind ?_
    refine wpAny_pure (wpAny_ite_false rfl (wpAny_bind (wpAny_of_eq sub_enumerate (wpAny_ite_false rfl (wpAny_pure (wpAny_ite_true rfl (wpAny_bind ?_)))))))
    refine wpAny_bind (wpAny_stack_any fun st => wpAny_pure ?_)
    have tail : wpAny (model prog w) A.in1 (do let it ← pyIter v; let r ← Builtin.SmallTypes.newRecord (Value.type "enumerate") (Builtin.SmallTypes.ownedTupleFields ++ [it, rawInt 0, Value.none, Value.none]); ret r) (fun fin s' => ∃ v, fin = Fin.done (Flow.ret v) ∧ R (Except.ok (Flow.ret v)) s') (fun e s' => R (Except.error e) s') { heap := hp, gens := g, drawn := d, toks := tk, os := os } := by
      refine wpAny_bind (q1 (wpAny_bind ?_))
      unfold Builtin.SmallTypes.newRecord
      dsimp only
      unfold newObj

      refine wpAny_ite_false rfl ?_
      first
        | exact wpAny_bind (wpAny_alloc' (wpAny_pure (wpAny_pure ⟨_, rfl, h⟩)))
        | exact wpAny_alloc' (wpAny_pure ⟨_, rfl, h⟩)
        | exact wpAny_bind (wpAny_alloc' (wpAny_pure ⟨_, rfl, h⟩))

    refine wite ?_ ?_
    · refine wpAny_bind ?_
      refine (show wpAny (model prog w) A.in1 (pure (v, (none : Option Value)) : Sem _) _ _ _ from wpAny_pure ?_)
      exact tail
    · refine wpAny_bind ?_
      refine (show wpAny (model prog w) A.in1 (pure (v, (none : Option Value)) : Sem _) _ _ _ from wpAny_pure ?_)
      exact tail
theorem enum_begins1 {prog : Program} {w : World} {A : Around} {E : Value → Shared → Prop} {s : Shared} {v : Value} {o : Obj} {H : Heap → Prop} {Q : Value → Shared → Prop} (B : Begins v o H) (h1 : H s.heap)
    (h : ∀ h' : Heap, IsEnum h' (s.heap.objs.size + 1) s.heap.objs.size 0 Value.none → h'.get? s.heap.objs.size = some o → h'.objs.size = s.heap.objs.size + 2 → (∀ (b : Addr) (u : Obj), s.heap.get? b = some u → h'.get? b = some u) →
      Q (Value.ref (s.heap.objs.size + 1)) { heap := h', gens := s.gens, drawn := s.drawn, toks := s.toks, os := s.os }) : wpAny (model prog w) A (call (Value.type "enumerate") [v]) Q E s := by
  refine callType_new F.called_enumerate (by decide) (F.typeCall_enumerate_1 v) (F.newCall_enumerate_1 v) (fun obj => F.args_object_init_2 obj v) F.entry_enumerate_new (meets_enum1 B) ⟨h1, ?_⟩
  have hz := Heap.size_push s.heap o
  have he := Heap.get?_push_size (s.heap.push o) (o := { cls := Value.type "enumerate", data := Data.fields #[Value.none, Value.bool false, Value.ref s.heap.objs.size, rawInt 0, Value.none, Value.none] }) rfl
  rw [hz] at he ⊢
  exact ⟨⟨_, he, rfl⟩, h _ he (Heap.get?_push_of_some _ (Heap.get?_push_size s.heap B.free)) (by rw [Heap.size_push, hz]) fun b u y => Heap.get?_push_of_some _ (Heap.get?_push_of_some _ y)⟩
/-- what stands at each turn, with its place, in new pairs -/
def Iem (K : PySem.W.Frag) (d : Sd) : It :=
  ⟨fun i H => ∃ (xs : List V) (x : V), d.Has K H xs ∧ xs[i]? = some x,
    fun i H v H' => ∃ T x, v = .ref T ∧ H T = none ∧ H' = upd H T (.tup [.int (i : Nat), x]) ∧ ∀ xs, d.Has K H xs → xs[i]? = some x,
    fun i H => ∃ xs : List V, d.Has K H xs ∧ i = xs.length⟩
theorem turn_enumM {P : Program} {w : World} {K : PySem.W.Frag} {elts : List Expr} {kk : Nat} {tpos : Pos} {d : Sd} (n : Nat) (o1 : d.Old n) :
    Turn P w K (.Tuple elts kk tpos) (Iem K d) [n + 1, n] (n + 1) (fun i h => (∃ old, IsEnum h (n + 1) n (i : Nat) old) ∧ d.At h n i) where
  mem := by simp
  obj := fun i h st c hc => by
    obtain ⟨⟨old, hz⟩, h1⟩ := st
    have e' : c = n + 1 ∨ c = n := by simpa using hc
    rcases e' with q | q
    · rw [q]; exact ⟨_, hz, fun v q => nomatch q⟩
    · rw [q]; exact h1.obj
  keep := fun i h h' st k => by
    obtain ⟨⟨old, hz⟩, h1⟩ := st
    exact ⟨⟨old, k (n + 1) (by simp) _ hz⟩, h1.keep fun o q => k n (by simp) o q⟩
  item := by
    intro X hP hw hK hc i pins s σ H E I hf st hg
    subst hP hw hK
    obtain ⟨⟨old, hz⟩, h1⟩ := st
    obtain ⟨xs, x, hqx, hx⟩ := hg
    obtain ⟨fp1, m1, P1, S1, D1, s1, e1, mem1, sub1, rel1, go1⟩ := Sd.draws I (I.ok.hd hc) n n i (Nat.le_refl _) d o1 h1 hqx
    have hi1 := (List.getElem?_eq_some_iff.mp hx).1
    have enf : ¬ (n + 1) ∈ fp1 := fun z => by rcases sub1 _ z with q | q <;> omega
    have W := WalksT.enumerateD (A := X.A) D1 (n + 1) (show n + 1 ≠ n by omega) enf mem1
    have hzl : n + 1 < s.heap.objs.size := Heap.lt_size hz
    refine W.item i s _ _ (by omega) ⟨⟨old, hz⟩, s1⟩ fun T vals h' tk hp hT hI hM hk => ?_
    have hTw := W.apart i T h' hM
    refine ⟨_, rfl, W.go elts kk tpos i T { s with heap := h', toks := tk } _ _ hM fun h'' hS hk2 => ?_⟩
    obtain ⟨t, x', p1, rfl⟩ := hp
    have r1 := rel1 _ _ p1 hx
    obtain ⟨ot, hot, hct, nt, hdt⟩ := hI
    have hT2 : h''.get? T = some ot := hk2 _ _ hTw hot
    have new : ObjOk X.prog X.w (upd H T (.tup [.int (i : Nat), x])) h'' T (.tup [.int (i : Nat), x]) :=
      ⟨by show 2 ≤ sizeLine; decide, [.int (i : Nat) t, x'], .cons ⟨t, rfl⟩ (.cons r1 .nil), ⟨ot, hT2, hct, nt, hdt⟩⟩
    have I1 : Inv X pins σ (upd H T (.tup [.int (i : Nat), x])) { s with heap := h'', toks := tk } :=
      I.turnedNew (t' := tk) (ch := [n + 1, n]) (fun c o hb q => hk2 c o hb (hk c o hb q)) hf hT new
    refine ⟨.ref T, _, I1, rfl, ⟨_, x, rfl, I.hok.fresh hT, rfl, fun l hl => by rw [Sd.inj I hl hqx]; exact hx⟩, ⟨?_, ?_⟩, fun c hcm => ?_⟩
    · obtain ⟨o2, h2⟩ := hS.1
      exact ⟨o2, h2⟩
    · exact go1 _ hS.2
    · have hlt : c < s.heap.objs.size := by
        have e' : c = n + 1 ∨ c = n := by simpa using hcm
        rcases e' with e | e
        · rw [e]; exact hzl
        · rw [e]; exact Nat.lt_of_le_of_lt (Nat.le_succ n) hzl
      rw [upd_ne (fun z => by rw [z] at hlt; exact absurd hlt (Nat.not_lt_of_le hT))]
      exact (hf c hcm).1
  done := by
    intro X hP hw hK hc i pins s σ H E I hf st hg
    subst hP hw hK
    obtain ⟨⟨old, hz⟩, h1⟩ := st
    obtain ⟨xs, hqx, hend⟩ := hg
    obtain ⟨fp1, m1, P1, S1, D1, s1, e1, mem1, sub1, rel1, go1⟩ := Sd.draws I (I.ok.hd hc) n n i (Nat.le_refl _) d o1 h1 hqx
    have enf : ¬ (n + 1) ∈ fp1 := fun z => by rcases sub1 _ z with q | q <;> omega
    have W := WalksT.enumerateD (A := X.A) D1 (n + 1) (show n + 1 ≠ n by omega) enf mem1
    have em : i = m1 := by rw [e1]; exact hend
    subst em
    refine W.done s _ _ ⟨⟨old, hz⟩, s1⟩ fun h' tk hk => ⟨rfl, I.turnedL (t' := tk) (ch := [n + 1, n]) (fun c o hb q => hk c o hb q) hf⟩
  self := fun A i s Q E st h => by
    obtain ⟨⟨old, hz⟩, _⟩ := st
    exact wpAny_pyIter_enum hz h
end DL

/-! Data layer: for i, x in enumerate(a tuple, a list, a text); split; pop(i); is True. -/
namespace DL
open PySem L2 PyProof.Rows
def iEnumA (K : PySem.W.Frag) (ta : TA) : TI := fun σ H R => ta σ H fun vs H1 => ∃ (d : Sd) (xs : List V), vs = [d.v] ∧ d.Has K H1 xs ∧ R (Iem K d) H1
section
variable {X : Cx} {k : Nat}
theorem pi_enumM {e : Expr} {ta : TA} {p pos tpos : Pos} {elts : List Expr} {kk : Nat} (hg : Gl X "enumerate") (hm : X.mg "enumerate" = none) (ha : PA X [e] ta)
    (hs : starEach [e] X.env = (false, eval e X.env) :: starEach [] X.env := by rfl) (hpl : (backTo pos (starEach [] X.env)).any (·.1) = false := by rfl) :
    PI X (.Tuple elts kk tpos) (.Call (.Name "enumerate" p) [e] [] pos) (iEnumA X.K ta) := by
  refine ⟨fun pins s σ H R I h => Call_ (ld_blt I hg hm boot_enumerate (callWith_type1 (thn (ha.run pos pins s σ H _ I h) fun us s1 ⟨vs, H1, I1, r1, q1⟩ => ?_) hs hpl))⟩
  obtain ⟨d1, xs, rfl, h1, q⟩ := q1
  obtain ⟨u1, rfl, t1⟩ := vals1 r1
  obtain ⟨o1, S1, B1, b1, a1, l1⟩ := Sd.begins I1 d1 h1 t1
  generalize hn : s1.heap.objs.size = n at l1
  have new : ∀ c : Nat, c ∈ [n + 1, n] → FpOk X pins H1 c := fun c hc => by
    have le : s1.heap.objs.size ≤ c := by
      rw [hn]
      simp only [List.mem_cons, List.not_mem_nil, or_false] at hc
      omega
    exact I1.fpOk le (I1.hok.fresh le)
  refine enum_begins1 B1 b1 fun h' hz g1 hsz hk => wpAny_pyIter_enum hz ?_
  rw [hn] at hz g1 ⊢
  exact ⟨n + 1, [n + 1, n], _, _, H1, rfl, I1.kept (t' := s1.toks) hk, turn_enumM n l1, ⟨⟨_, hz⟩, a1 _ _ g1⟩, new, q⟩
def enumMI (x : D) : ItD := fun i S => (sdOf S x).bind fun p => if i ≤ p.length then some (p[i]?.map fun d => .tup [.int (i : Nat), d]) else none
def iEnumMD (t : TDA) : TDI := fun δ S R => t δ S fun xs S1 => ∃ x ds, xs = [x] ∧ sdOf S1 x = some ds ∧ R (enumMI x) S1
theorem di_enumM {e : Expr} {ta : TDA} {p pos tpos : Pos} {elts : List Expr} {kk : Nat} (hg : Gl X "enumerate") (hm : X.mg "enumerate" = none) (ha : PA X [e] (lA X.K ta))
    (hs : starEach [e] X.env = (false, eval e X.env) :: starEach [] X.env := by rfl) (hpl : (backTo pos (starEach [] X.env)).any (·.1) = false := by rfl) :
    PI X (.Tuple elts kk tpos) (.Call (.Name "enumerate" p) [e] [] pos) (lI X.K (iEnumMD ta)) :=
  PI.wk (pi_enumM hg hm ha hs hpl) fun σ H R ⟨N, δ, S, R', re, rs, q, kk⟩ => by
    refine ⟨N, δ, S, _, re, rs, q, fun xs S1 vs H1 b1 rv q1 => ?_⟩
    obtain ⟨x, ds, rfl, h1, q1⟩ := q1
    obtain ⟨v, rfl, rx⟩ := rv.one'
    obtain ⟨d1, rfl, w1⟩ := sd_rel b1.rs rx h1
    obtain ⟨us, c1, _⟩ := w1 _ _ _ (.refl b1.rs) tupLe_refl _ h1
    refine ⟨d1, us, rfl, c1, kk _ S1 _ H1 b1 ?_ q1⟩
    intro M i H' S' bb le
    unfold enumMI
    refine ⟨fun ez => ?_, fun d ez => ?_⟩
    · obtain ⟨p', g1, ez⟩ := Option.bind_eq_some_iff.mp ez
      obtain ⟨u1, s1, r1⟩ := w1 _ _ _ bb le _ g1
      split at ez
      · rename_i hi
        have l1 := r1.length
        have := List.getElem?_eq_none_iff.mp (Option.map_eq_none_iff.mp (Option.some.inj ez))
        exact ⟨u1, s1, by omega⟩
      · cases ez
    · obtain ⟨p', g1, ez⟩ := Option.bind_eq_some_iff.mp ez
      obtain ⟨u1, s1, r1⟩ := w1 _ _ _ bb le _ g1
      split at ez
      · obtain ⟨y, h3, rfl⟩ := Option.map_eq_some_iff.mp (Option.some.inj ez)
        obtain ⟨y1, hy1, k3⟩ := r1.get h3
        refine ⟨⟨u1, y1, s1, hy1⟩, fun z H2 yl => ?_⟩
        obtain ⟨T, c1, rfl, hT, rfl, hz1⟩ := yl
        have e1 := hz1 u1 s1
        rw [hy1] at e1
        cases e1
        obtain ⟨b2, r2⟩ := new_tup bb.rs hT (.cons (d := D.int (i : Nat)) (.of (.int (i : Nat))) (.cons k3 .nil))
        exact ⟨b2, r2⟩
      · cases ez
theorem enumM_at {xs : List D} {i : Nat} {d : D} {S : Sto} (h : xs[i]? = some d) : enumMI (.tup xs) i S = some (some (.tup [.int (i : Nat), d])) := by
  have hi := (List.getElem?_eq_some_iff.mp h).1
  show (if i ≤ xs.length then some (xs[i]?.map fun d => D.tup [.int (i : Nat), d]) else none) = _
  rw [if_pos (by omega), h]; rfl
theorem enumM_no {xs : List D} {i : Nat} {S : Sto} (h : i = xs.length) : enumMI (.tup xs) i S = some none := by
  subst h
  show (if xs.length ≤ xs.length then some (xs[xs.length]?.map fun d => D.tup [.int (xs.length : Nat), d]) else none) = _
  rw [if_pos (Nat.le_refl _), List.getElem?_eq_none (Nat.le_refl _)]; rfl
/-! ### split -/
def splD (mu : Bool) : RDM := fun x ys S Q => ∃ a b : Str, x = .str a ∧ ys = [.str b] ∧ (b.length == 0) = false ∧ a.length + 2 ≤ sizeLine ∧ (if mu = true then ∀ p, S p = none → Q (.ref p) (up S p (.lst ((Txt.split a b).map D.str))) else Q (.fl ((Txt.split a b).map D.str)) S)
theorem md_split (mu : Bool) : MtR X "str.split" (lM X.K (splD mu)) := by
  intro pins s σ H v vs vv us Q I rv rvs hh
  obtain ⟨N, x, ys, S, Q', rx, rxs, rs, ⟨a, b, rfl, rfl, hb, hz, q⟩, kk⟩ := hh
  obtain ⟨w, rfl, rw'⟩ := rxs.one'
  refine mt_split pins s σ H _ _ vv us Q I rv rvs ⟨a, b, rx.at_, by rw [rw'.at_], hb, hz, fun p np => ?_⟩
  cases mu with
  | true =>
    rw [if_pos rfl] at q
    exact kk _ _ _ _ (new_lst rs np (rds_strs _)) (.of _) (q p (rs.free np))
  | false =>
    rw [if_neg Bool.false_ne_true] at q
    obtain ⟨b1, r1⟩ := new_fl rs np (rds_strs (Txt.split a b))
    exact kk _ S _ _ b1 r1 q
/-! ### x.pop(i) -/
def popAtD : RDM := fun x ys S Q => ∃ (a : Addr) (xs : List D) (i : Nat) (y : D), x = .ref a ∧ ys = [.int (i : Nat)] ∧ S a = some (.lst xs) ∧ xs.length < 2 ^ 63 ∧ xs[i]? = some y ∧ Q y (up S a (.lst (List.eraseIdx xs i)))
theorem rds_erase {K : Kx} {H : Hp} {S : Sto} : ∀ {vs : List V} {ds : List D} (n : Nat), RDs K H S vs ds → RDs K H S (vs.eraseIdx n) (ds.eraseIdx n)
  | vs, [], n, h => by rw [h.inv_nil]; exact .nil
  | vs, d :: ds, 0, h => by
    obtain ⟨v, us, rfl, a, b⟩ := h.inv_cons
    exact b
  | vs, d :: ds, n + 1, h => by
    obtain ⟨v, us, rfl, a, b⟩ := h.inv_cons
    exact .cons a (rds_erase n b)
theorem md_popAt : MtR X "list.pop" (lM X.K popAtD) := by
  intro pins s σ H v vs vv us Q I rv rvs hh
  obtain ⟨N, x, ys, S, Q', rx, rxs, rs, ⟨a, xs, i, y, rfl, rfl, e, hz, hy, q⟩, kk⟩ := hh
  obtain ⟨w0, rfl, rw0⟩ := rxs.one'
  have := rw0.at_
  subst this
  obtain ⟨ws, h1, h2⟩ := rs.ob a _ e
  obtain ⟨w, hw, rw'⟩ := h2.get hy
  have hi := (List.getElem?_eq_some_iff.mp hw).1
  have hl := h2.length
  obtain ⟨b1, b2⟩ := rs.write (o := .lst (List.eraseIdx ws i)) (m' := .lst (List.eraseIdx xs i)) e fun le => ⟨_, upd_same, (rds_erase i h2).le le⟩
  refine mt_popAt pins s σ H _ _ vv us Q I rv rvs ⟨a, ws, (i : Nat), i, w, rx.at_, rfl, h1, by omega, by omega, ?_, hw, kk _ _ _ _ ⟨b2, b1⟩ (rw'.le (rs.le b2)) q⟩
  unfold seqIndex?
  simp
  omega
/-! ### x is True -/
def isbD (neg : Bool) : RD2 := fun x y S Q => ∃ a b : Bool, x = .bl a ∧ y = .bl b ∧ Q (.bl (xor neg (decide (a = b)))) S
theorem od_isb : OpR X (compareOp .Is) (l2 X.K (isbD false)) := by
  intro pins s σ H v u vv uu Q I rv ru hh
  obtain ⟨N, x, y, S, Q', rx, ry, rs, ⟨a, b, rfl, rfl, q⟩, k⟩ := hh
  exact op_is_bl pins s σ H v u vv uu Q I rv ru ⟨a, b, rx.at_, ry.at_, k _ S _ H (.refl rs) (.of _) (by simpa using q)⟩
theorem od_isnotb : OpR X (compareOp .IsNot) (l2 X.K (isbD true)) := by
  intro pins s σ H v u vv uu Q I rv ru hh
  obtain ⟨N, x, y, S, Q', rx, ry, rs, ⟨a, b, rfl, rfl, q⟩, k⟩ := hh
  exact op_isnot_bl pins s σ H v u vv uu Q I rv ru ⟨a, b, rx.at_, ry.at_, k _ S _ H (.refl rs) (.of _) (by simpa using q)⟩
end
end DL

/-! Data layer: dict(zip((), ())). -/
namespace DL
open PySem L2 PyProof.Rows
def ZOk (n : Nat) (a b : Addr) (h : Heap) : Prop := IsZip h (n + 4) (n + 2) (n + 3) .none ∧ IsTupOf2 h (n + 2) (.ref n) (.ref (n + 1)) ∧ IsTupOf2 h (n + 3) .none .none ∧ h.IsTupleIter n a 0 ∧ h.IsTupleIter (n + 1) b 0 ∧ h.IsTuple a #[] ∧ h.IsTuple b #[]
theorem ZOk.at {n : Nat} {a b : Addr} {h h' : Heap} (ok : ZOk n a b h) (k : ∀ c ∈ [n + 4, n + 2, n + 3, n, n + 1, a, b], ∀ o, h.get? c = some o → h'.get? c = some o) : ZOk n a b h' := by
  obtain ⟨h1, h2, h3, h4, h5, h6, h7⟩ := ok
  refine ⟨k _ (by simp) _ h1, k _ (by simp) _ h2, k _ (by simp) _ h3, h4.at fun o e => k _ (by simp) o e, h5.at fun o e => k _ (by simp) o e, ?_, ?_⟩
  · obtain ⟨o, e, r⟩ := h6
    exact ⟨o, k _ (by simp) _ e, r⟩
  · obtain ⟨o, e, r⟩ := h7
    exact ⟨o, k _ (by simp) _ e, r⟩
theorem pairArg0 {prog : Program} {w : World} (n : Nat) (a b : Nat) (ha : a < n) (hb : b < n) : PairArg prog w "zip" (n + 4) [n + 4, n + 2, n + 3, n, n + 1, a, b] [n + 4, n + 3, n, n + 1] 0 (fun _ _ _ => False) (ZOk n a b) where
  type := fun s ok => ⟨_, ok.1, rfl⟩
  notDict := by decide
  keep := fun h h' ok k => ok.at fun c _ o e => k c o e
  there := fun h ok c hc => by
    obtain ⟨h1, h2, h3, ⟨o4, h4, _⟩, ⟨o5, h5, _⟩, ⟨o6, h6, _⟩, ⟨o7, h7, _⟩⟩ := ok
    simp only [List.mem_cons, List.not_mem_nil, or_false] at hc
    rcases hc with e | e | e | e | e | e | e <;> subst e
    · exact ⟨_, h1⟩
    · exact ⟨_, h2⟩
    · exact ⟨_, h3⟩
    · exact ⟨_, h4⟩
    · exact ⟨_, h5⟩
    · exact ⟨_, h6⟩
    · exact ⟨_, h7⟩
  sub := fun c hc => by
    simp only [List.mem_cons, List.not_mem_nil, or_false] at hc ⊢
    rcases hc with e | e | e | e <;> subst e <;> simp
  noKeys := fun A s Q E hA ok h => getAttrOr_miss_zip ok.1 rfl rfl rfl zip_no_keys (by decide +kernel) hA h (by rw [sizeLine_eq]; decide +kernel)
  iter := fun A s d Q E hA ok hd hdf h => by
    refine wpAny_pyIter_zip ok.1 (h (n + 4) [n + 4, n + 3, n, n + 1] (fun _ h => ZOk n a b h) s.heap s.toks ?_ ok (fun _ _ e => e) fun c hc => .inl hc)
    refine ⟨fun hm => hdf ?_, fun i h h' st k => st.at fun c hc o e => k c o (fun z => hdf (z ▸ hc)) e, fun i s Q E hi => absurd hi (Nat.not_lt_zero i), fun s Q E st hQ => ?_⟩
    · simp only [List.mem_cons, List.not_mem_nil, or_false] at hm ⊢
      rcases hm with e | e | e | e <;> subst e <;> simp
    · obtain ⟨h1, h2, h3, h4, h5, h6, h7⟩ := st
      have S : ZipSep2 (n + 4) (n + 2) (n + 3) n (n + 1) [n, a] [n + 1, b] := by
        have ap : ∀ (x y z : Nat), x ≠ y → x ≠ z → ¬ x ∈ ([y, z] : List Addr) := fun x y z h1 h2 hm => by
          simp only [List.mem_cons, List.not_mem_nil, or_false] at hm
          rcases hm with e | e
          · exact h1 e
          · exact h2 e
        exact ⟨show n + 2 ≠ n + 4 by omega, show n + 3 ≠ n + 4 by omega, show n + 2 ≠ n + 3 by omega, show n + 2 ≠ n by omega, by simp, ap _ _ _ (by omega) (by omega), ap _ _ _ (by omega) (by omega), show n + 2 ≠ n + 1 by omega, by simp, ap _ _ _ (by omega) (by omega), ap _ _ _ (by omega) (by omega), ap _ _ _ (by omega) (by omega), ap _ _ _ (by omega) (by omega)⟩
      exact wpAny_pyNext_zipD2_end S (Draws.tuple (A := A.in1) hA n a (show a ≠ n by omega) #[]) (Draws.tuple (A := A.in1) hA (n + 1) b (show b ≠ n + 1 by omega) #[]) h1 h2 h3 ⟨h4, h6⟩ ⟨h5, h7⟩ (Nat.zero_le _) (Nat.zero_le _) (.inl rfl) fun h' tk hk => hQ h' tk fun c o hc e => hk c o (fun z => hc (by simp [z])) (fun z => hc (by simp [z])) (fun z => hc (by simp [z])) (fun z => hc (by simp [z])) e
section
variable {X : Cx}
def tDz (K : PySem.W.Frag) (t : TA) : TE := fun σ H Q => t σ H fun vs H1 => ∃ a b, vs = [.ref a, .ref b] ∧ SqT K H1 a [] ∧ SqT K H1 b [] ∧ ∀ p, H1 p = none → Q (.ref p) (upd H1 p (.dK []))
theorem pe_dictZip0 {e e2 : Expr} {t : TA} {p p2 pos pos2 : Pos} (hc : X.calm = true) (hg : Gl X "dict") (hm : X.mg "dict" = none) (hg2 : Gl X "zip") (hm2 : X.mg "zip" = none) (ha : PA X [e, e2] t)
    (hs2 : starEach [e, e2] X.env = (false, eval e X.env) :: starEach [e2] X.env := by rfl) (hp2 : (backTo pos2 (starEach [e2] X.env)).any (·.1) = false := by rfl)
    (hs : starEach [.Call (.Name "zip" p2) [e, e2] [] pos2] X.env = (false, eval (.Call (.Name "zip" p2) [e, e2] [] pos2) X.env) :: starEach [] X.env := by rfl) (hpl : (backTo pos (starEach [] X.env)).any (·.1) = false := by rfl) :
    PE X (.Call (.Name "dict" p) [.Call (.Name "zip" p2) [e, e2] [] pos2] [] pos) (tDz X.K t) := by
  refine ⟨fun pins s σ H Q I h => wpAny_Call_Name_kw (ld_blt I hg hm (u := Value.type "dict") (by decide +kernel) (PyProof.Rows.callWith_type1 (T := "dict") ?_ hs hpl))⟩
  rw [hs]
  refine Calls.spliced_cons (wpAny_Call_Name_kw (ld_blt I hg2 hm2 boot_zip (PyProof.Rows.callWith_type1 (thn (ha.run pos2 pins s σ H _ I h) fun us s1 ⟨vs, H1, I1, r1, q1⟩ => ?_) hs2 hp2)))
  obtain ⟨a, b, rfl, h1, h2, q⟩ := q1
  obtain ⟨u1, us', rfl, t1, rr⟩ : ∃ u us', us = u :: us' ∧ RelV (.ref a) u ∧ Vals [.ref b] us' := by
    cases r1 with
    | cons r rr => exact ⟨_, _, rfl, r, rr⟩
  obtain ⟨u2, rfl, r2⟩ := vals1 rr
  obtain rfl : u1 = Value.ref a := t1
  obtain rfl : u2 = Value.ref b := r2
  obtain ⟨i1, rv1, p1, _⟩ := I1.tuple h1
  obtain ⟨i2, rv2, p2', _⟩ := I1.tuple h2
  have e1 : i1 = [] := by cases rv1; rfl
  have e2 : i2 = [] := by cases rv2; rfl
  subst e1 e2
  have q1 : s1.heap.IsTuple a #[] := p1
  have q2 : s1.heap.IsTuple b #[] := p2'
  have la : a < s1.heap.objs.size := by obtain ⟨o, ho, _⟩ := q1; exact Heap.lt_size ho
  have lb : b < s1.heap.objs.size := by obtain ⟨o, ho, _⟩ := q2; exact Heap.lt_size ho
  have new : ∀ c : Nat, c ∈ [s1.heap.objs.size + 4, s1.heap.objs.size + 3, s1.heap.objs.size, s1.heap.objs.size + 1] → s1.heap.objs.size ≤ c := fun c hc => by
    simp only [List.mem_cons, List.not_mem_nil, or_false] at hc
    omega
  refine zip_begins2 (begins_tuple a #[]) (begins_tuple b #[]) q1 q2 fun h' hz hTI hTO g1 g2 hsz hk => ?_
  refine Calls.spliced_nil ?_
  have I2 : Inv X pins σ H1 { s1 with heap := h' } := I1.kept (t' := s1.toks) hk
  have ok : ZOk s1.heap.objs.size a b h' := ⟨hz, hTI, hTO, ⟨_, g1, rfl, rfl⟩, ⟨_, g2, rfl, rfl⟩, by obtain ⟨o, e, r⟩ := q1; exact ⟨o, hk _ _ e, r⟩, by obtain ⟨o, e, r⟩ := q2; exact ⟨o, hk _ _ e, r⟩⟩
  refine PySem.call_dict_pairs (knd := mixKind X.prog X.w) (kvs := []) (s := { s1 with heap := h' }) (pairArg0 s1.heap.objs.size a b la lb) (I2.ok.hd hc) ok ⟨rfl, fun _ _ _ z => z.elim⟩ (Nat.zero_le _) fun h'' tk hd hkk => ?_
  have hm' : (({ s1 with heap := h' } : Shared).heap.objs.size == sysModules) = false := beq_eq_false_iff_ne.mpr (Nat.ne_of_gt I2.big)
  refine ⟨.ref h'.objs.size, upd H1 h'.objs.size (.dK []), ?_, rfl, q _ (I2.hok.fresh (Nat.le_refl _))⟩
  exact I2.turnedNew (t' := tk) (ch := [s1.heap.objs.size + 4, s1.heap.objs.size + 3, s1.heap.objs.size, s1.heap.objs.size + 1]) (fun c o hb e => hkk c o hb e) (fun c hb => I1.fpOk (new c hb) (I1.hok.fresh (new c hb))) (Nat.le_refl _) ⟨Nat.zero_le _, hm', [], .nil, hd⟩
/-- over data -/
def dDz (t : TDA) : TDE := fun δ S Q => t δ S fun xs S1 => xs = [.tup [], .tup []] ∧ ∀ p, S1 p = none → Q (.ref p) (up S1 p (.dk []))
theorem de_dictZip0 {e e2 : Expr} {t : TDA} {p p2 pos pos2 : Pos} (hc : X.calm = true) (hg : Gl X "dict") (hm : X.mg "dict" = none) (hg2 : Gl X "zip") (hm2 : X.mg "zip" = none) (ha : PA X [e, e2] (lA X.K t))
    (hs2 : starEach [e, e2] X.env = (false, eval e X.env) :: starEach [e2] X.env := by rfl) (hp2 : (backTo pos2 (starEach [e2] X.env)).any (·.1) = false := by rfl)
    (hs : starEach [.Call (.Name "zip" p2) [e, e2] [] pos2] X.env = (false, eval (.Call (.Name "zip" p2) [e, e2] [] pos2) X.env) :: starEach [] X.env := by rfl) (hpl : (backTo pos (starEach [] X.env)).any (·.1) = false := by rfl) :
    PE X (.Call (.Name "dict" p) [.Call (.Name "zip" p2) [e, e2] [] pos2] [] pos) (lE X.K (dDz t)) :=
  PE.wk (pe_dictZip0 hc hg hm hg2 hm2 ha hs2 hp2 hs hpl) fun σ H Q ⟨N, δ, S, Q', re, rs, q, kk⟩ => by
    refine ⟨N, δ, S, _, re, rs, q, fun xs S1 vs H1 b1 rv q1 => ?_⟩
    obtain ⟨rfl, q1⟩ := q1
    obtain ⟨v, w, rfl, rx, ry⟩ := rv.two'
    obtain ⟨a, vs, rfl, ta, ra⟩ := rx.tup_
    obtain ⟨b, ws, rfl, tb, rb⟩ := ry.tup_
    have := ra.inv_nil
    subst this
    have := rb.inv_nil
    subst this
    refine ⟨a, b, rfl, .of ta, .of tb, fun p np => ?_⟩
    obtain ⟨a0, f0⟩ := b1.rs.new (o := .dK []) (m := .dk []) np fun c => ⟨[], upd_same, rfl, .nil⟩
    exact kk _ _ _ _ (b1.trans ⟨f0, a0⟩) (.of _) (q1 p (b1.rs.free np))
end
end DL

/-! Data layer: anything == a text. -/
namespace DL
open PySem L2 PyProof.Rows
theorem str_declines_dict (b : Str) (u : Tok) (l : Addr) (c : Value) (es : Array DictEntry) (n : Nat) (dd : Option Addr) (sl : Array (Option Value)) :
    Meets (Builtin.«str.__eq__» { pos := [Value.str b u, Value.ref l] }) fun x R s => s.heap.get? l = some { cls := c, dict := dd, data := Data.dict es n, slots := sl } ∧ R (Except.ok (Flow.ret Value.notImplemented)) s :=
  Meets.of_wp fun prog w A R s h => by
    obtain ⟨hp, g, d, tk, os⟩ := s
    obtain ⟨hl, h⟩ := h
    refine wpAny_bind (wpAny_bind ?_)
    unfold slotArgs
    refine wpAny_ite_false rfl (wpAny_ite_false rfl (wpAny_pure ?_))
    refine wpAny_bind (wpAny_bind (wpAny_pure (wpAny_pure (wpAny_pure ?_))))
    refine wpAny_bind (wpAny_bind (wpAny_load hl (wpAny_pure ?_)))
    exact wpAny_bind (wpAny_rule (wpAny_pure ⟨Value.notImplemented, rfl, h⟩))
theorem dict_declines_str (l : Addr) (es : Array DictEntry) (n : Nat) (dd : Option Addr) (sl : Array (Option Value)) (b : Str) (u : Tok) :
    Meets (Builtin.«dict.__eq__» { pos := [Value.ref l, Value.str b u] }) fun x R s => s.heap.get? l = some { cls := Value.type "dict", dict := dd, data := Data.dict es n, slots := sl } ∧ R (Except.ok (Flow.ret Value.notImplemented)) s :=
  Meets.of_wp fun prog w A R s h => by
    obtain ⟨hp, g, d, tk, os⟩ := s
    obtain ⟨hl, h⟩ := h
    have f1 := F.sub_str_dict
    unfold Builtin.«dict.__eq__»
    refine wpAny_bind ?_
    unfold Builtin.Dict.dictSlotArgs
    refine wpAny_bind ?_
    unfold slotArgs
    refine wpAny_ite_false rfl (wpAny_pure ?_)
    refine wpAny_bind (wpAny_ite_false rfl (wpAny_ite_false rfl (wpAny_pure (wpAny_pure ?_))))
    refine wpAny_bind ?_
    first
      | exact wpAny_bind (wpAny_pure (wpAny_of_eq f1 (wpAny_ite_true rfl (wpAny_bind (wpAny_rule (wpAny_pure ⟨_, rfl, h⟩))))))
theorem rc_dict_str {A : Around} {s : Shared} {l : Addr} {o : Obj} {es : Array DictEntry} {n : Nat} (b : Str) (u : Tok) (ho : s.heap.get? l = some o) (hc : o.cls = .type "dict") (hd : o.data = .dict es n) (hu : A.units < cLine) : SeqAt.RcAt A s (Value.ref l) (Value.str b u) false := by
  intro prog w E Q h
  obtain ⟨cls, dd, data, sl⟩ := o
  dsimp only at hc hd
  subst hc hd
  exact SeqAt.rc_eq_decline_or ⟨_, ho, rfl⟩ (typeIs_str s b u) (by decide) F.sub_str_dict F.slot_dict_eq F.slot_str_eq_refl
    (fun x hq => call_meets F.slot_dict_eq ⟨_, ho, rfl⟩ F.entry_dict_eq (F.args_dict_eq_2 (Value.ref l) (Value.str b u)) (dict_declines_str l es n dd sl b u) ⟨ho, hq⟩)
    (fun x hq => call_meets F.slot_str_eq_refl (typeIs_str s b u) F.entry_str_eq (F.args_str_eq_2 (Value.str b u) (Value.ref l)) (str_declines_dict b u l (Value.type "dict") es n dd sl) ⟨ho, hq⟩)
    (fun x hq => wpAny_of_eq rfl hq) (Or.inr hu) h
/-- anything == a text -/
def eqTD : RD2 := fun x y S Q => ∃ (z : Str) (t : String), y = .str z ∧ tyN S x = some t ∧ (∀ a kvs, x = .ref a → S a ≠ some (.dt kvs)) ∧ Q (.bl (decide (x = .str z))) S
theorem od_eqT {X : Cx} {k : Nat} (hr : Rg k X.A) : OpR X (compareOp .Eq) (l2 X.K eqTD) := by
  intro pins s σ H v u vv uu Q I rv ru hh
  obtain ⟨N, x, y, S, Q', rx, ry, rs, ⟨z, t, rfl, ht, nd, q⟩, kk⟩ := hh
  have hu : X.A.units < cLine := by have := hr.r.un; omega
  have ey := ry.at_
  subst ey
  obtain ⟨tk, rfl⟩ := (show ∃ t, uu = Value.str z t from ru)
  have no : x ≠ .str z → ∀ w, w = Value.bool false → EP X pins σ Q w s := fun ne w e => by
    rw [e]
    refine ⟨.bl false, H, I, rfl, kk _ S _ H (.refl rs) (.of _) ?_⟩
    rw [decide_eq_false ne] at q
    exact q
  have scl : ∀ w : V, x = .at w → scal w (.str z) = true → wpAny (model X.prog X.w) X.A (compareOp .Eq vv (.str z tk)) (EP X pins σ Q) X.xe s := fun w e hs => by
    subst e
    have := rx.at_
    subst this
    refine op_eq pins s σ H _ (V.str z) _ _ Q I rv (show RelV (V.str z) (.str z tk) from ⟨tk, rfl⟩) ⟨hs, kk _ S _ H (.refl rs) (.of _) ?_⟩
    have e2 : decide (v = .str z) = decide (D.at v = .str z) := decide_eq_decide.mpr ⟨fun h => by rw [h], fun h => D.at.inj h⟩
    rw [e2]
    exact q
  have tup : ∀ a vs, v = .ref a → SqT X.K H a vs → x ≠ .str z → wpAny (model X.prog X.w) X.A (compareOp .Eq vv (.str z tk)) (EP X pins σ Q) X.xe s := fun a vs e h ne => by
    subst e
    obtain rfl : vv = Value.ref a := rv
    obtain ⟨its, r3, p, _⟩ := I.tuple h
    exact SeqAt.RcAt.tuple_str z tk p hu _ _ _ _ (no ne _ rfl)
  have lst : ∀ a vs, v = .ref a → SqL X.K H a vs → x ≠ .str z → wpAny (model X.prog X.w) X.A (compareOp .Eq vv (.str z tk)) (EP X pins σ Q) X.xe s := fun a vs e h ne => by
    subst e
    obtain rfl : vv = Value.ref a := rv
    obtain ⟨its, r3, p, _⟩ := I.list h
    exact SeqAt.RcAt.list_str z tk p.isList hu _ _ _ _ (no ne _ rfl)
  cases x with
  | tup xs =>
    obtain ⟨a, vs, rfl, h, _⟩ := rx.tup_
    exact tup a vs rfl (.of h) (fun e => nomatch e)
  | wt xs =>
    obtain ⟨a, vs, rfl, h, _⟩ := rx.wt_
    exact tup a vs rfl (.inr h) (fun e => nomatch e)
  | fl xs =>
    obtain ⟨a, vs, rfl, h, _⟩ := rx.fl_
    exact lst a vs rfl h.sq (fun e => nomatch e)
  | «at» w =>
    cases w with
    | non => exact scl _ rfl rfl
    | bl b => exact (by
        have := rx.at_
        subst this
        obtain rfl : vv = Value.bool b := rv
        exact SeqAt.RcAt.bool_str b z tk _ _ _ _ (no (fun e => nomatch e) _ rfl))
    | int i => exact scl _ rfl rfl
    | str y => exact scl _ rfl rfl
    | byt _ => cases ht
    | flt _ => cases ht
    | ty _ => cases ht
    | ref a =>
      have := rx.at_
      subst this
      obtain rfl : vv = Value.ref a := rv
      unfold tyN at ht
      cases e : S a with
      | none => simp only [e] at ht; cases ht
      | some o =>
        cases o with
        | lst xs =>
          obtain ⟨vs, h1, _⟩ := rs.ob a _ e
          exact lst a vs rfl (.of h1) (fun e => nomatch e)
        | dk kvs =>
          obtain ⟨ks, h1, _⟩ := rs.ob a _ e
          obtain ⟨_, hm, vs, kv, o, es, ep, g1, g2, g3, g4⟩ := I.hok a _ h1
          exact rc_dict_str z tk g1 g2.1 g3 hu _ _ _ _ (no (fun e => nomatch e) _ rfl)
        | dt kvs => exact (nd a kvs rfl e).elim
        | ins C fs => simp only [e] at ht; cases ht
end DL

namespace K10
open PySem L2 PyProof.Rows DL
/-! ### rows and programs, in plain Lean -/
inductive Rw where
  | copy (x y : Str)
  | none (x : Str)
  | num (x : Str) (n : Int)
  | sum (w x y z : Str)
  | read (x y f : Str)
  | inp (x : Option Str)
  | tell (y : Str)
  | ret (y : Str)
  | jump (t : Nat)
  | test (w y z : Str) (t : Nat)
  | isk (y k : Str) (t : Nat)
  | make (x k : Str) (ys : List Str)
  | call (x : Option Str) (p : Str) (ys : List Str)
def oD : Option Str → D
  | some x => .str x
  | none => .non
def ysD (ys : List Str) : D := .tup (ys.map D.str)
def Rw.h : Rw → Str
  | .copy _ _ => "copy"
  | .none _ => "none"
  | .num _ _ => "number"
  | .sum w _ _ _ => w
  | .read _ _ _ => "read"
  | .inp _ => "input"
  | .tell _ => "tell"
  | .ret _ => "return"
  | .jump _ => "jump"
  | .test w _ _ _ => w
  | .isk _ _ _ => "is"
  | .make _ _ _ => "make"
  | .call _ _ _ => "call"
def Rw.ps : Rw → List D
  | .copy x y => [.str x, .str y]
  | .none x => [.str x]
  | .num x n => [.str x, .int n]
  | .sum _ x y z => [.str x, .str y, .str z]
  | .read x y f => [.str x, .str y, .str f]
  | .inp x => [oD x]
  | .tell y => [.str y]
  | .ret y => [.str y]
  | .jump t => [.int t]
  | .test _ y z t => [.str y, .str z, .int t]
  | .isk y k t => [.str y, .str k, .int t]
  | .make x k ys => [.str x, .str k, ysD ys]
  | .call x p ys => [oD x, .str p, ysD ys]
def Rw.d (r : Rw) : D := .tup (.str r.h :: r.ps)
/-- the signs of its parts -/
def Rw.sg : Rw → List Str
  | .copy _ _ => ["x", "y"]
  | .none _ => ["x"]
  | .num _ _ => ["x", "n"]
  | .sum _ _ _ _ => ["x", "y", "y"]
  | .read _ _ _ => ["x", "y", "f"]
  | .inp _ => ["o"]
  | .tell _ => ["y"]
  | .ret _ => ["y"]
  | .jump _ => ["r"]
  | .test _ _ _ _ => ["y", "y", "r"]
  | .isk _ _ _ => ["y", "w", "r"]
  | .make _ _ _ => ["x", "k", "Y"]
  | .call _ _ _ => ["o", "p", "Y"]
/-- its variables -/
def Rw.vs : Rw → List Str
  | .copy x y => [x, y]
  | .none x => [x]
  | .num x _ => [x]
  | .sum _ x y z => [x, y, z]
  | .read x y _ => [x, y]
  | .inp x => x.toList
  | .tell y => [y]
  | .ret y => [y]
  | .jump _ => []
  | .test _ y z _ => [y, z]
  | .isk y _ _ => [y]
  | .make x _ ys => x :: ys
  | .call x _ ys => x.toList ++ ys
def sums : List Str := ["plus", "minus", "times"]
def Sh (x : Str) : Prop := PyData.strOk x = true ∧ x.length ≤ 40
/-- the words that stand for others, and where a row may lead -/
def Rw.Ok (n : Nat) (fs : List Str) : Rw → Prop
  | .sum w _ _ _ => w ∈ sums
  | .test w _ _ t => (w = "less" ∨ w = "same") ∧ t ≤ n
  | .jump t => t ≤ n
  | .isk _ _ t => t ≤ n
  | .make _ _ ys => ys.length ≤ 4
  | .call _ p ys => p ∈ fs ∧ ys.length ≤ 4
  | _ => True
def shapes : List (Str × Str) := [("copy", "xy"), ("none", "x"), ("number", "xn"), ("plus", "xyy"), ("minus", "xyy"), ("times", "xyy"), ("make", "xkY"), ("read", "xyf"), ("input", "o"), ("tell", "y"), ("call", "opY"), ("return", "y"), ("jump", "r"), ("less", "yyr"), ("same", "yyr"), ("is", "ywr"), ("use", "xtY")]
/-- what one part adds -/
inductive Bit : Str → D → List Str → Prop
  | x (v : Str) : Bit "x" (.str v) [v]
  | y (v : Str) : Bit "y" (.str v) [v]
  | o (v : Str) : Bit "o" (.str v) [v]
  | no : Bit "o" .non []
  | ys (vs : List Str) (h : vs.length ≤ 4) : Bit "Y" (.tup (vs.map D.str)) vs
  | n (c : Str) (hc : c ∈ (["n", "k", "f", "p", "t", "w", "r"] : List Str)) (d : D) : Bit c d []
inductive Bits : List Str → List D → List Str → Prop
  | nil : Bits [] [] []
  | cons {c : Str} {cs : List Str} {d : D} {ds : List D} {v vs : List Str} (h : Bit c d v) (t : Bits cs ds vs) : Bits (c :: cs) (d :: ds) (v ++ vs)
theorem bit_o (x : Option Str) : Bit "o" (oD x) x.toList := by
  cases x with
  | none => exact .no
  | some x => exact .o x
theorem rw_bits {n : Nat} {fs : List Str} {r : Rw} (h : r.Ok n fs) : Bits r.sg r.ps r.vs := by
  have nn : ∀ c d, c ∈ (["n", "k", "f", "p", "t", "w", "r"] : List Str) → Bit c d [] := fun c d hc => .n c hc d
  cases r with
  | copy x y => exact .cons (.x x) (.cons (.y y) .nil)
  | none x => exact .cons (.x x) .nil
  | num x i => exact .cons (.x x) (.cons (nn "n" _ (by simp)) .nil)
  | sum w x y z => exact .cons (.x x) (.cons (.y y) (.cons (.y z) .nil))
  | read x y f => exact .cons (.x x) (.cons (.y y) (.cons (nn "f" _ (by simp)) .nil))
  | inp x =>
    have := Bits.cons (bit_o x) .nil
    rw [List.append_nil] at this
    exact this
  | tell y => exact .cons (.y y) .nil
  | ret y => exact .cons (.y y) .nil
  | jump t => exact .cons (nn "r" _ (by simp)) .nil
  | test w y z t => exact .cons (.y y) (.cons (.y z) (.cons (nn "r" _ (by simp)) .nil))
  | isk y k t => exact .cons (.y y) (.cons (nn "w" _ (by simp)) (.cons (nn "r" _ (by simp)) .nil))
  | make x k ys =>
    have := Bits.cons (.x x) (.cons (nn "k" (.str k) (by simp)) (.cons (.ys ys h) .nil))
    rw [List.append_nil] at this
    exact this
  | call x p ys =>
    have := Bits.cons (bit_o x) (.cons (nn "p" (.str p) (by simp)) (.cons (.ys ys h.2) .nil))
    rw [List.append_nil] at this
    exact this
/-- a text of single signs -/
def joinS : List Str → Str := fun cs => ⟨(cs.flatMap fun c => c.cps.toList).toArray⟩
theorem rw_shape {n : Nat} {fs : List Str} {r : Rw} (h : r.Ok n fs) : ∃ z, lookS shapes r.h = some z ∧ DL.signs z = r.sg.map D.str := by
  cases r with
  | sum w x y z =>
    have h' : w ∈ sums := h
    simp only [sums, List.mem_cons, List.not_mem_nil, or_false] at h'
    rcases h' with rfl | rfl | rfl <;> exact ⟨_, rfl, rfl⟩
  | test w y z t =>
    obtain ⟨h', _⟩ := h
    rcases h' with rfl | rfl <;> exact ⟨_, rfl, rfl⟩
  | _ => exact ⟨_, rfl, rfl⟩
theorem bit_len {c : Str} {d : D} {v : List Str} (h : Bit c d v) : v.length ≤ 4 := by
  cases h <;> first | assumption | (simp only [List.length_cons, List.length_nil]; omega)
theorem bits_flat {cs : List Str} {ds : List D} {vs : List Str} (h : Bits cs ds vs) : ∃ vss : List (List Str), vs = vss.flatten ∧ cs.length = ds.length ∧ vss.length = ds.length ∧ vs.length ≤ 4 * ds.length ∧
    ∀ i, i < ds.length → ∃ c d v, cs[i]? = some c ∧ ds[i]? = some d ∧ vss[i]? = some v ∧ Bit c d v := by
  induction h with
  | nil => exact ⟨[], rfl, rfl, rfl, Nat.le_refl _, fun i hi => absurd hi (Nat.not_lt_zero _)⟩
  | @cons c cs d ds v vs hb t ih =>
    obtain ⟨vss, e1, e2, e3, e4, e5⟩ := ih
    refine ⟨v :: vss, by rw [List.flatten_cons, e1], by simp [e2], by simp [e3], ?_, fun i hi => ?_⟩
    · have := bit_len hb
      rw [List.length_append, List.length_cons]
      omega
    · cases i with
      | zero => exact ⟨c, d, v, rfl, rfl, rfl, hb⟩
      | succ i =>
        obtain ⟨c', d', v', h1, h2, h3, h4⟩ := e5 i (by simpa using hi)
        exact ⟨c', d', v', by simpa using h1, by simpa using h2, by simpa using h3, h4⟩
theorem ps_len (r : Rw) : r.ps.length ≤ 3 := by cases r <;> simp [Rw.ps]
theorem flat_next {vss : List (List Str)} {i : Nat} {v : List Str} (h : vss[i]? = some v) : (vss.take (i + 1)).flatten = (vss.take i).flatten ++ v := by
  rw [List.take_add_one, h, List.flatten_append]
  simp
theorem flat_len (vss : List (List Str)) (i : Nat) : (vss.take i).flatten.length ≤ vss.flatten.length := by
  have := congrArg List.length (congrArg List.flatten (List.take_append_drop i vss))
  rw [List.flatten_append, List.length_append] at this
  omega
/-! ### the names met so far, as keys -/
def ins (ks : List Str) (x : Str) : List Str := if x ∈ ks then ks else ks ++ [x]
def insAll (ks xs : List Str) : List Str := xs.foldl ins ks
def kdS (ks : List Str) : List (Key × D) := ks.map fun x => (.inr x, .bl true)
theorem kdS_keys (ks : List Str) : (kdS ks).map (·.1) = ks.map Sum.inr := by unfold kdS; rw [List.map_map]; rfl
theorem kdS_put (ks : List Str) (x : Str) : putD (kdS ks) (.inr x) (.bl true) = kdS (ins ks x) := by
  unfold putD ins
  by_cases h : x ∈ ks
  · have ha : ((kdS ks).any fun kv => decide (kv.1 = (.inr x : Key))) = true := by
      rw [List.any_eq_true]
      exact ⟨(.inr x, .bl true), List.mem_map.mpr ⟨x, h, rfl⟩, by simp⟩
    rw [if_pos ha, if_pos h]
    unfold kdS
    rw [List.map_map]
    refine List.map_congr_left fun y _ => ?_
    dsimp only [Function.comp]
    split <;> rfl
  · have ha : ¬ ((kdS ks).any fun kv => decide (kv.1 = (.inr x : Key))) = true := by
      rw [List.any_eq_true]
      rintro ⟨q, hq, e⟩
      obtain ⟨y, hy, rfl⟩ := List.mem_map.mp hq
      have e := of_decide_eq_true e
      cases e
      exact h hy
    rw [if_neg ha, if_neg h]
    unfold kdS
    rw [List.map_append]
    rfl
theorem ins_nd {ks : List Str} (h : ks.Nodup) (x : Str) : (ins ks x).Nodup := by
  unfold ins
  split
  · exact h
  · rename_i hx
    refine List.nodup_append.mpr ⟨h, by simp, fun a ha b hb => ?_⟩
    rw [List.mem_singleton.mp hb]
    exact fun e => hx (e ▸ ha)
theorem ins_mem {ks : List Str} {x z : Str} : z ∈ ins ks x ↔ z ∈ ks ∨ z = x := by
  unfold ins
  split
  · rename_i h
    exact ⟨.inl, fun q => q.elim id fun e => e ▸ h⟩
  · rw [List.mem_append, List.mem_singleton]
theorem all_nd : ∀ (xs : List Str) {ks : List Str}, ks.Nodup → (insAll ks xs).Nodup
  | [], _, h => h
  | x :: xs, _, h => all_nd xs (ins_nd h x)
theorem all_mem : ∀ (xs : List Str) {ks : List Str} {z : Str}, z ∈ insAll ks xs ↔ z ∈ ks ∨ z ∈ xs
  | [], _, _ => by simp [insAll]
  | x :: xs, ks, z => by
    have := all_mem xs (ks := ins ks x) (z := z)
    show z ∈ insAll (ins ks x) xs ↔ _
    rw [this, ins_mem, List.mem_cons, or_assoc]
theorem all_app (ks xs ys : List Str) : insAll ks (xs ++ ys) = insAll (insAll ks xs) ys := List.foldl_append ..
theorem nd_len : ∀ (l d : List Str), l.Nodup → (∀ x ∈ l, x ∈ d) → l.length ≤ d.length
  | [], _, _, _ => Nat.zero_le _
  | x :: l, d, hn, hs => by
    obtain ⟨h1, h2⟩ := List.nodup_cons.mp hn
    have hx := hs x List.mem_cons_self
    have ih := nd_len l (d.erase x) h2 fun y hy => (List.mem_erase_of_ne (fun e : y = x => h1 (by rw [← e]; exact hy))).mpr (hs y (List.mem_cons_of_mem _ hy))
    rw [List.length_erase_of_mem hx] at ih
    have : 0 < d.length := List.length_pos_of_mem hx
    rw [List.length_cons]
    omega
/-! ### procedures and programs -/
abbrev Pc := Str × List Str × List Rw
def rwsD (rs : List Rw) : D := .tup (rs.map Rw.d)
def vars (ps : List Str) (rs : List Rw) : List Str := ps ++ rs.flatMap Rw.vs
def pcD (p : Pc) : D := .tup [.str p.1, ysD p.2.1, rwsD p.2.2]
/-- a program: its kinds as they stand, its procedures -/
def prD (ks : D) (ps : List Pc) : D := .tup [ks, .tup (ps.map pcD)]
/-- the first one with a name -/
def pcOf (ps : List Pc) (x : Str) : Option Pc := (ps.filter fun p => decide (p.1 = x))[0]?
theorem pcOf_ex {ps : List Pc} {x : Str} (h : x ∈ ps.map (·.1)) : ∃ p, pcOf ps x = some p ∧ p ∈ ps := by
  obtain ⟨p, hp, rfl⟩ := List.mem_map.mp h
  have hm : p ∈ ps.filter fun q => decide (q.1 = p.1) := List.mem_filter.mpr ⟨hp, by simp⟩
  unfold pcOf
  cases e : ps.filter fun q => decide (q.1 = p.1) with
  | nil => rw [e] at hm; cases hm
  | cons q r => exact ⟨q, rfl, (List.mem_filter.mp (by rw [e]; exact List.mem_cons_self : q ∈ ps.filter _)).1⟩
abbrev Hd := Str × List Str
def hdD (k : Hd) : D := .tup [.str k.1, .tup (k.2.map D.str)]
/-- the names of variables -/
def nm14 : List Str := ["a", "b", "t0", "none", "number", "end", "x", "b1", "y", "none1", "made", "zzzzzzzz", "cell"]
structure PcOk (fs : List Str) (p : Pc) : Prop where
  pl : p.2.1.length ≤ 4
  rl : p.2.2.length ≤ 20
  ok : ∀ r ∈ p.2.2, r.Ok p.2.2.length fs
  nm : ∀ x ∈ vars p.2.1 p.2.2, x ∈ nm14
structure PrOk (ks : List Hd) (ps : List Pc) : Prop where
  l : ps.length ≤ 6
  m : ("main" : Str) ∈ ps.map (·.1)
  sh : ∀ x ∈ ps.map (·.1), Sh x
  p : ∀ p ∈ ps, PcOk (ps.map (·.1)) p
  mp : ∀ p, pcOf ps "main" = some p → p.2.1 = []
  kl : ks.length ≤ 10
  kok : ∀ k ∈ ks, Sh k.1 ∧ k.2.length ≤ 4 ∧ ∀ f ∈ k.2, Sh f
  kn : (ks.map (·.1)).Nodup
  knd : ∀ k ∈ ks, k.2.Nodup
/-- the rows of a procedure -/
def rowsOf (ps : List Pc) (x : Str) : List Rw := ((pcOf ps x).map (·.2.2)).getD []
theorem rowsOf_ok {ks : List Hd} {ps : List Pc} (ok : PrOk ks ps) {x : Str} (h : x ∈ ps.map (·.1)) : ∃ p, pcOf ps x = some p ∧ rowsOf ps x = p.2.2 ∧ PcOk (ps.map (·.1)) p := by
  obtain ⟨p, h1, h2⟩ := pcOf_ex h
  exact ⟨p, h1, by unfold rowsOf; rw [h1]; rfl, ok.p p h2⟩
theorem nm_sh : ∀ x ∈ nm14, PyData.strOk x = true ∧ x.length ≤ 40 := by decide +kernel
theorem rw_sh {n : Nat} {fs : List Str} {r : Rw} (ok : r.Ok n fs) : Sh r.h := by
  have h : ∀ x ∈ (["copy", "none", "number", "plus", "minus", "times", "read", "input", "tell", "return", "jump", "less", "same", "is", "make", "call"] : List Str), PyData.strOk x = true ∧ x.length ≤ 40 := by decide +kernel
  refine h _ ?_
  cases r with
  | sum w x y z =>
    have h' : w ∈ sums := ok
    simp only [sums, List.mem_cons, List.not_mem_nil, or_false] at h'
    rcases h' with rfl | rfl | rfl <;> simp [Rw.h]
  | test w y z t =>
    obtain ⟨h', _⟩ := ok
    rcases h' with rfl | rfl <;> simp [Rw.h]
  | _ => simp [Rw.h]
/-- the procedure that a row calls -/
def Rw.calls : Rw → Option Str
  | .call _ p _ => Option.some p
  | _ => Option.none
theorem rw_call {n : Nat} {fs : List Str} {r : Rw} (ok : r.Ok n fs) : (∃ p ds, r.calls = some p ∧ r.h = "call" ∧ r.ps[1]? = some (.str p) ∧ p ∈ fs ∧ ds = r.ps) ∨ (r.calls = none ∧ r.h ≠ "call") := by
  have f : ∀ x ∈ (["copy", "none", "number", "plus", "minus", "times", "read", "input", "tell", "return", "jump", "less", "same", "is", "make"] : List Str), x ≠ "call" := by decide +kernel
  cases r with
  | call x p ys => exact .inl ⟨p, _, rfl, rfl, rfl, ok.1, rfl⟩
  | sum w x y z =>
    have h' : w ∈ sums := ok
    simp only [sums, List.mem_cons, List.not_mem_nil, or_false] at h'
    refine .inr ⟨rfl, f w ?_⟩
    rcases h' with rfl | rfl | rfl <;> simp
  | test w y z t =>
    obtain ⟨h', _⟩ := ok
    refine .inr ⟨rfl, f w ?_⟩
    rcases h' with rfl | rfl <;> simp
  | _ => exact .inr ⟨rfl, f _ (by simp [Rw.h])⟩
/-! ### values -/
mutual
/-- a value, with an empty dict of the store in it; n: how far it may have grown -/
def gv (S : Sto) (n : Nat) : D → Prop
  | .at .non => True
  | .at (.bl _) => True
  | .at (.int i) => i.natAbs ≤ 10 ^ 30 + n
  | .at (.str s) => PyData.strOk s = true ∧ s.length ≤ 40 + n
  | .at (.ref a) => S a = some (.dk [])
  | .at _ => False
  | .tup l => l.length ≤ 100 + n ∧ gvs S n l
  | .wt _ => False
  | .fl l => l.length ≤ 100 + n ∧ gvs S n l
def gvs (S : Sto) (n : Nat) : List D → Prop
  | [] => True
  | d :: ds => gv S n d ∧ gvs S n ds
end
theorem gvs_iff {S : Sto} {n : Nat} : ∀ {xs : List D}, gvs S n xs ↔ ∀ x ∈ xs, gv S n x
  | [] => by unfold gvs; simp
  | x :: xs => by unfold gvs; rw [gvs_iff]; simp
/-- the empty dicts of the store stay -/
def Kp (S S' : Sto) : Prop := ∀ a, S a = some (.dk []) → S' a = some (.dk [])
theorem Kp.refl {S : Sto} : Kp S S := fun _ h => h
theorem Kp.trans {S S1 S2 : Sto} (h : Kp S S1) (k : Kp S1 S2) : Kp S S2 := fun a e => k a (h a e)
theorem Kp.up {S S' : Sto} {p : Addr} {o : MO} (h : Kp S S') (hp : S p = none) : Kp S (up S' p o) := fun a e => by
  have : a ≠ p := fun z => by subst z; rw [hp] at e; cases e
  rw [up_ne this]; exact h a e
theorem Kp.up' {S : Sto} {p : Addr} {o : MO} (hp : S p = none) : Kp S (DL.up S p o) := Kp.refl.up hp
theorem gv_le {S S' : Sto} (k : Kp S S') {n m : Nat} (hn : n ≤ m) : ∀ {d : D}, gv S n d → gv S' m d := by
  intro d
  induction d using D.rec (motive_2 := fun xs => gvs S n xs → gvs S' m xs) with
  | «at» v =>
    intro h
    cases v with
    | ref a => unfold gv at h ⊢; exact k a h
    | non => unfold gv; trivial
    | bl b => unfold gv; trivial
    | int i => unfold gv at h ⊢; omega
    | str z => unfold gv at h ⊢; exact ⟨h.1, by omega⟩
    | byt _ => unfold gv at h; exact h.elim
    | flt _ => unfold gv at h; exact h.elim
    | ty _ => unfold gv at h; exact h.elim
  | tup l ih => intro h; unfold gv at h ⊢; exact ⟨by omega, ih h.2⟩
  | fl l ih => intro h; unfold gv at h ⊢; exact ⟨by omega, ih h.2⟩
  | wt l ih => intro h; unfold gv at h; exact h.elim
  | nil => unfold gvs; trivial
  | cons d ds ih ihs =>
    rename_i h
    unfold gvs at h ⊢
    exact ⟨ih h.1, ihs h.2⟩
theorem gv_tup {S : Sto} {n : Nat} {ds : List D} : gv S n (.tup ds) ↔ ds.length ≤ 100 + n ∧ ∀ d ∈ ds, gv S n d := by
  conv => lhs; unfold gv
  rw [gvs_iff]
theorem gv_fl {S : Sto} {n : Nat} {ds : List D} : gv S n (.fl ds) ↔ ds.length ≤ 100 + n ∧ ∀ d ∈ ds, gv S n d := by
  conv => lhs; unfold gv
  rw [gvs_iff]
theorem gv_str {S : Sto} {n : Nat} {z : Str} : gv S n (.str z) ↔ PyData.strOk z = true ∧ z.length ≤ 40 + n := by
  show gv S n (.at (.str z)) ↔ _
  unfold gv; exact Iff.rfl
theorem gv_int {S : Sto} {n : Nat} {i : Int} : gv S n (.int i) ↔ i.natAbs ≤ 10 ^ 30 + n := by
  show gv S n (.at (.int i)) ↔ _
  unfold gv; exact Iff.rfl
theorem gv_non {S : Sto} {n : Nat} : gv S n .non := by
  show gv S n (.at .non)
  unfold gv; trivial
theorem gv_bl {S : Sto} {n : Nat} {b : Bool} : gv S n (.bl b) := by
  show gv S n (.at (.bl b))
  unfold gv; trivial
theorem gv_sm {S : Sto} {n : Nat} {z : Str} (h : gv S n (.str z)) (hn : n ≤ 10) : Sm 0 60 (.str z) := by
  obtain ⟨a, b⟩ := gv_str.mp h
  exact Sm.str a (by omega)
def isI : D → Bool
  | .at (.int _) => true
  | _ => false
def isB : D → Bool
  | .at (.bl _) => true
  | _ => false
def isS : D → Bool
  | .at (.str _) => true
  | _ => false
def isTp : D → Bool
  | .tup _ => true
  | _ => false
theorem gv_ty {S : Sto} {n : Nat} {d : D} (h : gv S n d) : ∃ t, tyN S d = some t ∧ kis t "tuple" = isTp d ∧ kis t "str" = isS d ∧ kis t "int" = (isI d || isB d) ∧ kis t "bool" = isB d := by
  cases d with
  | tup l => exact ⟨"tuple", rfl, rfl, rfl, rfl, rfl⟩
  | wt l => unfold gv at h; exact h.elim
  | fl l => exact ⟨"list", rfl, rfl, rfl, rfl, rfl⟩
  | «at» v =>
    cases v with
    | non => exact ⟨"NoneType", rfl, rfl, rfl, rfl, rfl⟩
    | bl b => exact ⟨"bool", rfl, rfl, rfl, rfl, rfl⟩
    | int i => exact ⟨"int", rfl, rfl, rfl, rfl, rfl⟩
    | str z => exact ⟨"str", rfl, rfl, rfl, rfl, rfl⟩
    | byt _ => unfold gv at h; exact h.elim
    | flt _ => unfold gv at h; exact h.elim
    | ty _ => unfold gv at h; exact h.elim
    | ref a =>
      unfold gv at h
      refine ⟨"dict", ?_, rfl, rfl, rfl, rfl⟩
      unfold tyN
      dsimp only
      rw [h]
theorem tp_of {d : D} (e : isTp d = true) : ∃ ds, d = .tup ds := by
  unfold isTp at e
  split at e
  · exact ⟨_, rfl⟩
  · cases e
theorem s_of {d : D} (e : isS d = true) : ∃ z, d = .str z := by
  unfold isS at e
  split at e
  · exact ⟨_, rfl⟩
  · cases e
theorem i_of {d : D} (e : isI d = true) : ∃ z, d = .int z := by
  unfold isI at e
  split at e
  · exact ⟨_, rfl⟩
  · cases e
theorem ib {d : D} (h : isI d = true) : isB d = false := by
  obtain ⟨i, rfl⟩ := i_of h
  rfl
theorem nodt {S : Sto} {n : Nat} {d : D} (h : gv S n d) : ∀ a kvs, d = .ref a → S a ≠ some (.dt kvs) := fun a kvs e z => by
  subst e
  have h : gv S n (.at (.ref a)) := h
  unfold gv at h
  rw [h] at z
  cases z
end K10

namespace K10
open PySem L2 PyProof.Rows DL
/-! ### what a state is -/
def valF (ns : List Int) : D → Bool
  | .tup [a, .at (.int i)] => decide (a = .str "cell") && decide (i ∈ ns)
  | .at .non => true
  | .at (.int i) => decide (0 ≤ i) && decide (i < 1000003)
  | _ => false
def pr1 (ns : List Int) : D → Option Str
  | .tup [.at (.str z), v] => if valF ns v = true then some z else none
  | _ => none
def prs (ns : List Int) : List D → Option (List Str)
  | [] => some []
  | d :: ds => match pr1 ns d with
    | some z => (prs ns ds).map (z :: ·)
    | none => none
def prsD (ns : List Int) : D → Option (List Str)
  | .tup ps => prs ns ps
  | _ => none
/-- the first parts that are texts -/
def fst1 : D → Option Str
  | .tup (.at (.str z) :: _) => some z
  | _ => none
def nmsD : D → List Str
  | .tup ps => ps.filterMap fst1
  | _ => []
def kOf (ks : List Hd) (x : Str) : Option Hd := (ks.filter fun k => decide (k.1 = x))[0]?
def cellN (ks : List Hd) (ns : List Int) : D → Option Int
  | .tup [.at (.int i), .at (.str k), ps] => match prsD ns ps, kOf ks k with
    | some zs, some kd => if zs = kd.2.filter (fun f => decide (f ∈ zs)) then some i else none
    | _, _ => none
  | _ => none
def cellsF (ks : List Hd) (made : Int) : List D → List Int → Int → Option (List Int)
  | [], ns, _ => some ns
  | c :: cs, ns, last => match cellN ks ns c with
    | some i => if last < i ∧ i < made then cellsF ks made cs (ns ++ [i]) i else none
    | none => none
def cellsD (ks : List Hd) (made : Int) : D → Option (List Int)
  | .tup cs => cellsF ks made cs [] (-1)
  | _ => none
def varsOf (ps : List Pc) (x : Str) : List Str := ((pcOf ps x).map fun p => vars p.2.1 p.2.2).getD []
/-- a frame -/
def FrP (ps : List Pc) (ns : List Int) (d : D) : Prop := ∃ (x : Str) (r : Int) (y : D) (zs : List Str), d = .tup [.str x, .int r, y] ∧ x ∈ ps.map (·.1) ∧ 0 ≤ r ∧ r ≤ ((rowsOf ps x).length : Nat) ∧ prsD ns y = some zs ∧ IsSd (varsOf ps x) zs
/-- a frame that stands at a call of the one above it -/
def waits (ps : List Pc) (a b : D) : Bool := match a, b with
  | .tup (.at (.str x) :: .at (.int r) :: _), .tup (.at (.str y) :: _) => match (rowsOf ps x)[r.toNat]? with
    | some w => decide (w.calls = some y)
    | none => false
  | _, _ => false
def isMain : D → Bool
  | .tup (a :: _) => decide (a = .str "main")
  | _ => false
structure FrsP (ps : List Pc) (ns : List Int) (fs : List D) : Prop where
  a : ∀ (j : Nat) f, fs[j]? = some f → FrP ps ns f
  m : ∀ f, fs[0]? = some f → isMain f = true
  c : ∀ (j : Nat) f g, fs[j]? = some f → fs[j + 1]? = some g → waits ps f g = true
def StP (ks : List Hd) (ps : List Pc) (d : D) : Prop := ∃ (fs : List D) (c : D) (m : Int) (ns : List Int), d = .tup [.tup fs, c, .int m] ∧ 0 ≤ m ∧ cellsD ks m c = some ns ∧ FrsP ps ns fs
/-! ### laws of these -/
theorem prs_names {ns : List Int} : ∀ {ds : List D} {zs : List Str}, prs ns ds = some zs → ds.filterMap fst1 = zs
  | [], zs, h => by cases h; rfl
  | d :: ds, zs, h => by
    unfold prs at h
    split at h
    · rename_i z hz
      obtain ⟨ws, h1, rfl⟩ := Option.map_eq_some_iff.mp h
      have e : fst1 d = some z := by
        unfold pr1 at hz
        split at hz
        · split at hz
          · cases hz; rfl
          · cases hz
        · cases hz
      rw [List.filterMap_cons, e, prs_names h1]
    · cases h
theorem prsD_names {ns : List Int} {d : D} {zs : List Str} (h : prsD ns d = some zs) : nmsD d = zs := by
  unfold prsD at h
  split at h
  · exact prs_names h
  · cases h
theorem cellN_of {ks : List Hd} {ns : List Int} {i : Int} {k : Str} {y : D} {kd : Hd} (hk : kOf ks k = some kd) : cellN ks ns (.tup [.int i, .str k, y]) = if prsD ns y = some (kd.2.filter fun f => decide (f ∈ nmsD y)) then some i else none := by
  show (match prsD ns y, kOf ks k with
    | some zs, some kd => if zs = kd.2.filter (fun f => decide (f ∈ zs)) then some i else none
    | _, _ => none) = _
  rw [hk]
  cases hp : prsD ns y with
  | none => rw [if_neg (fun e => nomatch e)]
  | some zs =>
    rw [prsD_names hp]
    dsimp only
    by_cases h : zs = kd.2.filter fun f => decide (f ∈ zs)
    · rw [if_pos h, if_pos (congrArg some h)]
    · rw [if_neg h, if_neg (fun e => h (Option.some.inj e))]
theorem cellN_nok {ks : List Hd} {ns : List Int} {i : Int} {k : Str} {y : D} (hk : kOf ks k = none) : cellN ks ns (.tup [.int i, .str k, y]) = none := by
  show (match prsD ns y, kOf ks k with
    | some zs, some kd => if zs = kd.2.filter (fun f => decide (f ∈ zs)) then some i else none
    | _, _ => none) = _
  rw [hk]
  cases prsD ns y <;> rfl
theorem cellN_inv {ks : List Hd} {ns : List Int} {d : D} {i : Int} (h : cellN ks ns d = some i) : ∃ k y, d = .tup [.int i, .str k, y] := by
  unfold cellN at h
  split at h
  · split at h
    · split at h
      · cases h; exact ⟨_, _, rfl⟩
      · cases h
    · cases h
  · cases h
theorem prs_len {ns : List Int} : ∀ {ds : List D} {zs : List Str}, prs ns ds = some zs → zs.length = ds.length
  | [], zs, h => by cases h; rfl
  | d :: ds, zs, h => by
    unfold prs at h
    split at h
    · obtain ⟨ws, h1, rfl⟩ := Option.map_eq_some_iff.mp h
      rw [List.length_cons, List.length_cons, prs_len h1]
    · cases h
theorem prs_snoc {ns : List Int} {d : D} : ∀ {ds : List D}, prs ns (ds ++ [d]) = match prs ns ds, pr1 ns d with
    | some zs, some z => some (zs ++ [z])
    | _, _ => none
  | [] => by
    show prs ns [d] = _
    unfold prs
    cases pr1 ns d <;> rfl
  | e :: ds => by
    rw [List.cons_append]
    conv => lhs; unfold prs
    rw [prs_snoc]
    conv => rhs; unfold prs
    cases pr1 ns e with
    | none => rfl
    | some z => cases prs ns ds <;> cases pr1 ns d <;> rfl
theorem prs_none {ns : List Int} {d : D} : ∀ {ds : List D}, d ∈ ds → pr1 ns d = none → prs ns ds = none
  | [], h, _ => (nomatch h)
  | e :: ds, h, k => by
    unfold prs
    rcases List.mem_cons.mp h with rfl | h
    · rw [k]
    · rw [prs_none h k]
      cases pr1 ns e <;> rfl
theorem prs_at {ns : List Int} : ∀ {ds : List D} {zs : List Str} {j : Nat} {d : D}, prs ns ds = some zs → ds[j]? = some d → ∃ z, zs[j]? = some z ∧ pr1 ns d = some z
  | [], _, _, _, _, e => by simp at e
  | a :: ds, zs, j, d, h, e => by
    unfold prs at h
    split at h
    · rename_i z hz
      obtain ⟨ws, h1, rfl⟩ := Option.map_eq_some_iff.mp h
      cases j with
      | zero => cases e; exact ⟨z, rfl, hz⟩
      | succ j =>
        obtain ⟨w, h2, h3⟩ := prs_at h1 (j := j) (d := d) (by simpa using e)
        exact ⟨w, by simpa using h2, h3⟩
    · cases h
theorem pr1_inv {ns : List Int} {d : D} {z : Str} (h : pr1 ns d = some z) : ∃ v, d = .tup [.str z, v] ∧ valF ns v = true := by
  unfold pr1 at h
  split at h
  · split at h
    · rename_i hv
      cases h
      exact ⟨_, rfl, hv⟩
    · cases h
  · cases h
end K10


namespace K10
open PySem L2 PyProof.Rows DL
def top (i : Nat) : Stmt := PySem.Challenge.pw_reinways_k10_states_of_any_value.main.body.getD i (.Pass ⟨0, 0, 0, 0⟩)
abbrev s_is_integer : Stmt := top 2
abbrev s_is_number : Stmt := top 3
abbrev s_variables_in : Stmt := top 6
abbrev s_all_variables : Stmt := top 7
abbrev s_kind_of : Stmt := top 8
abbrev s_procedure_of : Stmt := top 9
abbrev s_variables_of : Stmt := top 10
abbrev s_first_frame : Stmt := top 12
abbrev s_is_value : Stmt := top 14
abbrev s_are_pairs : Stmt := top 15
abbrev s_is_cell_of : Stmt := top 16
abbrev s_cell_numbers : Stmt := top 17
abbrev s_is_frame : Stmt := top 18
abbrev s_waits_for : Stmt := top 19
abbrev s_are_frames : Stmt := top 20
abbrev s_is_state : Stmt := top 21
abbrev s_first_state : Stmt := top 22
abbrev s__law_deck : Stmt := top 24
abbrev s__law_draw : Stmt := top 25
abbrev s__law_pick : Stmt := top 26
abbrev s__law_words : Stmt := top 27
abbrev s__law_kinds : Stmt := top 28
abbrev s__law_heads : Stmt := top 29
abbrev s__law_number : Stmt := top 30
abbrev s__law_row : Stmt := top 31
abbrev s__law_program : Stmt := top 32
abbrev s__law_rows : Stmt := top 33
abbrev s__law_variables : Stmt := top 34
abbrev s__law_value : Stmt := top 35
abbrev s__law_cells : Stmt := top 36
abbrev s__law_chain : Stmt := top 37
abbrev s__law_frames : Stmt := top 38
abbrev s__law_made : Stmt := top 39
abbrev s__law_int : Stmt := top 40
abbrev s__law_fine : Stmt := top 41
abbrev s__law_pairs_fine : Stmt := top 42
abbrev s__law_names_of : Stmt := top 43
abbrev s__law_cells_fine : Stmt := top 44
abbrev s__law_frame_fine : Stmt := top 45
abbrev s__law_due : Stmt := top 46
abbrev s__law_odd : Stmt := top 47
abbrev s__law_bent : Stmt := top 48
abbrev s__law_told : Stmt := top 49
abbrev s_law : Stmt := top 50
theorem sc_is_integer : FnScope ["thing"] ["thing"] (defScope s_is_integer) := ⟨rfl, rfl, rfl, by decide +kernel, rfl, by decide +kernel, by decide +kernel⟩
theorem sc_is_number : FnScope ["thing"] ["thing"] (defScope s_is_number) := ⟨rfl, rfl, rfl, by decide +kernel, rfl, by decide +kernel, by decide +kernel⟩
theorem sc_variables_in : FnScope ["row", "found", "sign", "part"] ["row"] (defScope s_variables_in) := ⟨rfl, rfl, rfl, by decide +kernel, rfl, by decide +kernel, by decide +kernel⟩
theorem sc_all_variables : FnScope ["parameters", "rows", "found", "name", "row"] ["parameters", "rows"] (defScope s_all_variables) := ⟨rfl, rfl, rfl, by decide +kernel, rfl, by decide +kernel, by decide +kernel⟩
theorem sc_kind_of : FnScope ["program", "name", "kind"] ["program", "name"] (defScope s_kind_of) := ⟨rfl, rfl, rfl, by decide +kernel, rfl, by decide +kernel, by decide +kernel⟩
theorem sc_procedure_of : FnScope ["program", "name", "procedure"] ["program", "name"] (defScope s_procedure_of) := ⟨rfl, rfl, rfl, by decide +kernel, rfl, by decide +kernel, by decide +kernel⟩
theorem sc_variables_of : FnScope ["program", "procedure", "name", "parameters", "rows"] ["program", "procedure"] (defScope s_variables_of) := ⟨rfl, rfl, rfl, by decide +kernel, rfl, by decide +kernel, by decide +kernel⟩
theorem sc_first_frame : FnScope ["program", "name", "values", "known", "variable"] ["program", "name", "values"] (defScope s_first_frame) := ⟨rfl, rfl, rfl, by decide +kernel, rfl, by decide +kernel, by decide +kernel⟩
theorem sc_is_value : FnScope ["thing", "numbers"] ["thing", "numbers"] (defScope s_is_value) := ⟨rfl, rfl, rfl, by decide +kernel, rfl, by decide +kernel, by decide +kernel⟩
theorem sc_are_pairs : FnScope ["thing", "numbers", "pair"] ["thing", "numbers"] (defScope s_are_pairs) := ⟨rfl, rfl, rfl, by decide +kernel, rfl, by decide +kernel, by decide +kernel⟩
theorem sc_is_cell_of : FnScope ["program", "thing", "numbers", "kind", "names", "field", "value"] ["program", "thing", "numbers"] (defScope s_is_cell_of) := ⟨rfl, rfl, rfl, by decide +kernel, rfl, by decide +kernel, by decide +kernel⟩
theorem sc_cell_numbers : FnScope ["program", "thing", "made", "numbers", "last", "cell"] ["program", "thing", "made"] (defScope s_cell_numbers) := ⟨rfl, rfl, rfl, by decide +kernel, rfl, by decide +kernel, by decide +kernel⟩
theorem sc_is_frame : FnScope ["program", "thing", "numbers", "procedure", "variable", "value"] ["program", "thing", "numbers"] (defScope s_is_frame) := ⟨rfl, rfl, rfl, by decide +kernel, rfl, by decide +kernel, by decide +kernel⟩
theorem sc_waits_for : FnScope ["program", "frame", "other", "rows"] ["program", "frame", "other"] (defScope s_waits_for) := ⟨rfl, rfl, rfl, by decide +kernel, rfl, by decide +kernel, by decide +kernel⟩
theorem sc_are_frames : FnScope ["program", "thing", "numbers", "frame", "other"] ["program", "thing", "numbers"] (defScope s_are_frames) := ⟨rfl, rfl, rfl, by decide +kernel, rfl, by decide +kernel, by decide +kernel⟩
theorem sc_is_state : FnScope ["program", "thing", "numbers"] ["program", "thing"] (defScope s_is_state) := ⟨rfl, rfl, rfl, by decide +kernel, rfl, by decide +kernel, by decide +kernel⟩
theorem sc_first_state : FnScope ["program"] ["program"] (defScope s_first_state) := ⟨rfl, rfl, rfl, by decide +kernel, rfl, by decide +kernel, by decide +kernel⟩
theorem sc__law_deck : FnScope ["script", "seed", "cell", "great"] ["script"] (defScope s__law_deck) := ⟨rfl, rfl, rfl, by decide +kernel, rfl, by decide +kernel, by decide +kernel⟩
theorem sc__law_draw : FnScope ["deck", "many", "cell", "turn", "number"] ["deck", "many"] (defScope s__law_draw) := ⟨rfl, rfl, rfl, by decide +kernel, rfl, by decide +kernel, by decide +kernel⟩
theorem sc__law_pick : FnScope ["deck", "some"] ["deck", "some"] (defScope s__law_pick) := ⟨rfl, rfl, rfl, by decide +kernel, rfl, by decide +kernel, by decide +kernel⟩
theorem sc__law_words : FnScope ["deck", "count", "some", "left", "found", "k"] ["deck", "count", "some"] (defScope s__law_words) := ⟨rfl, rfl, rfl, by decide +kernel, rfl, by decide +kernel, by decide +kernel⟩
theorem sc__law_kinds : FnScope ["deck", "fewest", "count", "names", "found", "name"] ["deck", "fewest"] (defScope s__law_kinds) := ⟨rfl, rfl, rfl, by decide +kernel, rfl, by decide +kernel, by decide +kernel⟩
theorem sc__law_heads : FnScope ["deck", "fewest", "found", "count", "name"] ["deck", "fewest"] (defScope s__law_heads) := ⟨rfl, rfl, rfl, by decide +kernel, rfl, by decide +kernel, by decide +kernel⟩
theorem sc__law_number : FnScope ["deck"] ["deck"] (defScope s__law_number) := ⟨rfl, rfl, rfl, by decide +kernel, rfl, by decide +kernel, by decide +kernel⟩
theorem sc__law_row : FnScope ["deck", "word", "kinds", "heads", "some", "size", "x", "y", "z", "k", "field", "kind", "one", "head", "what", "table"] ["deck", "word", "kinds", "heads", "some", "size"] (defScope s__law_row) := ⟨rfl, rfl, rfl, by decide +kernel, rfl, by decide +kernel, by decide +kernel⟩
theorem sc__law_program : FnScope ["deck", "fewest", "words", "kinds", "heads", "found", "fine", "word", "name", "parameters", "some", "size", "rows", "k"] ["deck", "fewest", "words"] (defScope s__law_program) := ⟨rfl, rfl, rfl, by decide +kernel, rfl, by decide +kernel, by decide +kernel⟩
theorem sc__law_rows : FnScope ["code", "name", "one"] ["code", "name"] (defScope s__law_rows) := ⟨rfl, rfl, rfl, by decide +kernel, rfl, by decide +kernel, by decide +kernel⟩
theorem sc__law_variables : FnScope ["code", "name", "one", "many", "found", "row"] ["code", "name"] (defScope s__law_variables) := ⟨rfl, rfl, rfl, by decide +kernel, rfl, by decide +kernel, by decide +kernel⟩
theorem sc__law_value : FnScope ["deck", "numbers", "way"] ["deck", "numbers"] (defScope s__law_value) := ⟨rfl, rfl, rfl, by decide +kernel, rfl, by decide +kernel, by decide +kernel⟩
theorem sc__law_cells : FnScope ["deck", "kinds", "found", "numbers", "number", "k", "kind", "pairs", "field"] ["deck", "kinds"] (defScope s__law_cells) := ⟨rfl, rfl, rfl, by decide +kernel, rfl, by decide +kernel, by decide +kernel⟩
theorem sc__law_chain : FnScope ["deck", "code", "found", "name", "k", "rows", "calls", "index"] ["deck", "code"] (defScope s__law_chain) := ⟨rfl, rfl, rfl, by decide +kernel, rfl, by decide +kernel, by decide +kernel⟩
theorem sc__law_frames : FnScope ["deck", "code", "spots", "cells", "found", "numbers", "cell", "name", "row", "pairs", "one"] ["deck", "code", "spots", "cells"] (defScope s__law_frames) := ⟨rfl, rfl, rfl, by decide +kernel, rfl, by decide +kernel, by decide +kernel⟩
theorem sc__law_made : FnScope ["deck", "cells", "fewest"] ["deck", "cells"] (defScope s__law_made) := ⟨rfl, rfl, rfl, by decide +kernel, rfl, by decide +kernel, by decide +kernel⟩
theorem sc__law_int : FnScope ["given", "low", "high"] ["given", "low", "high"] (defScope s__law_int) := ⟨rfl, rfl, rfl, by decide +kernel, rfl, by decide +kernel, by decide +kernel⟩
theorem sc__law_fine : FnScope ["given", "numbers"] ["given", "numbers"] (defScope s__law_fine) := ⟨rfl, rfl, rfl, by decide +kernel, rfl, by decide +kernel, by decide +kernel⟩
theorem sc__law_pairs_fine : FnScope ["given", "names", "numbers", "pair", "name"] ["given", "names", "numbers"] (defScope s__law_pairs_fine) := ⟨rfl, rfl, rfl, by decide +kernel, rfl, by decide +kernel, by decide +kernel⟩
theorem sc__law_names_of : FnScope ["given", "pair"] ["given"] (defScope s__law_names_of) := ⟨rfl, rfl, rfl, by decide +kernel, rfl, by decide +kernel, by decide +kernel⟩
theorem sc__law_cells_fine : FnScope ["code", "given", "made", "numbers", "fewest", "cell", "kinds", "kind", "there", "field"] ["code", "given", "made"] (defScope s__law_cells_fine) := ⟨rfl, rfl, rfl, by decide +kernel, rfl, by decide +kernel, by decide +kernel⟩
theorem sc__law_frame_fine : FnScope ["code", "given", "numbers", "one"] ["code", "given", "numbers"] (defScope s__law_frame_fine) := ⟨rfl, rfl, rfl, by decide +kernel, rfl, by decide +kernel, by decide +kernel⟩
theorem sc__law_due : FnScope ["code", "given", "numbers", "at", "frame", "name", "row", "pairs", "rows"] ["code", "given"] (defScope s__law_due) := ⟨rfl, rfl, rfl, by decide +kernel, rfl, by decide +kernel, by decide +kernel⟩
theorem sc__law_odd : FnScope ["deck", "given", "code", "names", "one", "kind", "some"] ["deck", "given", "code"] (defScope s__law_odd) := ⟨rfl, rfl, rfl, by decide +kernel, rfl, by decide +kernel, by decide +kernel⟩
theorem sc__law_bent : FnScope ["deck", "given", "code", "at", "way"] ["deck", "given", "code"] (defScope s__law_bent) := ⟨rfl, rfl, rfl, by decide +kernel, rfl, by decide +kernel, by decide +kernel⟩
theorem sc__law_told : FnScope ["code", "given", "found"] ["code", "given"] (defScope s__law_told) := ⟨rfl, rfl, rfl, by decide +kernel, rfl, by decide +kernel, by decide +kernel⟩
theorem sc_law : FnScope ["script", "deck", "words", "turn", "code", "chain", "name", "cells", "spots", "state", "begin", "one", "k", "twice", "odd", "given"] ["script"] (defScope s_law) := ⟨rfl, rfl, rfl, by decide +kernel, rfl, by decide +kernel, by decide +kernel⟩
theorem kw_is_state_thing_program : KwOk s_is_state "is_state" ["program", "thing"] ["thing", "program"] 0 [1, 0] := fun _ _ _ _ _ _ us ws h1 h2 => match us, ws, h1, h2 with | [], [_, _], _, _ => rfl
structure Txt (K : PySem.W.Frag) (w : World) (mg : Str → Option Value) : Prop where
  nb_all : mg "all" = none
  nb_bool : mg "bool" = none
  nb_dict : mg "dict" = none
  nb_enumerate : mg "enumerate" = none
  nb_int : mg "int" = none
  nb_isinstance : mg "isinstance" = none
  nb_len : mg "len" = none
  nb_list : mg "list" = none
  nb_max : mg "max" = none
  nb_range : mg "range" = none
  nb_repr : mg "repr" = none
  nb_set : mg "set" = none
  nb_sorted : mg "sorted" = none
  nb_str : mg "str" = none
  nb_tuple : mg "tuple" = none
  nb_zip : mg "zip" = none
  g_SHAPES : GDt K w mg "SHAPES" [("copy", "xy"), ("none", "x"), ("number", "xn"), ("plus", "xyy"), ("minus", "xyy"), ("times", "xyy"), ("make", "xkY"), ("read", "xyf"), ("input", "o"), ("tell", "y"), ("call", "opY"), ("return", "y"), ("jump", "r"), ("less", "yyr"), ("same", "yyr"), ("is", "ywr"), ("use", "xtY")]
  g_MODULUS : GI mg "MODULUS" 1000003
/-! ### the program's defs -/
theorem isn_str (v : Str) : xor true (decide (D.str v = D.non)) = true := by simp [D.str, D.non]
def sp_variables_in : SpD := fun ds S Q _ => ∃ (r : Rw) (n : Nat) (fl : List Str), ds = [r.d] ∧ r.Ok n fl ∧ Q (.fl (r.vs.map D.str)) S
theorem ok_variables_in {P : Program} {w : World} {K : PySem.W.Frag} {mg : Str → Option Value} {base : Heap} (T : Txt K w mg)  {ff : Addr} {fd : FuncData} (F : Fun K "variables_in" "variables_in" s_variables_in ff fd) (mf : mg "variables_in" = some (.ref ff)) : Cal P w K mg base 1 "variables_in" s_variables_in ["row"] sp_variables_in := by
  refine ⟨ff, fd, okD F sc_variables_in (fun ds S Q E h => ?len) (fun cdv A outer s H E ds S Q E' hcd hr h => ⟨_, (dss_cons (ds_set 1 sc_variables_in.nd (de_lst da_nil))
      (dss_cons (ds_for PassesOwn.never rfl (di_zipM (by rfl) T.nb_zip (da_cons (de_gix T.g_SHAPES (de_ix (xd_ix hr) (de_var 0) de_int)) (da_cons (de_slice (xd_slice false) (de_var 0) (do_some de_int) do_none) da_nil))) (dg_tup (n := 2) rfl (dgs_cons (dg_name 2 sc_variables_in.nd) (dgs_cons (dg_name 3 sc_variables_in.nd) dgs_nil))) (dss_one (ds_if (dt_cmp (od_eq hr) (de_var 2) de_str) (dss_one (ds_expr (de_m PySem.F.plainAttrs_list PySem.F.slot_list_extend PySem.F.type_list_extend md_extT (de_var 1) (da_cons (de_var 3) da_nil)))) (dss_one (ds_if (dw_and (dt_cmp (od_in hr) (de_var 2) de_str) (dw_and1 (dt_cmp od_isnot (de_var 3) de_non))).pt (dss_one (ds_expr (de_m PySem.F.plainAttrs_list PySem.F.slot_list_append PySem.F.type_list_append md_append (de_var 1) (da_cons (de_var 3) da_nil)))) dss_nil)))))
      (dss_one (ds_ret (de_var 1))))), ?run⟩), F.binds (ps := ["row"]) fun _ _ _ _ _ _ us hl => match us, hl with | [_], _ => rfl, mf, F⟩
  case len => obtain ⟨r, n, fl, rfl, _⟩ := h; rfl
  case run =>
    obtain ⟨r, n, fl, rfl, ok, q⟩ := h
    simp only [dVar, dC, dOp, dUn, dChain, dTr, dB, dAnd, dOr, dNot, dIf, dAndV, dOrV, dNotV, dNil, dCons, dTup, dLst, dLf, dNext, dSeq, dBreak, dCont, dDrop, dRet, dRetN, dIfS, gdName, gdNil, gdCons, gdTup, gdSub, dAsg, dPar, dCall, dCallK, dCB, dM0, dM, dGet1, dGet2, dDk, dDt, dPart, dNoPart, dSlice, dAug, dYes, dSort2, revD, iTupD, iLstD, iLf, iLw, iRange1, iRange2, iRange3, iEnumD, iZipD, iZipMD, iStrD, dGix, dDc, dIsi, dSortSet, dLenSet, dDlit, gdLst, dFor, dWhile, dLc, dLcM, dFld, dFldSet, dFldAdd, dMeth, dMake, dPar3, dDisp, dPrs, dFsi, dGget, dKgt, dKgtL, dDz, iEnumMD, dCut, dTcut, wipeD, bodyE, startD, List.map_cons, List.map_nil, List.length_cons, List.length_nil, List.replicate_succ, List.replicate_zero, List.cons_append, List.nil_append, Nat.reduceAdd, Nat.reduceSub, Nat.zero_add, List.getElem?_cons_zero, List.getElem?_cons_succ, List.set_cons_zero, List.set_cons_succ, Option.some.injEq, exists_eq_left', exists_eq_left, if_true, sizeLine_eq, Nat.reduceLeDiff, Nat.reduceLT, Nat.zero_le, true_and, and_true, Bool.false_eq_true, if_false]
    intro p np
    obtain ⟨z, hz, hsg⟩ := rw_shape ok
    have hb := rw_bits ok
    refine ix_sq rfl rfl at_0 ⟨r.h, z, rfl, hz, 1, rfl, sl_t ?_⟩
    rw [cut_1]
    refine ⟨_, _, _, _, rfl, rfl, rfl, ?_⟩
    have pl := ps_len r
    obtain ⟨vss, ev, e1, e2, e3, e4⟩ := bits_flat hb
    have s1 : (1000 : Nat) ≤ sizeLine := by decide
    have sub : ∀ i, (vss.take i).flatten.length ≤ 12 := fun i => Nat.le_trans (flat_len vss i) (by rw [← ev]; omega)
    refine fr_of r.ps.length (fun i δ S' => ∃ r2 r3, i ≤ r.ps.length ∧ S' = up S p (.lst ((vss.take i).flatten.map D.str)) ∧ δ = [some r.d, some (.ref p), r2, r3]) ⟨none, none, Nat.zero_le _, rfl, rfl⟩ ?_ ?_
    · rintro i δ S' hi ⟨r2, r3, hle, rfl, rfl⟩
      obtain ⟨c, d, v, h1, h2, h3, h4⟩ := e4 i hi
      have hz' : sdOf (up S p (.lst ((vss.take i).flatten.map D.str))) (.str z) = some (r.sg.map D.str) := by rw [← hsg]; rfl
      have hl : ((vss.take i).flatten.map D.str).length < sizeLine := by rw [List.length_map]; have := sub i; omega
      refine ⟨_, zip_at hz' rfl (by rw [List.getElem?_map, h1]; rfl) h2, _, rfl, rfl, _, _, rfl, _, _, rfl, rfl, _, rfl, ?_⟩
      have fin : ∀ y : Str, v = [y] → up (up S p (.lst ((vss.take i).flatten.map D.str))) p (.lst ((vss.take i).flatten.map D.str ++ [.str y])) = up S p (.lst ((vss.take (i + 1)).flatten.map D.str)) := fun y e => by
        rw [up_up, flat_next h3, e, List.map_append]; rfl
      cases h4 with
      | x v => exact ⟨_, rfl, brF (xf (ofS (by decide))) ⟨_, rfl, 120, rfl, _, rfl, brT rfl ⟨_, rfl, rfl, _, rfl, brT (isn_str v) ⟨_, rfl, ty_l up_same, _, rfl, app_of up_same hl ⟨_, _, hi, fin v rfl, rfl⟩⟩⟩⟩⟩
      | y v => exact ⟨_, rfl, brF (xf (ofS (by decide))) ⟨_, rfl, 121, rfl, _, rfl, brT rfl ⟨_, rfl, rfl, _, rfl, brT (isn_str v) ⟨_, rfl, ty_l up_same, _, rfl, app_of up_same hl ⟨_, _, hi, fin v rfl, rfl⟩⟩⟩⟩⟩
      | o v => exact ⟨_, rfl, brF (xf (ofS (by decide))) ⟨_, rfl, 111, rfl, _, rfl, brT rfl ⟨_, rfl, rfl, _, rfl, brT (isn_str v) ⟨_, rfl, ty_l up_same, _, rfl, app_of up_same hl ⟨_, _, hi, fin v rfl, rfl⟩⟩⟩⟩⟩
      | no =>
        refine ⟨_, rfl, brF (xf (ofS (by decide))) ⟨_, rfl, 111, rfl, _, rfl, brT rfl ⟨_, rfl, rfl, _, rfl, brF (by simp) ⟨_, _, hi, ?_, rfl⟩⟩⟩⟩
        rw [flat_next h3, List.append_nil]
      | ys vs h =>
        refine ⟨_, rfl, brT (xt rfl) ⟨_, rfl, ty_l up_same, _, rfl, p, _, _, _, rfl, rfl, up_same, rfl, ?_, _, _, hi, ?_, rfl⟩⟩
        · rw [List.length_map, List.length_map]; have := sub i; omega
        · rw [up_up, flat_next h3, List.map_append]
      | n c hc d =>
        have e0 : up S p (.lst ((vss.take i).flatten.map D.str)) = up S p (.lst ((vss.take (i + 1)).flatten.map D.str)) := by rw [flat_next h3, List.append_nil]
        simp only [List.mem_cons, List.not_mem_nil, or_false] at hc
        rcases hc with rfl | rfl | rfl | rfl | rfl | rfl | rfl
        · exact ⟨_, rfl, brF (xf (ofS (by decide))) ⟨_, rfl, 110, rfl, _, rfl, brF rfl ⟨_, _, hi, e0, rfl⟩⟩⟩
        · exact ⟨_, rfl, brF (xf (ofS (by decide))) ⟨_, rfl, 107, rfl, _, rfl, brF rfl ⟨_, _, hi, e0, rfl⟩⟩⟩
        · exact ⟨_, rfl, brF (xf (ofS (by decide))) ⟨_, rfl, 102, rfl, _, rfl, brF rfl ⟨_, _, hi, e0, rfl⟩⟩⟩
        · exact ⟨_, rfl, brF (xf (ofS (by decide))) ⟨_, rfl, 112, rfl, _, rfl, brF rfl ⟨_, _, hi, e0, rfl⟩⟩⟩
        · exact ⟨_, rfl, brF (xf (ofS (by decide))) ⟨_, rfl, 116, rfl, _, rfl, brF rfl ⟨_, _, hi, e0, rfl⟩⟩⟩
        · exact ⟨_, rfl, brF (xf (ofS (by decide))) ⟨_, rfl, 119, rfl, _, rfl, brF rfl ⟨_, _, hi, e0, rfl⟩⟩⟩
        · exact ⟨_, rfl, brF (xf (ofS (by decide))) ⟨_, rfl, 114, rfl, _, rfl, brF rfl ⟨_, _, hi, e0, rfl⟩⟩⟩
    · rintro i δ S' hi ⟨r2, r3, hle, rfl, rfl⟩
      have e : i = r.ps.length := by omega
      subst e
      have hz' : sdOf (up S p (.lst ((vss.take r.ps.length).flatten.map D.str))) (.str z) = some (r.sg.map D.str) := by rw [← hsg]; rfl
      refine ⟨zip_no hz' rfl (by rw [List.length_map, e1]; exact Nat.le_refl _) (Nat.le_refl _) (.inr rfl), _, rfl, rt_fl up_same ?_⟩
      rw [del_up np, ← e2, List.take_length, ← ev]
      exact q
def sp_all_variables : SpD := fun ds S Q _ => ∃ (ps : List Str) (rs : List Rw) (n : Nat) (fl nm : List Str), ds = [ysD ps, rwsD rs] ∧ (∀ r ∈ rs, r.Ok n fl) ∧ nm.length < 64 ∧ (∀ x ∈ vars ps rs, x ∈ nm) ∧ ∀ ys, IsSd (vars ps rs) ys → Q (ysD ys) S
theorem ok_all_variables {P : Program} {w : World} {K : PySem.W.Frag} {mg : Str → Option Value} {base : Heap} (T : Txt K w mg) (C_variables_in : Cal P w K mg base 1 "variables_in" s_variables_in ["row"] sp_variables_in) {ff : Addr} {fd : FuncData} (F : Fun K "all_variables" "all_variables" s_all_variables ff fd) (mf : mg "all_variables" = some (.ref ff)) : Cal P w K mg base 2 "all_variables" s_all_variables ["parameters", "rows"] sp_all_variables := by
  refine ⟨ff, fd, okD F sc_all_variables (fun ds S Q E h => ?len) (fun cdv A outer s H E ds S Q E' hcd hr h => ⟨_, (dss_cons (ds_setDc 2 [("name", 3)] rfl sc_all_variables.nd (di_tup (de_var 0)) (blkOk_by (N := ["parameters", "rows", "found", "name", "row"]) (sc := defScope s_all_variables) (by decide +kernel)) (fun _ _ _ _ _ => (pg_name (i := 3) sc_all_variables.nd rfl (Or.inl rfl) (Or.inr rfl))) (fun N => (tg_name (vs := [3]) (i := 3) (by decide))) (fun _ _ _ _ _ => dts_nil) (fun _ _ _ _ _ => (de_var 3)) (fun _ _ _ _ _ => de_bl))
      (dss_cons (ds_for PassesOwn.never rfl (di_tup (de_var 1)) (dg_name 4 sc_all_variables.nd) (dss_one (ds_for PassesOwn.never rfl (di_lf (de_c C_variables_in hr (da_cons (de_var 4) da_nil))) (dg_name 3 sc_all_variables.nd) (dss_one (ds_asg de_bl (dg_sub hr (de_var 2) (de_var 3)))))))
      (dss_one (ds_ret (de_callTy cd_tuple (by rfl) T.nb_tuple (da_cons (de_callB (cd_sortedDk rfl) (by rfl) T.nb_sorted (da_cons (de_var 2) da_nil)) da_nil)))))), ?run⟩), F.binds (ps := ["parameters", "rows"]) fun _ _ _ _ _ _ us hl => match us, hl with | [_, _], _ => rfl, mf, F⟩
  case len => obtain ⟨ps, rs, n, fl, nm, rfl, _⟩ := h; rfl
  case run =>
    obtain ⟨ps, rs, n, fl, nm, rfl, ok, h64, hnm, q⟩ := h
    simp only [dVar, dC, dOp, dUn, dChain, dTr, dB, dAnd, dOr, dNot, dIf, dAndV, dOrV, dNotV, dNil, dCons, dTup, dLst, dLf, dNext, dSeq, dBreak, dCont, dDrop, dRet, dRetN, dIfS, gdName, gdNil, gdCons, gdTup, gdSub, dAsg, dPar, dCall, dCallK, dCB, dM0, dM, dGet1, dGet2, dDk, dDt, dPart, dNoPart, dSlice, dAug, dYes, dSort2, revD, iTupD, iLstD, iLf, iLw, iRange1, iRange2, iRange3, iEnumD, iZipD, iZipMD, iStrD, dGix, dDc, dIsi, dSortSet, dLenSet, dDlit, gdLst, dFor, dWhile, dLc, dLcM, dFld, dFldSet, dFldAdd, dMeth, dMake, dPar3, dDisp, dPrs, dFsi, dGget, dKgt, dKgtL, dDz, iEnumMD, dCut, dTcut, wipeD, bodyE, startD, List.map_cons, List.map_nil, List.length_cons, List.length_nil, List.replicate_succ, List.replicate_zero, List.cons_append, List.nil_append, Nat.reduceAdd, Nat.reduceSub, Nat.zero_add, List.getElem?_cons_zero, List.getElem?_cons_succ, List.set_cons_zero, List.set_cons_succ, Option.some.injEq, exists_eq_left', exists_eq_left, if_true, sizeLine_eq, Nat.reduceLeDiff, Nat.reduceLT, Nat.zero_le, true_and, and_true, Bool.false_eq_true, if_false]
    have cap : ∀ xs : List Str, (∀ x ∈ xs, x ∈ vars ps rs) → (insAll [] xs).length < 64 := fun xs hx =>
      Nat.lt_of_le_of_lt (nd_len _ nm (all_nd xs List.nodup_nil) fun x h => hnm x (hx x (((all_mem xs).1 h).resolve_left (by simp)))) h64
    have kl : ∀ ks : List Str, ks.length < 64 → (kdS ks).length < 16777216 := fun ks h => by unfold kdS; rw [List.length_map]; omega
    refine ⟨_, .inl rfl, fun A hA => ?_⟩
    refine dc_seq (fun i S2 => S2 = up S A (.dk (kdS (insAll [] (ps.take i))))) rfl ?_ ?_
    · rintro i x S2 hx rfl
      obtain ⟨y, hy, rfl⟩ := map_at hx
      refine ⟨_, .inr y, rfl, up_same, kl _ (cap _ fun x h => List.mem_append_left _ (List.mem_of_mem_take h)), ?_⟩
      show up _ _ _ = _
      rw [up_up, kdS_put, tk1 hy, all_app]
      rfl
    · rintro i S2 hi rfl
      rw [List.take_of_length_le (by simpa using hi)]
      refine ⟨_, .inl rfl, fr_seq (fun i δ S' => ∃ r3 r4, δ = [some (ysD ps), some (rwsD rs), some (.ref A), r3, r4] ∧ S' = up S A (.dk (kdS (insAll [] (vars ps (rs.take i)))))) ⟨_, _, rfl, by simp [vars]⟩ ?_ ?_⟩
      · rintro i x δ S' hx ⟨r3, r4, rfl, rfl⟩
        obtain ⟨r, hr, rfl⟩ := map_at hx
        have hin : ∀ j, ∀ x ∈ vars ps (rs.take i) ++ r.vs.take j, x ∈ vars ps rs := fun j x h => by
          unfold vars at h ⊢
          rw [List.mem_append, List.mem_append] at h
          rcases h with (h | h) | h
          · exact List.mem_append_left _ h
          · obtain ⟨r', h1, h2⟩ := List.mem_flatMap.mp h
            exact List.mem_append_right _ (List.mem_flatMap.mpr ⟨r', List.mem_of_mem_take h1, h2⟩)
          · exact List.mem_append_right _ (List.mem_flatMap.mpr ⟨r, List.mem_of_getElem? hr, List.mem_of_mem_take h⟩)
        refine ⟨_, rfl, r, n, fl, rfl, ok r (List.mem_of_getElem? hr), _, rfl, ?_⟩
        refine fr_seq (fun j δ S' => ∃ r3, δ = [some (ysD ps), some (rwsD rs), some (.ref A), r3, some r.d] ∧ S' = up S A (.dk (kdS (insAll [] (vars ps (rs.take i) ++ r.vs.take j))))) ⟨_, rfl, by simp⟩ ?_ ?_
        · rintro j x δ S' hx ⟨r3, rfl, rfl⟩
          obtain ⟨y, hy, rfl⟩ := map_at hx
          refine ⟨_, rfl, _, rfl, A, rfl, .inr (.inl ⟨_, .inr y, up_same, rfl, kl _ (cap _ (hin j)), _, rfl, ?_⟩)⟩
          rw [up_up, kdS_put, tk1 hy, ← List.append_assoc, all_app _ _ [y]]
          rfl
        · rintro j δ S' hj ⟨r3, rfl, rfl⟩
          refine ⟨_, _, rfl, ?_⟩
          have e : vars ps (rs.take i) ++ r.vs.take j = vars ps (rs.take (i + 1)) := by
            rw [List.take_of_length_le (l := r.vs) (by simpa using hj), tk1 hr]
            unfold vars
            rw [List.flatMap_append, List.append_assoc]
            simp
          rw [e]
      · rintro i δ S' hi ⟨r3, r4, rfl, rfl⟩
        rw [List.take_of_length_le (by simpa using hi)]
        refine ⟨_, rfl, A, _, insAll [] (vars ps rs), rfl, up_same, kdS_keys _, cap _ fun _ h => h, fun ys hp hs => tpl_l rfl (rt_up hA (q ys ⟨hs, hp.nodup_iff.mpr (all_nd _ List.nodup_nil), fun z => ?_⟩))⟩
        rw [hp.mem_iff, all_mem]
        simp
def sp_procedure_of : SpD := fun ds S Q _ => ∃ (ks : D) (ps : List Pc) (x : Str) (p : Pc), ds = [prD ks ps, .str x] ∧ ps.length ≤ 10 ∧ pcOf ps x = some p ∧ Q (pcD p) S
theorem ok_procedure_of {P : Program} {w : World} {K : PySem.W.Frag} {mg : Str → Option Value} {base : Heap} (T : Txt K w mg)  {ff : Addr} {fd : FuncData} (F : Fun K "procedure_of" "procedure_of" s_procedure_of ff fd) (mf : mg "procedure_of" = some (.ref ff)) : Cal P w K mg base 1 "procedure_of" s_procedure_of ["program", "name"] sp_procedure_of := by
  refine ⟨ff, fd, okD F sc_procedure_of (fun ds S Q E h => ?len) (fun cdv A outer s H E ds S Q E' hcd hr h => ⟨_, (dss_one (ds_ret (de_ix (xd_ix hr) (de_lc [("procedure", 2)] rfl sc_procedure_of.nd (di_tup (de_ix (xd_ix hr) (de_var 0) de_int)) (blkOk_by (N := ["program", "name", "procedure"]) (sc := defScope s_procedure_of) (by decide +kernel)) (fun _ _ _ _ _ => (pg_name (i := 2) sc_procedure_of.nd rfl (Or.inl rfl) (Or.inr rfl))) (fun N => (tg_name (vs := [2]) (i := 2) (by decide))) (fun _ _ _ _ _ => pts_one (dt_cmp (od_eq hr) (de_ix (xd_ix hr) (de_var 2) de_int) (de_var 1))) (fun _ _ _ _ _ => (de_var 2))) de_int))), ?run⟩), F.binds (ps := ["program", "name"]) fun _ _ _ _ _ _ us hl => match us, hl with | [_, _], _ => rfl, mf, F⟩
  case len => obtain ⟨ks, ps, x, p, rfl, _⟩ := h; rfl
  case run =>
    obtain ⟨ks, ps, x, p, rfl, h10, hp, q⟩ := h
    simp only [dVar, dC, dOp, dUn, dChain, dTr, dB, dAnd, dOr, dNot, dIf, dAndV, dOrV, dNotV, dNil, dCons, dTup, dLst, dLf, dNext, dSeq, dBreak, dCont, dDrop, dRet, dRetN, dIfS, gdName, gdNil, gdCons, gdTup, gdSub, dAsg, dPar, dCall, dCallK, dCB, dM0, dM, dGet1, dGet2, dDk, dDt, dPart, dNoPart, dSlice, dAug, dYes, dSort2, revD, iTupD, iLstD, iLf, iLw, iRange1, iRange2, iRange3, iEnumD, iZipD, iZipMD, iStrD, dGix, dDc, dIsi, dSortSet, dLenSet, dDlit, gdLst, dFor, dWhile, dLc, dLcM, dFld, dFldSet, dFldAdd, dMeth, dMake, dPar3, dDisp, dPrs, dFsi, dGget, dKgt, dKgtL, dDz, iEnumMD, dCut, dTcut, wipeD, bodyE, startD, List.map_cons, List.map_nil, List.length_cons, List.length_nil, List.replicate_succ, List.replicate_zero, List.cons_append, List.nil_append, Nat.reduceAdd, Nat.reduceSub, Nat.zero_add, List.getElem?_cons_zero, List.getElem?_cons_succ, List.set_cons_zero, List.set_cons_succ, Option.some.injEq, exists_eq_left', exists_eq_left, if_true, sizeLine_eq, Nat.reduceLeDiff, Nat.reduceLT, Nat.zero_le, true_and, and_true, Bool.false_eq_true, if_false]
    have s1 : (1000 : Nat) ≤ sizeLine := by decide
    refine ix_sq rfl rfl (at_n (i := 1) rfl) ⟨_, .inl rfl, lc_seq (fun i acc S' => S' = S ∧ acc = ((ps.take i).filter fun p => decide (p.1 = x)).map pcD) ⟨rfl, rfl⟩ ?_ ?_⟩
    · rintro i y acc S' hy ⟨rfl, rfl⟩
      obtain ⟨p', hp', rfl⟩ := map_at hy
      refine ⟨by rw [List.length_map]; have := List.length_filter_le (fun p : Pc => decide (p.1 = x)) (ps.take i); rw [List.length_take] at this; omega, ix_sq rfl rfl at_0 ⟨_, rfl, ?_⟩⟩
      by_cases h : p'.1 = x
      · refine brT (xt h) ⟨rfl, ?_⟩
        rw [tk1 hp', List.filter_append, List.map_append, List.filter_cons, if_pos (by simpa using h)]
        rfl
      · refine brF (xf h) ⟨rfl, ?_⟩
        rw [tk1 hp', List.filter_append, List.filter_cons, if_neg (by simpa using h)]
        simp
    · rintro i acc S' hi ⟨rfl, rfl⟩
      rw [List.take_of_length_le (by simpa using hi)]
      refine ix_sq rfl rfl (at_n (i := 0) (by rw [List.getElem?_map]; unfold pcOf at hp; rw [hp]; rfl)) (rt_of q)
/-- what is asked of a program that is known -/
def sp_variables_of : SpD := fun ds S Q _ => ∃ (ks : List Hd) (ps : List Pc) (x : Str), ds = [prD (.tup (ks.map hdD)) ps, .str x] ∧ PrOk ks ps ∧ x ∈ ps.map (·.1) ∧ ∀ ys, IsSd (varsOf ps x) ys → Q (ysD ys) S
theorem ok_variables_of {P : Program} {w : World} {K : PySem.W.Frag} {mg : Str → Option Value} {base : Heap} (T : Txt K w mg) (C_procedure_of : Cal P w K mg base 1 "procedure_of" s_procedure_of ["program", "name"] sp_procedure_of) (C_all_variables : Cal P w K mg base 2 "all_variables" s_all_variables ["parameters", "rows"] sp_all_variables) {ff : Addr} {fd : FuncData} (F : Fun K "variables_of" "variables_of" s_variables_of ff fd) (mf : mg "variables_of" = some (.ref ff)) : Cal P w K mg base 3 "variables_of" s_variables_of ["program", "procedure"] sp_variables_of := by
  refine ⟨ff, fd, okD F sc_variables_of (fun ds S Q E h => ?len) (fun cdv A outer s H E ds S Q E' hcd hr h => ⟨_, (dss_cons (ds_asg (de_c C_procedure_of hr (da_cons (de_var 0) (da_cons (de_var 1) da_nil))) (dg_tup (n := 3) rfl (dgs_cons (dg_name 2 sc_variables_of.nd) (dgs_cons (dg_name 3 sc_variables_of.nd) (dgs_cons (dg_name 4 sc_variables_of.nd) dgs_nil)))))
      (dss_one (ds_ret (de_c C_all_variables hr (da_cons (de_var 3) (da_cons (de_var 4) da_nil)))))), ?run⟩), F.binds (ps := ["program", "procedure"]) fun _ _ _ _ _ _ us hl => match us, hl with | [_, _], _ => rfl, mf, F⟩
  case len => obtain ⟨ks, ps, x, rfl, _⟩ := h; rfl
  case run =>
    obtain ⟨ks, ps, x, rfl, ok, hx, q⟩ := h
    simp only [dVar, dC, dOp, dUn, dChain, dTr, dB, dAnd, dOr, dNot, dIf, dAndV, dOrV, dNotV, dNil, dCons, dTup, dLst, dLf, dNext, dSeq, dBreak, dCont, dDrop, dRet, dRetN, dIfS, gdName, gdNil, gdCons, gdTup, gdSub, dAsg, dPar, dCall, dCallK, dCB, dM0, dM, dGet1, dGet2, dDk, dDt, dPart, dNoPart, dSlice, dAug, dYes, dSort2, revD, iTupD, iLstD, iLf, iLw, iRange1, iRange2, iRange3, iEnumD, iZipD, iZipMD, iStrD, dGix, dDc, dIsi, dSortSet, dLenSet, dDlit, gdLst, dFor, dWhile, dLc, dLcM, dFld, dFldSet, dFldAdd, dMeth, dMake, dPar3, dDisp, dPrs, dFsi, dGget, dKgt, dKgtL, dDz, iEnumMD, dCut, dTcut, wipeD, bodyE, startD, List.map_cons, List.map_nil, List.length_cons, List.length_nil, List.replicate_succ, List.replicate_zero, List.cons_append, List.nil_append, Nat.reduceAdd, Nat.reduceSub, Nat.zero_add, List.getElem?_cons_zero, List.getElem?_cons_succ, List.set_cons_zero, List.set_cons_succ, Option.some.injEq, exists_eq_left', exists_eq_left, if_true, sizeLine_eq, Nat.reduceLeDiff, Nat.reduceLT, Nat.zero_le, true_and, and_true, Bool.false_eq_true, if_false]
    obtain ⟨p, h1, h2⟩ := pcOf_ex hx
    obtain ⟨o1, o2, o3, o4⟩ := ok.p p h2
    have h10 : ps.length ≤ 10 := by have := ok.l; omega
    exact ⟨_, ps, x, p, rfl, h10, h1, _, rfl, rfl, _, _, rfl, _, _, rfl, _, _, rfl, rfl, p.2.1, p.2.2, _, _, nm14, rfl, o3, by decide, o4, fun ys hs => rt_of (q ys (by unfold varsOf; rw [h1]; exact hs))⟩
def sp_kind_of : SpD := fun ds S Q _ => ∃ (ks : List Hd) (ps : List Pc) (x : Str), ds = [prD (.tup (ks.map hdD)) ps, .str x] ∧ PrOk ks ps ∧ Q (match kOf ks x with | some k => hdD k | none => .non) S
theorem ok_kind_of {P : Program} {w : World} {K : PySem.W.Frag} {mg : Str → Option Value} {base : Heap} (T : Txt K w mg)  {ff : Addr} {fd : FuncData} (F : Fun K "kind_of" "kind_of" s_kind_of ff fd) (mf : mg "kind_of" = some (.ref ff)) : Cal P w K mg base 1 "kind_of" s_kind_of ["program", "name"] sp_kind_of := by
  refine ⟨ff, fd, okD F sc_kind_of (fun ds S Q E h => ?len) (fun cdv A outer s H E ds S Q E' hcd hr h => ⟨_, (dss_cons (ds_for PassesOwn.never rfl (di_tup (de_ix (xd_ix hr) (de_var 0) de_int)) (dg_name 2 sc_kind_of.nd) (dss_one (ds_if (dt_cmp (od_eq hr) (de_ix (xd_ix hr) (de_var 2) de_int) (de_var 1)) (dss_one (ds_ret (de_var 2))) dss_nil)))
      (dss_one (ds_ret de_non))), ?run⟩), F.binds (ps := ["program", "name"]) fun _ _ _ _ _ _ us hl => match us, hl with | [_, _], _ => rfl, mf, F⟩
  case len => obtain ⟨ks, ps, x, rfl, _⟩ := h; rfl
  case run =>
    obtain ⟨ks, ps, x, rfl, ok, q⟩ := h
    simp only [dVar, dC, dOp, dUn, dChain, dTr, dB, dAnd, dOr, dNot, dIf, dAndV, dOrV, dNotV, dNil, dCons, dTup, dLst, dLf, dNext, dSeq, dBreak, dCont, dDrop, dRet, dRetN, dIfS, gdName, gdNil, gdCons, gdTup, gdSub, dAsg, dPar, dCall, dCallK, dCB, dM0, dM, dGet1, dGet2, dDk, dDt, dPart, dNoPart, dSlice, dAug, dYes, dSort2, revD, iTupD, iLstD, iLf, iLw, iRange1, iRange2, iRange3, iEnumD, iZipD, iZipMD, iStrD, dGix, dDc, dIsi, dSortSet, dLenSet, dDlit, gdLst, dFor, dWhile, dLc, dLcM, dFld, dFldSet, dFldAdd, dMeth, dMake, dPar3, dDisp, dPrs, dFsi, dGget, dKgt, dKgtL, dDz, iEnumMD, dCut, dTcut, wipeD, bodyE, startD, List.map_cons, List.map_nil, List.length_cons, List.length_nil, List.replicate_succ, List.replicate_zero, List.cons_append, List.nil_append, Nat.reduceAdd, Nat.reduceSub, Nat.zero_add, List.getElem?_cons_zero, List.getElem?_cons_succ, List.set_cons_zero, List.set_cons_succ, Option.some.injEq, exists_eq_left', exists_eq_left, if_true, sizeLine_eq, Nat.reduceLeDiff, Nat.reduceLT, Nat.zero_le, true_and, and_true, Bool.false_eq_true, if_false]
    refine ix_sq rfl rfl at_0 ⟨_, .inl rfl, ?_⟩
    refine fr_seq (fun i δ S' => ∃ r, δ = [some (prD (.tup (ks.map hdD)) ps), some (.str x), r] ∧ S' = S ∧ (ks.take i).filter (fun k => decide (k.1 = x)) = []) ⟨none, rfl, rfl, rfl⟩ ?_ ?_
    · rintro i d δ S' hd ⟨r, rfl, rfl, hn⟩
      obtain ⟨k, hk, rfl⟩ := map_at hd
      refine ⟨_, rfl, ix_sq rfl rfl at_0 ⟨_, rfl, ?_⟩⟩
      by_cases h : k.1 = x
      · refine ⟨_, rfl, brT (xt h) ⟨_, rfl, rt_of ?_⟩⟩
        have e : kOf ks x = some k := by
          unfold kOf
          have : ks = ks.take i ++ k :: ks.drop (i + 1) := by
            have h1 := (List.getElem?_eq_some_iff.mp hk)
            obtain ⟨hl, e⟩ := h1
            rw [← e, List.getElem_cons_drop, List.take_append_drop]
          rw [this, List.filter_append, hn, List.filter_cons, if_pos (by simpa using h)]
          rfl
        rw [e] at q
        exact q
      · refine ⟨_, rfl, brF (xf h) ⟨_, rfl, rfl, ?_⟩⟩
        rw [tk1 hk, List.filter_append, hn, List.filter_cons, if_neg (by simpa using h)]
        rfl
    · rintro i δ S' hi ⟨r, rfl, rfl, hn⟩
      rw [List.take_of_length_le (by simpa using hi)] at hn
      refine rt_of ?_
      have e : kOf ks x = none := by unfold kOf; rw [hn]; rfl
      rw [e] at q
      exact q
def sp_is_integer : SpD := fun ds S Q _ => ∃ d n, ds = [d] ∧ gv S n d ∧ Q (.bl (isI d)) S
theorem ok_is_integer {P : Program} {w : World} {K : PySem.W.Frag} {mg : Str → Option Value} {base : Heap} (T : Txt K w mg)  {ff : Addr} {fd : FuncData} (F : Fun K "is_integer" "is_integer" s_is_integer ff fd) (mf : mg "is_integer" = some (.ref ff)) : Cal P w K mg base 1 "is_integer" s_is_integer ["thing"] sp_is_integer := by
  refine ⟨ff, fd, okD F sc_is_integer (fun ds S Q E h => ?len) (fun cdv A outer s H E ds S Q E' hcd hr h => ⟨_, (dss_one (ds_ret (de_and (de_isi (tn := "int") (by rfl) T.nb_isinstance (by rfl) T.nb_int (de_var 0)) (de_one (de_not (de_isi (tn := "bool") (by rfl) T.nb_isinstance (by rfl) T.nb_bool (de_var 0))))))), ?run⟩), F.binds (ps := ["thing"]) fun _ _ _ _ _ _ us hl => match us, hl with | [_], _ => rfl, mf, F⟩
  case len => obtain ⟨d, n, rfl, _⟩ := h; rfl
  case run =>
    obtain ⟨d, n, rfl, hd, q⟩ := h
    simp only [dVar, dC, dOp, dUn, dChain, dTr, dB, dAnd, dOr, dNot, dIf, dAndV, dOrV, dNotV, dNil, dCons, dTup, dLst, dLf, dNext, dSeq, dBreak, dCont, dDrop, dRet, dRetN, dIfS, gdName, gdNil, gdCons, gdTup, gdSub, dAsg, dPar, dCall, dCallK, dCB, dM0, dM, dGet1, dGet2, dDk, dDt, dPart, dNoPart, dSlice, dAug, dYes, dSort2, revD, iTupD, iLstD, iLf, iLw, iRange1, iRange2, iRange3, iEnumD, iZipD, iZipMD, iStrD, dGix, dDc, dIsi, dSortSet, dLenSet, dDlit, gdLst, dFor, dWhile, dLc, dLcM, dFld, dFldSet, dFldAdd, dMeth, dMake, dPar3, dDisp, dPrs, dFsi, dGget, dKgt, dKgtL, dDz, iEnumMD, dCut, dTcut, wipeD, bodyE, startD, List.map_cons, List.map_nil, List.length_cons, List.length_nil, List.replicate_succ, List.replicate_zero, List.cons_append, List.nil_append, Nat.reduceAdd, Nat.reduceSub, Nat.zero_add, List.getElem?_cons_zero, List.getElem?_cons_succ, List.set_cons_zero, List.set_cons_succ, Option.some.injEq, exists_eq_left', exists_eq_left, if_true, sizeLine_eq, Nat.reduceLeDiff, Nat.reduceLT, Nat.zero_le, true_and, and_true, Bool.false_eq_true, if_false]
    obtain ⟨t, h1, h2, h3, h4, h5⟩ := gv_ty hd
    refine ⟨t, h1, _, rfl, ?_⟩
    rw [h4]
    cases hI : isI d with
    | true =>
      refine brT rfl ⟨t, h1, _, rfl, rt_of ?_⟩
      rw [h5, ib hI]
      rw [hI] at q
      exact q
    | false =>
      rw [hI] at q
      cases hB : isB d with
      | true =>
        refine brT rfl ⟨t, h1, _, rfl, rt_of ?_⟩
        rw [h5, hB]
        exact q
      | false => exact brF rfl (rt_of q)
/-- a number -/
def numF : D → Bool
  | .at (.int i) => decide (0 ≤ i) && decide (i < 1000003)
  | _ => false
def sp_is_number : SpD := fun ds S Q _ => ∃ d n, ds = [d] ∧ gv S n d ∧ Q (.bl (numF d)) S
theorem ok_is_number {P : Program} {w : World} {K : PySem.W.Frag} {mg : Str → Option Value} {base : Heap} (T : Txt K w mg) (C_is_integer : Cal P w K mg base 1 "is_integer" s_is_integer ["thing"] sp_is_integer) {ff : Addr} {fd : FuncData} (F : Fun K "is_number" "is_number" s_is_number ff fd) (mf : mg "is_number" = some (.ref ff)) : Cal P w K mg base 2 "is_number" s_is_number ["thing"] sp_is_number := by
  refine ⟨ff, fd, okD F sc_is_number (fun ds S Q E h => ?len) (fun cdv A outer s H E ds S Q E' hcd hr h => ⟨_, (dss_one (ds_ret (de_and (de_c C_is_integer hr (da_cons (de_var 0) da_nil)) (de_one (de_chain od_le od_lt de_int (de_var 0) (de_gi T.g_MODULUS)))))), ?run⟩), F.binds (ps := ["thing"]) fun _ _ _ _ _ _ us hl => match us, hl with | [_], _ => rfl, mf, F⟩
  case len => obtain ⟨d, n, rfl, _⟩ := h; rfl
  case run =>
    obtain ⟨d, n, rfl, hd, q⟩ := h
    simp only [dVar, dC, dOp, dUn, dChain, dTr, dB, dAnd, dOr, dNot, dIf, dAndV, dOrV, dNotV, dNil, dCons, dTup, dLst, dLf, dNext, dSeq, dBreak, dCont, dDrop, dRet, dRetN, dIfS, gdName, gdNil, gdCons, gdTup, gdSub, dAsg, dPar, dCall, dCallK, dCB, dM0, dM, dGet1, dGet2, dDk, dDt, dPart, dNoPart, dSlice, dAug, dYes, dSort2, revD, iTupD, iLstD, iLf, iLw, iRange1, iRange2, iRange3, iEnumD, iZipD, iZipMD, iStrD, dGix, dDc, dIsi, dSortSet, dLenSet, dDlit, gdLst, dFor, dWhile, dLc, dLcM, dFld, dFldSet, dFldAdd, dMeth, dMake, dPar3, dDisp, dPrs, dFsi, dGget, dKgt, dKgtL, dDz, iEnumMD, dCut, dTcut, wipeD, bodyE, startD, List.map_cons, List.map_nil, List.length_cons, List.length_nil, List.replicate_succ, List.replicate_zero, List.cons_append, List.nil_append, Nat.reduceAdd, Nat.reduceSub, Nat.zero_add, List.getElem?_cons_zero, List.getElem?_cons_succ, List.set_cons_zero, List.set_cons_succ, Option.some.injEq, exists_eq_left', exists_eq_left, if_true, sizeLine_eq, Nat.reduceLeDiff, Nat.reduceLT, Nat.zero_le, true_and, and_true, Bool.false_eq_true, if_false]
    refine ⟨d, n, rfl, hd, _, rfl, ?_⟩
    cases hI : isI d with
    | true =>
      obtain ⟨i, rfl⟩ := i_of hI
      have e : numF (.int i) = (decide (0 ≤ i) && decide (i < 1000003)) := rfl
      rw [e] at q
      refine brT rfl (it_of trivial ⟨_, rfl, br2 (fun h => ?_) fun h => rt_of ?_⟩)
      · rw [h] at q
        show ∃ d1 S1, VW _ _ d1 S1 ∧ Q d1 S1
        exact rt_of q
      · rw [h] at q
        exact q
    | false =>
      refine brF rfl (rt_of ?_)
      have e : numF d = false := by
        unfold numF
        split
        · cases hI
        · rfl
      rw [e] at q
      exact q
end K10

namespace K10
open PySem L2 PyProof.Rows DL
/-! ### words -/
theorem neg_i {i : Int} {S : Sto} {Q : KD} (q : Q (.int (-i)) S) : negD (.int i) S Q := q
theorem val_cell {ns : List Int} {i : Int} : valF ns (.tup [.str "cell", .int i]) = decide (i ∈ ns) := by
  show (decide (D.str "cell" = D.str "cell") && decide (i ∈ ns)) = _
  rw [decide_eq_true rfl, Bool.true_and]
theorem val_else {ns : List Int} {d : D} (h : isTp d = false) (h2 : d ≠ .non) : valF ns d = numF d := by
  cases d with
  | tup l => cases h
  | fl l => rfl
  | wt l => rfl
  | «at» v => cases v <;> first | rfl | exact absurd rfl h2
theorem ty_tp {S : Sto} {n : Nat} {d : D} (h : gv S n d) {k : Bool → Sto → Prop} (yes : ∀ ds, d = .tup ds → k true S) (no : isTp d = false → k false S) : ∃ t, tyN S d = some t ∧ truD (.bl (kis t "tuple")) S k := by
  obtain ⟨t, h1, h2, _⟩ := gv_ty h
  refine ⟨t, h1, tru_b ?_⟩
  rw [h2]
  cases hT : isTp d with
  | true =>
    obtain ⟨ds, e⟩ := tp_of hT
    exact yes ds e
  | false => exact no hT
theorem ty_s {S : Sto} {n : Nat} {d : D} (h : gv S n d) {k : Bool → Sto → Prop} (yes : ∀ z, d = .str z → k true S) (no : isS d = false → k false S) : ∃ t, tyN S d = some t ∧ truD (.bl (kis t "str")) S k := by
  obtain ⟨t, h1, _, h2, _⟩ := gv_ty h
  refine ⟨t, h1, tru_b ?_⟩
  rw [h2]
  cases hT : isS d with
  | true =>
    obtain ⟨ds, e⟩ := s_of hT
    exact yes ds e
  | false => exact no hT
theorem is_int {S : Sto} {n : Nat} {d : D} (h : gv S n d) {k : KD} (yes : ∀ i, d = .int i → k (.bl true) S) (no : isI d = false → k (.bl false) S) : sp_is_integer [d] S k X0 := by
  refine ⟨d, n, rfl, h, ?_⟩
  cases hT : isI d with
  | true =>
    obtain ⟨ds, e⟩ := i_of hT
    exact yes ds e
  | false => exact no hT
theorem len_ne {ds : List D} {m : Nat} {S : Sto} {A B : Sto → Prop} (a : ds.length ≠ m → A S) (b : ds.length = m → B S) : lenD [.tup ds] S fun x S1 => eqD true x (.int (m : Nat)) S1 fun x S1 => ∃ c, x = .bl c ∧ if c = true then A S1 else B S1 :=
  len_sq rfl ⟨_, rfl, br2 (fun h => a (by have := of_nxt h; omega)) fun h => b (by have := of_nxf h; omega)⟩
theorem at_dk {S : Sto} {p : Addr} {kvs : List (Key × D)} {x : D} {κ : Key} (e : S p = some (.dk kvs)) (hk : keyD x = some κ) : atD S x (.ref p) = some (valD kvs κ) := by
  unfold atD
  dsimp only
  rw [e]
  dsimp only
  rw [hk]
  rfl
/-- the numbers of cells, as keys -/
def kvI (ns : List Int) : List (Key × D) := ns.map fun i => (.inl i, .bl true)
theorem put_kvI {ns : List Int} {i : Int} (h : i ∉ ns) : putD (kvI ns) (.inl i) (.bl true) = kvI (ns ++ [i]) := by
  unfold putD
  rw [if_neg]
  · unfold kvI; rw [List.map_append]; rfl
  · intro hh
    obtain ⟨x, hx, hy⟩ := List.any_eq_true.mp hh
    obtain ⟨j, hj, rfl⟩ := List.mem_map.mp hx
    have := of_decide_eq_true hy
    exact h (by rw [← Sum.inl.inj this]; exact hj)
theorem val_kvI (i : Int) : ∀ ns : List Int, (valD (kvI ns) (.inl i)).isSome = decide (i ∈ ns)
  | [] => rfl
  | j :: ns => by
    have ih := val_kvI i ns
    unfold valD kvI at ih ⊢
    rw [List.map_cons, List.find?_cons]
    by_cases h : j = i
    · subst h
      rw [decide_eq_true rfl, decide_eq_true List.mem_cons_self]
      rfl
    · rw [decide_eq_false fun e => h (Sum.inl.inj e)]
      rw [ih]
      refine decide_eq_decide.mpr ⟨fun k => List.mem_cons_of_mem _ k, fun k => (List.mem_cons.mp k).resolve_left fun e => h e.symm⟩
theorem in_kvI {neg : Bool} {S : Sto} {A : Addr} {ns : List Int} {i : Int} {Q : KD} (e : S A = some (.dk (kvI ns))) (q : Q (.bl (xor neg (decide (i ∈ ns)))) S) : inD neg (.int i) (.ref A) S Q :=
  in_at (at_dk e (κ := .inl i) rfl) (by rw [val_kvI]; exact q)
theorem eqv_strs : ∀ bs cs : List Str, PyData.eqvAll (toPys (bs.map D.str)) (toPys (cs.map D.str)) = decide (bs = cs)
  | [], [] => by unfold toPys; simp [PyData.eqvAll]
  | [], c :: cs => by unfold toPys; simp [PyData.eqvAll]
  | b :: bs, [] => by unfold toPys; simp [PyData.eqvAll]
  | b :: bs, c :: cs => by
    rw [List.map_cons, List.map_cons]
    unfold toPys toPy
    simp only [PyData.eqvAll, PyData.eqv]
    rw [eqv_strs bs cs]
    have e : (b == c) = decide (b = c) := rfl
    by_cases h : b = c <;> by_cases h2 : bs = cs <;> simp [h, h2, e]
theorem cm_strs (l : List Str) (hl : ∀ x ∈ l, PyData.strOk x = true) : Cm 1 (.fl (l.map D.str)) ∧ Cm 1 (.tup (l.map D.str)) := by
  have h : ∀ d ∈ l.map D.str, Cm 0 d := fun d hd => by
    obtain ⟨b, hb, rfl⟩ := List.mem_map.mp hd
    exact Cm.str (hl b hb)
  exact ⟨Cm.fl (k := 0) h, Cm.tup (k := 0) h⟩
theorem eq_strs {neg : Bool} {bs cs : List Str} {S : Sto} {Q : KD} (hb : ∀ x ∈ bs, PyData.strOk x = true) (hc : ∀ x ∈ cs, PyData.strOk x = true) (q : Q (.bl (xor neg (decide (bs = cs)))) S) : eqD neg (.fl (bs.map D.str)) (.fl (cs.map D.str)) S Q := by
  refine ceq_of (cm_strs bs hb).1 (cm_strs cs hc).1 ?_ (fun u e => nomatch e)
  have e : PyData.eqv (toPy (.fl (bs.map D.str))) (toPy (.fl (cs.map D.str))) = decide (bs = cs) := by
    unfold toPy
    simp only [PyData.eqv]
    exact eqv_strs bs cs
  rw [e]
  exact q
theorem eq_strsT {neg : Bool} {bs cs : List Str} {S : Sto} {Q : KD} (hb : ∀ x ∈ bs, PyData.strOk x = true) (hc : ∀ x ∈ cs, PyData.strOk x = true) (q : Q (.bl (xor neg (decide (bs = cs)))) S) : eqD neg (.tup (bs.map D.str)) (.tup (cs.map D.str)) S Q := by
  refine ceq_of (cm_strs bs hb).2 (cm_strs cs hc).2 ?_ (fun u e => nomatch e)
  have e : PyData.eqv (toPy (.tup (bs.map D.str))) (toPy (.tup (cs.map D.str))) = decide (bs = cs) := by
    unfold toPy
    simp only [PyData.eqv]
    exact eqv_strs bs cs
  rw [e]
  exact q
theorem two {α : Type} {xs : List α} (h : xs.length = 2) : ∃ a b, xs = [a, b] := by
  match xs, h with
  | [a, b], _ => exact ⟨a, b, rfl⟩
theorem three {α : Type} {xs : List α} (h : xs.length = 3) : ∃ a b c, xs = [a, b, c] := by
  match xs, h with
  | [a, b, c], _ => exact ⟨a, b, c, rfl⟩
theorem val_len {ns : List Int} {ds : List D} (h : ds.length ≠ 2) : valF ns (.tup ds) = false := by
  unfold valF
  split
  · rename_i e; cases e; exact absurd rfl h
  · rename_i e; cases e
  · rename_i e; cases e
  · rfl
theorem val_a {ns : List Int} {a b : D} (h : a ≠ .str "cell") : valF ns (.tup [a, b]) = false := by
  unfold valF
  split
  · rename_i e; cases e; rw [decide_eq_false h]; rfl
  · rename_i e; cases e
  · rename_i e; cases e
  · rfl
theorem val_b {ns : List Int} {a b : D} (h : isI b = false) : valF ns (.tup [a, b]) = false := by
  unfold valF
  split
  · rename_i e; cases e; cases h
  · rename_i e; cases e
  · rename_i e; cases e
  · rfl
theorem pr1_tp {ns : List Int} {d : D} (h : isTp d = false) : pr1 ns d = none := by
  unfold pr1
  split
  · cases h
  · rfl
theorem pr1_len {ns : List Int} {ds : List D} (h : ds.length ≠ 2) : pr1 ns (.tup ds) = none := by
  unfold pr1
  split
  · rename_i e; cases e; exact absurd rfl h
  · rfl
theorem pr1_s {ns : List Int} {a b : D} (h : isS a = false) : pr1 ns (.tup [a, b]) = none := by
  unfold pr1
  split
  · rename_i e; cases e; cases h
  · rfl
theorem pr1_of {ns : List Int} {z : Str} {b : D} : pr1 ns (.tup [.str z, b]) = if valF ns b = true then some z else none := rfl
theorem prsD_tp {ns : List Int} {d : D} (h : isTp d = false) : prsD ns d = none := by
  unfold prsD
  split
  · cases h
  · rfl
theorem cell_tp {ks : List Hd} {ns : List Int} {d : D} (h : isTp d = false) : cellN ks ns d = none := by
  cases e : cellN ks ns d with
  | none => rfl
  | some i => obtain ⟨k, y, rfl⟩ := cellN_inv e; cases h
theorem cell_len {ks : List Hd} {ns : List Int} {ds : List D} (h : ds.length ≠ 3) : cellN ks ns (.tup ds) = none := by
  cases e : cellN ks ns (.tup ds) with
  | none => rfl
  | some i => obtain ⟨k, y, e2⟩ := cellN_inv e; cases e2; exact absurd rfl h
theorem cell_i {ks : List Hd} {ns : List Int} {a b c : D} (h : isI a = false) : cellN ks ns (.tup [a, b, c]) = none := by
  cases e : cellN ks ns (.tup [a, b, c]) with
  | none => rfl
  | some i => obtain ⟨k, y, e2⟩ := cellN_inv e; cases e2; cases h
theorem cell_s {ks : List Hd} {ns : List Int} {a b c : D} (h : isS b = false) : cellN ks ns (.tup [a, b, c]) = none := by
  cases e : cellN ks ns (.tup [a, b, c]) with
  | none => rfl
  | some i => obtain ⟨k, y, e2⟩ := cellN_inv e; cases e2; cases h
theorem cell_p {ks : List Hd} {ns : List Int} {i : Int} {k : Str} {y : D} (h : prsD ns y = none) : cellN ks ns (.tup [.int i, .str k, y]) = none := by
  show (match prsD ns y, kOf ks k with
    | some zs, some kd => if zs = kd.2.filter (fun f => decide (f ∈ zs)) then some i else none
    | _, _ => none) = _
  rw [h]
/-- the items of pairs -/
theorem prsD_inv {ns : List Int} {d : D} {zs : List Str} (h : prsD ns d = some zs) : ∃ ds, d = .tup ds ∧ prs ns ds = some zs := by
  unfold prsD at h
  split at h
  · exact ⟨_, rfl, h⟩
  · cases h
theorem prs_str {S : Sto} {n : Nat} {ns : List Int} {ds : List D} {zs : List Str} (hd : ∀ d ∈ ds, gv S n d) (h : prs ns ds = some zs) : ∀ z ∈ zs, PyData.strOk z = true ∧ z.length ≤ 40 + n := by
  intro z hz
  obtain ⟨j, hj, e⟩ := List.getElem_of_mem hz
  have hl := prs_len h
  have hx : ds[j]? = some (ds[j]'(by omega)) := List.getElem?_eq_getElem (by omega)
  obtain ⟨z', e1, e2⟩ := prs_at h hx
  have : z' = z := by rw [List.getElem?_eq_getElem hj, e] at e1; exact (Option.some.inj e1).symm
  subst this
  obtain ⟨v, e3, _⟩ := pr1_inv e2
  have g := hd _ (List.getElem_mem (by omega : j < ds.length))
  rw [e3] at g
  exact gv_str.mp ((gv_tup.mp g).2 _ List.mem_cons_self)
theorem lc_mp {ds : List D} {S : Sto} {Q : List D → Sto → Prop} {B : (Nat → List D → Sto → Prop) → Nat → List D → D → Sto → Prop} (f : D → D) (hl : ds.length ≤ 1000)
    (hs : ∀ (W : Nat → List D → Sto → Prop) (i : Nat) (x : D) (acc : List D), ds[i]? = some x → W (i + 1) (acc ++ [f x]) S → B W i acc x S) (hd : Q (ds.map f) S) :
    ∃ (W : Nat → List D → Sto → Prop) (n : Nat), W 0 [] S ∧ ∀ i acc S2, W i acc S2 → ∃ r, seqI ds i S2 = some r ∧ (r = none → Q acc S2) ∧ ∀ x, r = some x → i < n ∧ acc.length < sizeLine ∧ B W i acc x S2 :=
  lc_seq (fun i acc S' => S' = S ∧ acc = (ds.take i).map f) ⟨rfl, rfl⟩ (by
    rintro i x acc S' hx ⟨rfl, rfl⟩
    exact ⟨by rw [List.length_map, List.length_take, sizeLine_eq]; omega, hs (fun i acc S2 => S2 = S' ∧ acc = (ds.take i).map f) i x ((ds.take i).map f) hx ⟨rfl, by rw [tk1 hx, List.map_append]; rfl⟩⟩) (by
    rintro i acc S' hi ⟨rfl, rfl⟩
    rw [List.take_of_length_le hi]; exact hd)
theorem lc_fl {ds : List D} {S : Sto} {Q : List D → Sto → Prop} {B : (Nat → List D → Sto → Prop) → Nat → List D → D → Sto → Prop} (p : D → Bool) (hl : ds.length ≤ 1000)
    (hs : ∀ (W : Nat → List D → Sto → Prop) (i : Nat) (x : D) (acc : List D), ds[i]? = some x → (p x = true → W (i + 1) (acc ++ [x]) S) → (p x = false → W (i + 1) acc S) → B W i acc x S) (hd : Q (ds.filter p) S) :
    ∃ (W : Nat → List D → Sto → Prop) (n : Nat), W 0 [] S ∧ ∀ i acc S2, W i acc S2 → ∃ r, seqI ds i S2 = some r ∧ (r = none → Q acc S2) ∧ ∀ x, r = some x → i < n ∧ acc.length < sizeLine ∧ B W i acc x S2 :=
  lc_seq (fun i acc S' => S' = S ∧ acc = (ds.take i).filter p) ⟨rfl, rfl⟩ (by
    rintro i x acc S' hx ⟨rfl, rfl⟩
    refine ⟨by have := List.length_filter_le p (ds.take i); rw [List.length_take] at this; rw [sizeLine_eq]; omega, hs (fun i acc S2 => S2 = S' ∧ acc = (ds.take i).filter p) i x ((ds.take i).filter p) hx (fun h => ⟨rfl, ?_⟩) fun h => ⟨rfl, ?_⟩⟩
    · rw [tk1 hx, List.filter_append, List.filter_cons, if_pos h]; rfl
    · rw [tk1 hx, List.filter_append, List.filter_cons, if_neg (by rw [h]; exact Bool.false_ne_true)]; simp) (by
    rintro i acc S' hi ⟨rfl, rfl⟩
    rw [List.take_of_length_le hi]; exact hd)
theorem all_f {ds : List D} {f : D → Bool} {S : Sto} {Q : KD} (q : Q (.bl (ds.all f)) S) : allD [.fl (ds.map fun d => .bl (f d))] S Q := by
  refine ⟨_, ds.map f, rfl, by unfold lsOf; rw [List.map_map]; rfl, ?_⟩
  rw [List.all_map]
  exact q
theorem in_ws {neg : Bool} {ws : List Str} {w : Str} {y : D} {S : Sto} {Q : KD} (hy : sqOf S y = some (ws.map D.str)) (hn : ∀ z, y ≠ .str z) (hw : PyData.strOk w = true) (hs : ∀ x ∈ ws, PyData.strOk x = true) (q : Q (.bl (xor neg (decide (w ∈ ws)))) S) : inD neg (.str w) y S Q := by
  have hm : ∃ m, ∀ x ∈ ws, x.length ≤ m := by
    clear q hs hy
    induction ws with
    | nil => exact ⟨0, fun x hx => by cases hx⟩
    | cons z zs ih =>
      obtain ⟨m, hm⟩ := ih
      exact ⟨max z.length m, fun x hx => by
        rcases List.mem_cons.mp hx with e | h
        · rw [e]; omega
        · have := hm x h; omega⟩
  obtain ⟨m, hm⟩ := hm
  exact in_of (k := 1) (w := w.length) (k' := 1) (w' := m) (Sm.str hw (Nat.le_refl _)) hy (fun d hd => by
    obtain ⟨x, hx, rfl⟩ := List.mem_map.mp hd
    exact Sm.str (hs x hx) (hm x hx)) (by decide) (by decide) hn (by rw [any_str]; exact q)
theorem lc_fs {xs : List Str} {S : Sto} {Q : List D → Sto → Prop} {B : (Nat → List D → Sto → Prop) → Nat → List D → D → Sto → Prop} (p : Str → Bool) (hl : xs.length ≤ 1000)
    (hs : ∀ (W : Nat → List D → Sto → Prop) (i : Nat) (z : Str) (acc : List D), xs[i]? = some z → (p z = true → W (i + 1) (acc ++ [.str z]) S) → (p z = false → W (i + 1) acc S) → B W i acc (.str z) S) (hd : Q ((xs.filter p).map D.str) S) :
    ∃ (W : Nat → List D → Sto → Prop) (n : Nat), W 0 [] S ∧ ∀ i acc S2, W i acc S2 → ∃ r, seqI (xs.map D.str) i S2 = some r ∧ (r = none → Q acc S2) ∧ ∀ x, r = some x → i < n ∧ acc.length < sizeLine ∧ B W i acc x S2 :=
  lc_seq (fun i acc S' => S' = S ∧ acc = ((xs.take i).filter p).map D.str) ⟨rfl, rfl⟩ (by
    rintro i x acc S' hx ⟨rfl, rfl⟩
    obtain ⟨z, hz, rfl⟩ := map_at hx
    refine ⟨by have := List.length_filter_le p (xs.take i); rw [List.length_take] at this; rw [List.length_map, sizeLine_eq]; omega, hs (fun i acc S2 => S2 = S' ∧ acc = ((xs.take i).filter p).map D.str) i z (((xs.take i).filter p).map D.str) hz (fun h => ⟨rfl, ?_⟩) fun h => ⟨rfl, ?_⟩⟩
    · rw [tk1 hz, List.filter_append, List.filter_cons, if_pos h, List.map_append]; rfl
    · rw [tk1 hz, List.filter_append, List.filter_cons, if_neg (by rw [h]; exact Bool.false_ne_true)]; simp) (by
    rintro i acc S' hi ⟨rfl, rfl⟩
    rw [List.length_map] at hi
    rw [List.take_of_length_le hi]; exact hd)
theorem zip_len {α β γ : Type} (f : α → β → γ) (xs : List α) (ys : List β) : (List.zipWith f xs ys).length = min xs.length ys.length := List.length_zipWith
theorem lc_zip {a b : D} {ds es : List D} {S : Sto} {Q : List D → Sto → Prop} {B : (Nat → List D → Sto → Prop) → Nat → List D → D → Sto → Prop} (f : D → D → D) (h1 : sdOf S a = some ds) (h2 : sdOf S b = some es) (hl : ds.length ≤ 1000)
    (hs : ∀ (W : Nat → List D → Sto → Prop) (i : Nat) (x y : D) (acc : List D), ds[i]? = some x → es[i]? = some y → W (i + 1) (acc ++ [f x y]) S → B W i acc (.tup [x, y]) S) (hd : Q (List.zipWith f ds es) S) :
    ∃ (W : Nat → List D → Sto → Prop) (n : Nat), W 0 [] S ∧ ∀ i acc S2, W i acc S2 → ∃ r, zipMI a b i S2 = some r ∧ (r = none → Q acc S2) ∧ ∀ x, r = some x → i < n ∧ acc.length < sizeLine ∧ B W i acc x S2 := by
  have zl := zip_len f ds es
  refine ⟨fun i acc S' => S' = S ∧ acc = (List.zipWith f ds es).take i ∧ i ≤ (List.zipWith f ds es).length, (List.zipWith f ds es).length, ⟨rfl, rfl, Nat.zero_le _⟩, ?_⟩
  rintro i acc S' ⟨rfl, rfl, hi⟩
  by_cases h : i < (List.zipWith f ds es).length
  · have hx := List.getElem?_eq_getElem (l := ds) (i := i) (by omega)
    have hy := List.getElem?_eq_getElem (l := es) (i := i) (by omega)
    refine ⟨_, zip_at h1 h2 hx hy, fun e => (nomatch e), fun x e => ?_⟩
    cases e
    refine ⟨h, by rw [List.length_take, sizeLine_eq]; omega, hs (fun i acc S2 => S2 = S' ∧ acc = (List.zipWith f ds es).take i ∧ i ≤ (List.zipWith f ds es).length) i _ _ _ hx hy ⟨rfl, ?_, h⟩⟩
    have e : (List.zipWith f ds es)[i]? = some (f (ds[i]'(by omega)) (es[i]'(by omega))) := by rw [List.getElem?_zipWith, hx, hy]
    rw [tk1 e]
  · refine ⟨_, zip_no h1 h2 (by omega) (by omega) (by omega), fun _ => ?_, fun x e => (nomatch e)⟩
    rw [List.take_of_length_le (by omega)]
    exact hd
/-- the first part -/
def nmD : D → D
  | .tup (a :: _) => a
  | _ => .non
theorem nmD_pc (ps : List Pc) : (ps.map pcD).map nmD = (ps.map (·.1)).map D.str := by rw [List.map_map, List.map_map]; rfl
open Classical in
noncomputable def frB (ps : List Pc) (ns : List Int) (d : D) : Bool := decide (FrP ps ns d)
theorem frB_iff {ps : List Pc} {ns : List Int} {d : D} : frB ps ns d = true ↔ FrP ps ns d := by unfold frB; simp
theorem frB_no {ps : List Pc} {ns : List Int} {d : D} (h : ¬ FrP ps ns d) : frB ps ns d = false := by
  cases e : frB ps ns d with
  | true => exact absurd (frB_iff.mp e) h
  | false => rfl
open Classical in
noncomputable def stB (ks : List Hd) (ps : List Pc) (d : D) : Bool := decide (StP ks ps d)
theorem stB_iff {ks : List Hd} {ps : List Pc} {d : D} : stB ks ps d = true ↔ StP ks ps d := by unfold stB; simp
theorem stB_no {ks : List Hd} {ps : List Pc} {d : D} (h : ¬ StP ks ps d) : stB ks ps d = false := by
  cases e : stB ks ps d with
  | true => exact absurd (stB_iff.mp e) h
  | false => rfl
def mainF (fs : List D) : Bool := match fs with
  | [] => true
  | f :: _ => isMain f
/-- the frames of a state, put another way -/
noncomputable def frsB (ps : List Pc) (ns : List Int) (fs : List D) : Bool := fs.all (frB ps ns) && (mainF fs && (List.zipWith (waits ps) fs (fs.drop 1)).all id)
noncomputable def frsD (ps : List Pc) (ns : List Int) : D → Bool
  | .tup fs => frsB ps ns fs
  | _ => false
theorem frsD_no {ps : List Pc} {ns : List Int} {d : D} (h : isTp d = false) : frsD ps ns d = false := by
  unfold frsD
  split
  · cases h
  · rfl
theorem frsB_iff {ps : List Pc} {ns : List Int} {fs : List D} : frsB ps ns fs = true ↔ FrsP ps ns fs := by
  unfold frsB
  rw [Bool.and_eq_true, Bool.and_eq_true, List.all_eq_true, List.all_eq_true]
  constructor
  · rintro ⟨h1, h2, h3⟩
    refine ⟨fun j f e => frB_iff.mp (h1 f (List.mem_of_getElem? e)), fun f e => ?_, fun j f g e1 e2 => ?_⟩
    · cases fs with
      | nil => simp at e
      | cons a r => cases e; exact h2
    · refine h3 _ (List.mem_of_getElem? (i := j) ?_)
      rw [List.getElem?_zipWith, e1, List.getElem?_drop, show 1 + j = j + 1 by omega, e2]
      rfl
  · rintro ⟨h1, h2, h3⟩
    refine ⟨fun f hf => ?_, ?_, fun b hb => ?_⟩
    · obtain ⟨j, hj, e⟩ := List.getElem_of_mem hf
      exact frB_iff.mpr (h1 j f (by rw [List.getElem?_eq_getElem hj, e]))
    · cases fs with
      | nil => rfl
      | cons a r => exact h2 a rfl
    · obtain ⟨j, hj, e⟩ := List.getElem_of_mem hb
      have e2 : (List.zipWith (waits ps) fs (fs.drop 1))[j]? = some b := by rw [List.getElem?_eq_getElem hj, e]
      rw [List.getElem?_zipWith, List.getElem?_drop] at e2
      cases e3 : fs[j]? with
      | none => rw [e3] at e2; cases e2
      | some f =>
        cases e4 : fs[1 + j]? with
        | none => rw [e3, e4] at e2; cases e2
        | some g =>
          rw [e3, e4] at e2
          rw [show 1 + j = j + 1 by omega] at e4
          have : waits ps f g = b := Option.some.inj e2
          rw [← this]
          exact h3 j f g e3 e4
theorem stB_of {ks : List Hd} {ps : List Pc} {a b : D} {m : Int} {ns : List Int} (h0 : 0 ≤ m) (e : cellsD ks m b = some ns) : stB ks ps (.tup [a, b, .int m]) = frsD ps ns a := by
  have no : (∀ fs, a = .tup fs → frsB ps ns fs = false) → stB ks ps (.tup [a, b, .int m]) = false := fun h => by
    refine stB_no ?_
    rintro ⟨fs', c', m', ns', e2, h0, h1, h2⟩
    cases e2
    rw [e] at h1
    cases h1
    have := h _ rfl
    rw [frsB_iff.mpr h2] at this
    cases this
  cases a with
  | tup fs =>
    show _ = frsB ps ns fs
    cases hF : frsB ps ns fs with
    | true => exact stB_iff.mpr ⟨fs, b, m, ns, rfl, h0, e, frsB_iff.mp hF⟩
    | false => exact no fun fs' e => by cases e; exact hF
  | fl l => exact no fun fs' e => nomatch e
  | wt l => exact no fun fs' e => nomatch e
  | «at» v => exact no fun fs' e => nomatch e
theorem eq_ss {neg : Bool} {x y : Str} {S : Sto} {Q : KD} (q : Q (.bl (xor neg (decide (x = y)))) S) : eqD neg (.str x) (.str y) S Q := q
theorem cut_drop (l : List D) (k : Nat) : DL.cutD l (some (k : Int)) none = l.drop k := by
  unfold DL.cutD HT.sIx
  dsimp only
  rw [if_neg (by omega)]
  have e : (k : Int).toNat = k := by omega
  rw [e]
  by_cases h : k ≤ l.length
  · rw [Nat.min_eq_left h, List.take_of_length_le (by rw [List.length_drop]; exact Nat.le_refl _)]
  · rw [Nat.min_eq_right (by omega), Nat.sub_self, List.drop_eq_nil_of_le (show l.length ≤ k by omega)]
    rfl
end K10


namespace K10
open PySem L2 PyProof.Rows DL
def sp_is_value : SpD := fun ds S Q _ => ∃ (n : Nat) (d : D) (A : Addr) (ns : List Int), ds = [d, .ref A] ∧ gv S n d ∧ n ≤ 10 ∧ S A = some (.dk (kvI ns)) ∧ Q (.bl (valF ns d)) S
theorem ok_is_value {P : Program} {w : World} {K : PySem.W.Frag} {mg : Str → Option Value} {base : Heap} (T : Txt K w mg) (C_is_number : Cal P w K mg base 2 "is_number" s_is_number ["thing"] sp_is_number) (C_is_integer : Cal P w K mg base 1 "is_integer" s_is_integer ["thing"] sp_is_integer) {ff : Addr} {fd : FuncData} (F : Fun K "is_value" "is_value" s_is_value ff fd) (mf : mg "is_value" = some (.ref ff)) : Cal P w K mg base 3 "is_value" s_is_value ["thing", "numbers"] sp_is_value := by
  refine ⟨ff, fd, okD F sc_is_value (fun ds S Q E h => ?len) (fun cdv A outer s H E ds S Q E' hcd hr h => ⟨_, (dss_cons (ds_if (dt_tr td_tru (de_isi (tn := "tuple") (by rfl) T.nb_isinstance (by rfl) T.nb_tuple (de_var 0))) (dss_cons (ds_if (dw_or (dt_cmp (od_ne hr) (de_callB cd_len (by rfl) T.nb_len (da_cons (de_var 0) da_nil)) de_int) (dw_or (dt_not (dt_tr td_tru (de_isi (tn := "str") (by rfl) T.nb_isinstance (by rfl) T.nb_str (de_ix (xd_ix hr) (de_var 0) de_int)))) (dw_or1 (dt_cmp (od_ne hr) (de_ix (xd_ix hr) (de_var 0) de_int) de_str)))).pt (dss_one (ds_ret de_bl)) dss_nil)
      (dss_one (ds_ret (de_and (de_c C_is_integer hr (da_cons (de_ix (xd_ix hr) (de_var 0) de_int) da_nil)) (de_one (de_cmp (od_in hr) (de_ix (xd_ix hr) (de_var 0) de_int) (de_var 1))))))) dss_nil)
      (dss_one (ds_ret (de_or (de_cmp od_is (de_var 0) de_non) (de_one (de_c C_is_number hr (da_cons (de_var 0) da_nil))))))), ?run⟩), F.binds (ps := ["thing", "numbers"]) fun _ _ _ _ _ _ us hl => match us, hl with | [_, _], _ => rfl, mf, F⟩
  case len => obtain ⟨n, d, A, ns, rfl, _⟩ := h; rfl
  case run =>
    obtain ⟨n, d, A, ns, rfl, h⟩ := h
    simp only [dVar, dC, dOp, dUn, dChain, dTr, dB, dAnd, dOr, dNot, dIf, dAndV, dOrV, dNotV, dNil, dCons, dTup, dLst, dLf, dNext, dSeq, dBreak, dCont, dDrop, dRet, dRetN, dIfS, gdName, gdNil, gdCons, gdTup, gdSub, dAsg, dPar, dCall, dCallK, dCB, dM0, dM, dGet1, dGet2, dDk, dDt, dPart, dNoPart, dSlice, dAug, dYes, dSort2, revD, iTupD, iLstD, iLf, iLw, iRange1, iRange2, iRange3, iEnumD, iZipD, iZipMD, iStrD, dGix, dDc, dIsi, dSortSet, dLenSet, dDlit, gdLst, dFor, dWhile, dLc, dLcM, dFld, dFldSet, dFldAdd, dMeth, dMake, dPar3, dDisp, dPrs, dFsi, dGget, dKgt, dKgtL, dDz, iEnumMD, dCut, dTcut, wipeD, bodyE, startD, List.map_cons, List.map_nil, List.length_cons, List.length_nil, List.replicate_succ, List.replicate_zero, List.cons_append, List.nil_append, Nat.reduceAdd, Nat.reduceSub, Nat.zero_add, List.getElem?_cons_zero, List.getElem?_cons_succ, List.set_cons_zero, List.set_cons_succ, Option.some.injEq, exists_eq_left', exists_eq_left, if_true, sizeLine_eq, Nat.reduceLeDiff, Nat.reduceLT, Nat.zero_le, true_and, and_true, Bool.false_eq_true, if_false]
    obtain ⟨hd, hn, hA, q⟩ := h
    refine ty_tp hd (fun ds e => ?_) fun e => ?_
    · subst e
      obtain ⟨_, hds⟩ := gv_tup.mp hd
      refine brT rfl (len_ne (fun h => rt_of (by rw [val_len h] at q; exact q)) fun h => ?_)
      obtain ⟨a, b, rfl⟩ := two h
      have ha := hds a (by simp)
      have hb := hds b (by simp)
      refine ix_sq rfl rfl at_0 (ty_s ha (fun z e => ?_) fun e => brT rfl (rt_of (by rw [val_a (fun z => by rw [z] at e; cases e)] at q; exact q)))
      subst e
      refine brF rfl (ix_sq rfl rfl at_0 ⟨_, rfl, br2 (fun h => rt_of ?_) fun h => ?_⟩)
      · have h := of_nxt h
        rw [val_a (fun z => h (by cases z; rfl))] at q
        exact q
      · have h := of_nxf h
        subst h
        refine ix_sq rfl rfl (at_n (i := 1) rfl) (is_int hb (fun i e => ?_) fun e => ⟨_, rfl, brF rfl (rt_of (by rw [val_b e] at q; exact q))⟩)
        subst e
        exact ⟨_, rfl, brT rfl (ix_sq rfl rfl (at_n (i := 1) rfl) (in_kvI hA (rt_of (by rw [val_cell] at q; rw [Bool.false_xor]; exact q))))⟩
    · refine brF rfl ⟨rfl, _, rfl, br2 (fun h => rt_of ?_) fun h => ⟨d, n, rfl, hd, rt_of ?_⟩⟩
      · have h : d = .non := of_xt h
        subst h
        exact q
      · have h : d ≠ .non := of_xf h
        rw [val_else e h] at q
        exact q
def sp_are_pairs : SpD := fun ds S Q _ => ∃ (n : Nat) (d : D) (A : Addr) (ns : List Int), ds = [d, .ref A] ∧ gv S n d ∧ n ≤ 10 ∧ S A = some (.dk (kvI ns)) ∧ Q (.bl (prsD ns d).isSome) S
theorem ok_are_pairs {P : Program} {w : World} {K : PySem.W.Frag} {mg : Str → Option Value} {base : Heap} (T : Txt K w mg) (C_is_value : Cal P w K mg base 3 "is_value" s_is_value ["thing", "numbers"] sp_is_value) {ff : Addr} {fd : FuncData} (F : Fun K "are_pairs" "are_pairs" s_are_pairs ff fd) (mf : mg "are_pairs" = some (.ref ff)) : Cal P w K mg base 4 "are_pairs" s_are_pairs ["thing", "numbers"] sp_are_pairs := by
  refine ⟨ff, fd, okD F sc_are_pairs (fun ds S Q E h => ?len) (fun cdv A outer s H E ds S Q E' hcd hr h => ⟨_, (dss_cons (ds_if (dt_not (dt_tr td_tru (de_isi (tn := "tuple") (by rfl) T.nb_isinstance (by rfl) T.nb_tuple (de_var 0)))) (dss_one (ds_ret de_bl)) dss_nil)
      (dss_cons (ds_for PassesOwn.never rfl (di_tup (de_var 0)) (dg_name 2 sc_are_pairs.nd) (dss_cons (ds_if (dw_or (dt_not (dt_tr td_tru (de_isi (tn := "tuple") (by rfl) T.nb_isinstance (by rfl) T.nb_tuple (de_var 2)))) (dw_or (dt_cmp (od_ne hr) (de_callB cd_len (by rfl) T.nb_len (da_cons (de_var 2) da_nil)) de_int) (dw_or1 (dt_not (dt_tr td_tru (de_isi (tn := "str") (by rfl) T.nb_isinstance (by rfl) T.nb_str (de_ix (xd_ix hr) (de_var 2) de_int))))))).pt (dss_one (ds_ret de_bl)) dss_nil)
      (dss_one (ds_if (dt_not (dt_tr td_tru (de_c C_is_value hr (da_cons (de_ix (xd_ix hr) (de_var 2) de_int) (da_cons (de_var 1) da_nil))))) (dss_one (ds_ret de_bl)) dss_nil))))
      (dss_one (ds_ret de_bl)))), ?run⟩), F.binds (ps := ["thing", "numbers"]) fun _ _ _ _ _ _ us hl => match us, hl with | [_, _], _ => rfl, mf, F⟩
  case len => obtain ⟨n, d, A, ns, rfl, _⟩ := h; rfl
  case run =>
    obtain ⟨n, d, A, ns, rfl, h⟩ := h
    simp only [dVar, dC, dOp, dUn, dChain, dTr, dB, dAnd, dOr, dNot, dIf, dAndV, dOrV, dNotV, dNil, dCons, dTup, dLst, dLf, dNext, dSeq, dBreak, dCont, dDrop, dRet, dRetN, dIfS, gdName, gdNil, gdCons, gdTup, gdSub, dAsg, dPar, dCall, dCallK, dCB, dM0, dM, dGet1, dGet2, dDk, dDt, dPart, dNoPart, dSlice, dAug, dYes, dSort2, revD, iTupD, iLstD, iLf, iLw, iRange1, iRange2, iRange3, iEnumD, iZipD, iZipMD, iStrD, dGix, dDc, dIsi, dSortSet, dLenSet, dDlit, gdLst, dFor, dWhile, dLc, dLcM, dFld, dFldSet, dFldAdd, dMeth, dMake, dPar3, dDisp, dPrs, dFsi, dGget, dKgt, dKgtL, dDz, iEnumMD, dCut, dTcut, wipeD, bodyE, startD, List.map_cons, List.map_nil, List.length_cons, List.length_nil, List.replicate_succ, List.replicate_zero, List.cons_append, List.nil_append, Nat.reduceAdd, Nat.reduceSub, Nat.zero_add, List.getElem?_cons_zero, List.getElem?_cons_succ, List.set_cons_zero, List.set_cons_succ, Option.some.injEq, exists_eq_left', exists_eq_left, if_true, sizeLine_eq, Nat.reduceLeDiff, Nat.reduceLT, Nat.zero_le, true_and, and_true, Bool.false_eq_true, if_false]
    obtain ⟨hd, hn, hA, q⟩ := h
    refine ty_tp hd (fun xs e => ?_) fun e => brT rfl (rt_of (by rw [prsD_tp e] at q; exact q))
    subst e
    obtain ⟨_, hds⟩ := gv_tup.mp hd
    refine brF rfl ⟨xs, .inl rfl, fr_seq (fun i δ S' => ∃ r, δ = [some (.tup xs), some (.ref A), r] ∧ S' = S ∧ (prs ns (xs.take i)).isSome = true) ⟨_, rfl, rfl, rfl⟩ ?_ ?_⟩
    · rintro i x δ S' hx ⟨r, rfl, rfl, hp⟩
      have hm := List.mem_of_getElem? hx
      have hv := hds x hm
      have no : pr1 ns x = none → ∃ d1 S1, VW (D.bl false) S' d1 S1 ∧ Q d1 S1 := fun e => rt_of (by
        have e2 : prsD ns (.tup xs) = none := prs_none hm e
        rw [e2] at q
        exact q)
      refine ⟨_, rfl, ty_tp hv (fun ys e => ?_) fun e => brT rfl (no (pr1_tp e))⟩
      subst e
      obtain ⟨_, hys⟩ := gv_tup.mp hv
      refine brF rfl ⟨_, rfl, len_ne (fun h => no (pr1_len h)) fun h => ?_⟩
      obtain ⟨a, b, rfl⟩ := two h
      have ha := hys a (by simp)
      have hb := hys b (by simp)
      refine ⟨_, rfl, ix_sq rfl rfl at_0 (ty_s ha (fun z e => ?_) fun e => brT rfl (no (pr1_s e)))⟩
      subst e
      refine brF rfl ⟨_, rfl, ix_sq rfl rfl (at_n (i := 1) rfl) ⟨_, rfl, n, b, A, ns, rfl, hb, hn, hA, ?_⟩⟩
      refine tru_b ?_
      cases hV : valF ns b with
      | false => exact brT rfl (no (by rw [pr1_of, hV]; rfl))
      | true =>
        refine brF rfl ⟨_, rfl, rfl, ?_⟩
        rw [tk1 hx, prs_snoc, pr1_of, hV]
        cases hq : prs ns (xs.take i) with
        | none => rw [hq] at hp; cases hp
        | some zs => rfl
    · rintro i δ S' hi ⟨r, rfl, rfl, hp⟩
      rw [List.take_of_length_le hi] at hp
      refine rt_of ?_
      have e : (prsD ns (.tup xs)).isSome = true := hp
      rw [e] at q
      exact q
def sp_is_cell_of : SpD := fun ds S Q _ => ∃ (n : Nat) (d : D) (A : Addr) (ns : List Int) (ks : List Hd) (ps : List Pc), ds = [prD (.tup (ks.map hdD)) ps, d, .ref A] ∧ gv S n d ∧ n ≤ 10 ∧ PrOk ks ps ∧ S A = some (.dk (kvI ns)) ∧ Q (.bl (cellN ks ns d).isSome) S
theorem ok_is_cell_of {P : Program} {w : World} {K : PySem.W.Frag} {mg : Str → Option Value} {base : Heap} (T : Txt K w mg) (C_kind_of : Cal P w K mg base 1 "kind_of" s_kind_of ["program", "name"] sp_kind_of) (C_is_integer : Cal P w K mg base 1 "is_integer" s_is_integer ["thing"] sp_is_integer) (C_are_pairs : Cal P w K mg base 4 "are_pairs" s_are_pairs ["thing", "numbers"] sp_are_pairs) {ff : Addr} {fd : FuncData} (F : Fun K "is_cell_of" "is_cell_of" s_is_cell_of ff fd) (mf : mg "is_cell_of" = some (.ref ff)) : Cal P w K mg base 5 "is_cell_of" s_is_cell_of ["program", "thing", "numbers"] sp_is_cell_of := by
  refine ⟨ff, fd, okD F sc_is_cell_of (fun ds S Q E h => ?len) (fun cdv A outer s H E ds S Q E' hcd hr h => ⟨_, (dss_cons (ds_if (dw_or (dt_not (dt_tr td_tru (de_isi (tn := "tuple") (by rfl) T.nb_isinstance (by rfl) T.nb_tuple (de_var 1)))) (dw_or (dt_cmp (od_ne hr) (de_callB cd_len (by rfl) T.nb_len (da_cons (de_var 1) da_nil)) de_int) (dw_or1 (dt_not (dt_tr td_tru (de_c C_is_integer hr (da_cons (de_ix (xd_ix hr) (de_var 1) de_int) da_nil))))))).pt (dss_one (ds_ret de_bl)) dss_nil)
      (dss_cons (ds_if (dw_or (dt_not (dt_tr td_tru (de_isi (tn := "str") (by rfl) T.nb_isinstance (by rfl) T.nb_str (de_ix (xd_ix hr) (de_var 1) de_int)))) (dw_or1 (dt_not (dt_tr td_tru (de_c C_are_pairs hr (da_cons (de_ix (xd_ix hr) (de_var 1) de_int) (da_cons (de_var 2) da_nil))))))).pt (dss_one (ds_ret de_bl)) dss_nil)
      (dss_cons (ds_set 3 sc_is_cell_of.nd (de_c C_kind_of hr (da_cons (de_var 0) (da_cons (de_ix (xd_ix hr) (de_var 1) de_int) da_nil))))
      (dss_cons (ds_if (dt_cmp od_is (de_var 3) de_non) (dss_one (ds_ret de_bl)) dss_nil)
      (dss_cons (ds_set 4 sc_is_cell_of.nd (de_lc [("field", 5), ("value", 6)] rfl sc_is_cell_of.nd (di_tup (de_ix (xd_ix hr) (de_var 1) de_int)) (blkOk_by (N := ["program", "thing", "numbers", "kind", "names", "field", "value"]) (sc := defScope s_is_cell_of) (by decide +kernel)) (fun _ _ _ _ _ => (pg_tup (n := 2) rfl (pgs_cons (pg_name (i := 5) sc_is_cell_of.nd rfl (Or.inl rfl) (Or.inr rfl)) (pgs_cons (pg_name (i := 6) sc_is_cell_of.nd rfl (Or.inl rfl) (Or.inr rfl)) pgs_nil)))) (fun N => (tg_tup (vs := [5, 6]) (n := 2) (tgs_cons (vs := [5, 6]) (i := 5) (by decide) (tgs_cons (vs := [5, 6]) (i := 6) (by decide) (tgs_nil (vs := [5, 6])))))) (fun _ _ _ _ _ => dts_nil) (fun _ _ _ _ _ => (de_var 5))))
      (dss_one (ds_ret (de_cmp (od_eq hr) (de_var 4) (de_lc [("field", 5)] rfl sc_is_cell_of.nd (di_tup (de_ix (xd_ix hr) (de_var 3) de_int)) (blkOk_by (N := ["program", "thing", "numbers", "kind", "names", "field", "value"]) (sc := defScope s_is_cell_of) (by decide +kernel)) (fun _ _ _ _ _ => (pg_name (i := 5) sc_is_cell_of.nd rfl (Or.inl rfl) (Or.inr rfl))) (fun N => (tg_name (vs := [5]) (i := 5) (by decide))) (fun _ _ _ _ _ => pts_one (dt_cmp (od_in hr) (de_var 5) (de_var 4))) (fun _ _ _ _ _ => (de_var 5))))))))))), ?run⟩), F.binds (ps := ["program", "thing", "numbers"]) fun _ _ _ _ _ _ us hl => match us, hl with | [_, _, _], _ => rfl, mf, F⟩
  case len => obtain ⟨n, d, A, ns, ks, ps, rfl, _⟩ := h; rfl
  case run =>
    obtain ⟨n, d, A, ns, ks, ps, rfl, h⟩ := h
    simp only [dVar, dC, dOp, dUn, dChain, dTr, dB, dAnd, dOr, dNot, dIf, dAndV, dOrV, dNotV, dNil, dCons, dTup, dLst, dLf, dNext, dSeq, dBreak, dCont, dDrop, dRet, dRetN, dIfS, gdName, gdNil, gdCons, gdTup, gdSub, dAsg, dPar, dCall, dCallK, dCB, dM0, dM, dGet1, dGet2, dDk, dDt, dPart, dNoPart, dSlice, dAug, dYes, dSort2, revD, iTupD, iLstD, iLf, iLw, iRange1, iRange2, iRange3, iEnumD, iZipD, iZipMD, iStrD, dGix, dDc, dIsi, dSortSet, dLenSet, dDlit, gdLst, dFor, dWhile, dLc, dLcM, dFld, dFldSet, dFldAdd, dMeth, dMake, dPar3, dDisp, dPrs, dFsi, dGget, dKgt, dKgtL, dDz, iEnumMD, dCut, dTcut, wipeD, bodyE, startD, List.map_cons, List.map_nil, List.length_cons, List.length_nil, List.replicate_succ, List.replicate_zero, List.cons_append, List.nil_append, Nat.reduceAdd, Nat.reduceSub, Nat.zero_add, List.getElem?_cons_zero, List.getElem?_cons_succ, List.set_cons_zero, List.set_cons_succ, Option.some.injEq, exists_eq_left', exists_eq_left, if_true, sizeLine_eq, Nat.reduceLeDiff, Nat.reduceLT, Nat.zero_le, true_and, and_true, Bool.false_eq_true, if_false]
    obtain ⟨hd, hn, ok, hA, q⟩ := h
    have no : cellN ks ns d = none → ∃ d1 S1, VW (D.bl false) S d1 S1 ∧ Q d1 S1 := fun e => rt_of (by
      rw [e] at q
      exact q)
    refine ty_tp hd (fun xs e => ?_) fun e => brT rfl (no (cell_tp e))
    subst e
    obtain ⟨_, hds⟩ := gv_tup.mp hd
    refine brF rfl (len_ne (m := 3) (fun h => no (cell_len h)) fun hlen => ?_)
    obtain ⟨a, b, c, rfl⟩ := three hlen
    have ha := hds a (by simp)
    have hb := hds b (by simp)
    have hc := hds c (by simp)
    refine ix_sq rfl rfl at_0 (is_int ha (fun i e => ?_) fun e => tru_b (brT rfl (no (cell_i e))))
    subst e
    refine tru_b (brF rfl (ix_sq rfl rfl (at_n (i := 1) rfl) (ty_s hb (fun k e => ?_) fun e => brT rfl (no (cell_s e)))))
    subst e
    refine brF rfl (ix_sq rfl rfl (at_n (i := 2) rfl) ⟨n, c, A, ns, rfl, hc, hn, hA, tru_b ?_⟩)
    cases hP : prsD ns c with
    | none => exact brT rfl (no (cell_p hP))
    | some zs =>
      refine brF rfl (ix_sq rfl rfl (at_n (i := 1) rfl) ⟨ks, ps, k, rfl, ok, rfl, _, rfl, ?_⟩)
      cases hK : kOf ks k with
      | none => exact brT rfl (no (cellN_nok hK))
      | some kd =>
        obtain ⟨ds, rfl, hp⟩ := prsD_inv hP
        have hcs := (gv_tup.mp hc).2
        have hcl := (gv_tup.mp hc).1
        have zl := prs_len hp
        have zok := prs_str hcs hp
        have hkd : kd ∈ ks := (List.mem_filter.mp (List.mem_of_getElem? hK)).1
        obtain ⟨_, k4, kok⟩ := ok.kok kd hkd
        refine brF rfl (ix_sq rfl rfl (at_n (i := 2) rfl) ⟨ds, .inl rfl, lc_seq (fun i acc S' => S' = S ∧ acc = (zs.take i).map D.str) ⟨rfl, rfl⟩ ?_ ?_⟩)
        · rintro i x acc S' hx ⟨rfl, rfl⟩
          obtain ⟨z, hz, e⟩ := prs_at hp hx
          obtain ⟨v, rfl, _⟩ := pr1_inv e
          refine ⟨by rw [List.length_map, List.length_take, sizeLine_eq]; omega, _, rfl, rfl, _, _, rfl, _, _, rfl, rfl, rfl, ?_⟩
          rw [tk1 hz, List.map_append]; rfl
        · rintro j acc S' hi ⟨rfl, rfl⟩
          rw [List.take_of_length_le (by omega)]
          refine ix_sq (x := hdD kd) rfl rfl (at_n (i := 1) rfl) ⟨_, .inl rfl, lc_fs (fun z => decide (z ∈ zs)) (by omega) (fun W i z acc hz w1 w2 => ?_) ?_⟩
          · exact in_ws (ws := zs) rfl (fun z e => nomatch e) (kok z (List.mem_of_getElem? hz)).1 (fun x hx => (zok x hx).1) ⟨_, rfl, br2 (fun h => w1 (by rw [Bool.false_xor] at h; exact h)) fun h => w2 (by rw [Bool.false_xor] at h; exact h)⟩
          · refine eq_strs (fun x hx => (zok x hx).1) (fun x hx => (kok x (List.mem_filter.mp hx).1).1) (rt_of ?_)
            have e : (cellN ks ns (.tup [.int i, .str k, .tup ds])).isSome = decide (zs = kd.2.filter fun z => decide (z ∈ zs)) := by
              show (match prsD ns (.tup ds), kOf ks k with
                | some zs, some kd => if zs = kd.2.filter (fun f => decide (f ∈ zs)) then some i else none
                | _, _ => none).isSome = _
              rw [hP, hK]
              dsimp only
              split
              · rename_i h; rw [decide_eq_true h]; rfl
              · rename_i h; rw [decide_eq_false h]; rfl
            rw [e] at q
            rw [Bool.false_xor]
            exact q
def sp_cell_numbers : SpD := fun ds S Q _ => ∃ (n : Nat) (d : D) (m : Int) (ks : List Hd) (ps : List Pc), ds = [prD (.tup (ks.map hdD)) ps, d, .int m] ∧ gv S n d ∧ n ≤ 10 ∧ PrOk ks ps ∧ (cellsD ks m d = none → Q .non S) ∧ ∀ ns A, cellsD ks m d = some ns → S A = none → Q (.ref A) (up S A (.dk (kvI ns)))
theorem ok_cell_numbers {P : Program} {w : World} {K : PySem.W.Frag} {mg : Str → Option Value} {base : Heap} (T : Txt K w mg) (C_is_cell_of : Cal P w K mg base 5 "is_cell_of" s_is_cell_of ["program", "thing", "numbers"] sp_is_cell_of) {ff : Addr} {fd : FuncData} (F : Fun K "cell_numbers" "cell_numbers" s_cell_numbers ff fd) (mf : mg "cell_numbers" = some (.ref ff)) : Cal P w K mg base 6 "cell_numbers" s_cell_numbers ["program", "thing", "made"] sp_cell_numbers := by
  refine ⟨ff, fd, okD F sc_cell_numbers (fun ds S Q E h => ?len) (fun cdv A outer s H E ds S Q E' hcd hr h => ⟨_, (dss_cons (ds_if (dt_not (dt_tr td_tru (de_isi (tn := "tuple") (by rfl) T.nb_isinstance (by rfl) T.nb_tuple (de_var 1)))) (dss_one (ds_ret de_non)) dss_nil)
      (dss_cons (ds_set 3 sc_cell_numbers.nd de_dk)
      (dss_cons (ds_set 4 sc_cell_numbers.nd (de_un ud_neg de_int))
      (dss_cons (ds_for PassesOwn.never rfl (di_tup (de_var 1)) (dg_name 5 sc_cell_numbers.nd) (dss_cons (ds_if (dw_or (dt_not (dt_tr td_tru (de_c C_is_cell_of hr (da_cons (de_var 0) (da_cons (de_var 5) (da_cons (de_var 3) da_nil)))))) (dw_or1 (dt_not (dt_chain od_lt od_lt (de_var 4) (de_ix (xd_ix hr) (de_var 5) de_int) (de_var 2))))).pt (dss_one (ds_ret de_non)) dss_nil)
      (dss_cons (ds_set 4 sc_cell_numbers.nd (de_ix (xd_ix hr) (de_var 5) de_int))
      (dss_one (ds_asg de_bl (dg_sub hr (de_var 3) (de_var 4)))))))
      (dss_one (ds_ret (de_var 3))))))), ?run⟩), F.binds (ps := ["program", "thing", "made"]) fun _ _ _ _ _ _ us hl => match us, hl with | [_, _, _], _ => rfl, mf, F⟩
  case len => obtain ⟨n, d, m, ks, ps, rfl, _⟩ := h; rfl
  case run =>
    obtain ⟨n, d, m, ks, ps, rfl, h⟩ := h
    simp only [dVar, dC, dOp, dUn, dChain, dTr, dB, dAnd, dOr, dNot, dIf, dAndV, dOrV, dNotV, dNil, dCons, dTup, dLst, dLf, dNext, dSeq, dBreak, dCont, dDrop, dRet, dRetN, dIfS, gdName, gdNil, gdCons, gdTup, gdSub, dAsg, dPar, dCall, dCallK, dCB, dM0, dM, dGet1, dGet2, dDk, dDt, dPart, dNoPart, dSlice, dAug, dYes, dSort2, revD, iTupD, iLstD, iLf, iLw, iRange1, iRange2, iRange3, iEnumD, iZipD, iZipMD, iStrD, dGix, dDc, dIsi, dSortSet, dLenSet, dDlit, gdLst, dFor, dWhile, dLc, dLcM, dFld, dFldSet, dFldAdd, dMeth, dMake, dPar3, dDisp, dPrs, dFsi, dGget, dKgt, dKgtL, dDz, iEnumMD, dCut, dTcut, wipeD, bodyE, startD, List.map_cons, List.map_nil, List.length_cons, List.length_nil, List.replicate_succ, List.replicate_zero, List.cons_append, List.nil_append, Nat.reduceAdd, Nat.reduceSub, Nat.zero_add, List.getElem?_cons_zero, List.getElem?_cons_succ, List.set_cons_zero, List.set_cons_succ, Option.some.injEq, exists_eq_left', exists_eq_left, if_true, sizeLine_eq, Nat.reduceLeDiff, Nat.reduceLT, Nat.zero_le, true_and, and_true, Bool.false_eq_true, if_false]
    obtain ⟨hd, hn, ok, q0, q⟩ := h
    refine ty_tp hd (fun xs e => ?_) fun e => brT rfl (rt_of (q0 (by
      unfold cellsD
      split
      · cases e
      · rfl)))
    subst e
    obtain ⟨hl, hds⟩ := gv_tup.mp hd
    refine brF rfl fun p np => neg_i ⟨xs, .inl rfl, fr_seq (fun i δ S' => ∃ ns last r, δ = [some (prD (.tup (ks.map hdD)) ps), some (.tup xs), some (.int m), some (.ref p), some (.int last), r] ∧ S' = up S p (.dk (kvI ns)) ∧ ns.length = i ∧ (∀ x ∈ ns, x ≤ last) ∧ cellsD ks m (.tup xs) = cellsF ks m (xs.drop i) ns last) ⟨[], -1, none, rfl, rfl, rfl, (fun x h => (nomatch h)), rfl⟩ ?_ ?_⟩
    · rintro i x δ S' hx ⟨ns, last, r, rfl, rfl, hnl, hle, hc⟩
      have hi := (List.getElem?_eq_some_iff.mp hx).1
      have hv := hds x (List.mem_of_getElem? hx)
      have ed : xs.drop i = x :: xs.drop (i + 1) := by
        obtain ⟨h1, h2⟩ := List.getElem?_eq_some_iff.mp hx
        rw [← h2, List.getElem_cons_drop]
      rw [ed] at hc
      unfold cellsF at hc
      have no : cellsD ks m (.tup xs) = none → ∃ d1 S1, VW D.non (up S p (.dk (kvI ns))) d1 S1 ∧ Q d1 S1 := fun e => rt_up np (q0 e)
      refine ⟨_, rfl, _, rfl, _, rfl, n, x, p, ns, ks, ps, rfl, gv_le (Kp.up' np) (Nat.le_refl _) hv, hn, ok, up_same, tru_b ?_⟩
      cases hN : cellN ks ns x with
      | none => exact brT rfl (no (by rw [hN] at hc; exact hc))
      | some j =>
        obtain ⟨k, y, rfl⟩ := cellN_inv hN
        rw [hN] at hc
        dsimp only at hc
        refine brF rfl ⟨_, rfl, _, rfl, ix_sq rfl rfl at_0 ?_⟩
        by_cases h1 : last < j
        · refine ⟨_, rfl, brT (decide_eq_true h1) ⟨_, rfl, ?_⟩⟩
          by_cases h2 : j < m
          · rw [if_pos ⟨h1, h2⟩] at hc
            refine ⟨_, rfl, brF (by rw [decide_eq_true h2]; rfl) ⟨_, rfl, ix_sq rfl rfl at_0 ⟨_, rfl, _, rfl, p, rfl, .inr (.inl ⟨_, .inl j, up_same, rfl, by unfold kvI; rw [List.length_map, sizeLine_eq]; omega, ?_⟩)⟩⟩⟩
            have nin : j ∉ ns := fun h => by have := hle j h; omega
            refine ⟨ns ++ [j], j, _, rfl, by rw [up_up, put_kvI nin], by rw [List.length_append, hnl]; rfl, fun x hx => ?_, hc⟩
            rcases List.mem_append.mp hx with h | h
            · have := hle x h; omega
            · rw [List.mem_singleton.mp h]; omega
          · rw [if_neg (fun z => h2 z.2)] at hc
            exact ⟨_, rfl, brT (by rw [decide_eq_false h2]; rfl) (no hc)⟩
        · rw [if_neg (fun z => h1 z.1)] at hc
          exact ⟨_, rfl, brF (decide_eq_false h1) ⟨_, rfl, brT rfl (no hc)⟩⟩
    · rintro i δ S' hi ⟨ns, last, r, rfl, rfl, hnl, hle, hc⟩
      rw [List.drop_of_length_le hi] at hc
      exact ⟨_, rfl, rt_of (q ns p hc np)⟩
def sp_is_frame : SpD := fun ds S Q _ => ∃ (n : Nat) (d : D) (A : Addr) (ns : List Int) (ks : List Hd) (ps : List Pc), ds = [prD (.tup (ks.map hdD)) ps, d, .ref A] ∧ gv S n d ∧ n ≤ 10 ∧ PrOk ks ps ∧ S A = some (.dk (kvI ns)) ∧ Q (.bl (frB ps ns d)) S
theorem ok_is_frame {P : Program} {w : World} {K : PySem.W.Frag} {mg : Str → Option Value} {base : Heap} (T : Txt K w mg) (C_is_integer : Cal P w K mg base 1 "is_integer" s_is_integer ["thing"] sp_is_integer) (C_are_pairs : Cal P w K mg base 4 "are_pairs" s_are_pairs ["thing", "numbers"] sp_are_pairs) (C_variables_of : Cal P w K mg base 3 "variables_of" s_variables_of ["program", "procedure"] sp_variables_of) (C_procedure_of : Cal P w K mg base 1 "procedure_of" s_procedure_of ["program", "name"] sp_procedure_of) {ff : Addr} {fd : FuncData} (F : Fun K "is_frame" "is_frame" s_is_frame ff fd) (mf : mg "is_frame" = some (.ref ff)) : Cal P w K mg base 5 "is_frame" s_is_frame ["program", "thing", "numbers"] sp_is_frame := by
  refine ⟨ff, fd, okD F sc_is_frame (fun ds S Q E h => ?len) (fun cdv A outer s H E ds S Q E' hcd hr h => ⟨_, (dss_cons (ds_if (dw_or (dt_not (dt_tr td_tru (de_isi (tn := "tuple") (by rfl) T.nb_isinstance (by rfl) T.nb_tuple (de_var 1)))) (dw_or (dt_cmp (od_ne hr) (de_callB cd_len (by rfl) T.nb_len (da_cons (de_var 1) da_nil)) de_int) (dw_or1 (dt_not (dt_tr td_tru (de_isi (tn := "str") (by rfl) T.nb_isinstance (by rfl) T.nb_str (de_ix (xd_ix hr) (de_var 1) de_int))))))).pt (dss_one (ds_ret de_bl)) dss_nil)
      (dss_cons (ds_if (dw_or (dt_cmp (od_notin hr) (de_ix (xd_ix hr) (de_var 1) de_int) (de_lc [("procedure", 3)] rfl sc_is_frame.nd (di_tup (de_ix (xd_ix hr) (de_var 0) de_int)) (blkOk_by (N := ["program", "thing", "numbers", "procedure", "variable", "value"]) (sc := defScope s_is_frame) (by decide +kernel)) (fun _ _ _ _ _ => (pg_name (i := 3) sc_is_frame.nd rfl (Or.inl rfl) (Or.inr rfl))) (fun N => (tg_name (vs := [3]) (i := 3) (by decide))) (fun _ _ _ _ _ => dts_nil) (fun _ _ _ _ _ => (de_ix (xd_ix hr) (de_var 3) de_int)))) (dw_or1 (dt_not (dt_tr td_tru (de_c C_is_integer hr (da_cons (de_ix (xd_ix hr) (de_var 1) de_int) da_nil)))))).pt (dss_one (ds_ret de_bl)) dss_nil)
      (dss_cons (ds_if (dw_or (dt_not (dt_chain od_le od_le de_int (de_ix (xd_ix hr) (de_var 1) de_int) (de_callB cd_len (by rfl) T.nb_len (da_cons (de_ix (xd_ix hr) (de_c C_procedure_of hr (da_cons (de_var 0) (da_cons (de_ix (xd_ix hr) (de_var 1) de_int) da_nil))) de_int) da_nil)))) (dw_or1 (dt_not (dt_tr td_tru (de_c C_are_pairs hr (da_cons (de_ix (xd_ix hr) (de_var 1) de_int) (da_cons (de_var 2) da_nil))))))).pt (dss_one (ds_ret de_bl)) dss_nil)
      (dss_one (ds_ret (de_cmp (od_eq hr) (de_callTy cd_tuple (by rfl) T.nb_tuple (da_cons (de_lc [("variable", 4), ("value", 5)] rfl sc_is_frame.nd (di_tup (de_ix (xd_ix hr) (de_var 1) de_int)) (blkOk_by (N := ["program", "thing", "numbers", "procedure", "variable", "value"]) (sc := defScope s_is_frame) (by decide +kernel)) (fun _ _ _ _ _ => (pg_tup (n := 2) rfl (pgs_cons (pg_name (i := 4) sc_is_frame.nd rfl (Or.inl rfl) (Or.inr rfl)) (pgs_cons (pg_name (i := 5) sc_is_frame.nd rfl (Or.inl rfl) (Or.inr rfl)) pgs_nil)))) (fun N => (tg_tup (vs := [4, 5]) (n := 2) (tgs_cons (vs := [4, 5]) (i := 4) (by decide) (tgs_cons (vs := [4, 5]) (i := 5) (by decide) (tgs_nil (vs := [4, 5])))))) (fun _ _ _ _ _ => dts_nil) (fun _ _ _ _ _ => (de_var 4))) da_nil)) (de_callTy cd_tuple (by rfl) T.nb_tuple (da_cons (de_c C_variables_of hr (da_cons (de_var 0) (da_cons (de_ix (xd_ix hr) (de_var 1) de_int) da_nil))) da_nil)))))))), ?run⟩), F.binds (ps := ["program", "thing", "numbers"]) fun _ _ _ _ _ _ us hl => match us, hl with | [_, _, _], _ => rfl, mf, F⟩
  case len => obtain ⟨n, d, A, ns, ks, ps, rfl, _⟩ := h; rfl
  case run =>
    obtain ⟨n, d, A, ns, ks, ps, rfl, h⟩ := h
    simp only [dVar, dC, dOp, dUn, dChain, dTr, dB, dAnd, dOr, dNot, dIf, dAndV, dOrV, dNotV, dNil, dCons, dTup, dLst, dLf, dNext, dSeq, dBreak, dCont, dDrop, dRet, dRetN, dIfS, gdName, gdNil, gdCons, gdTup, gdSub, dAsg, dPar, dCall, dCallK, dCB, dM0, dM, dGet1, dGet2, dDk, dDt, dPart, dNoPart, dSlice, dAug, dYes, dSort2, revD, iTupD, iLstD, iLf, iLw, iRange1, iRange2, iRange3, iEnumD, iZipD, iZipMD, iStrD, dGix, dDc, dIsi, dSortSet, dLenSet, dDlit, gdLst, dFor, dWhile, dLc, dLcM, dFld, dFldSet, dFldAdd, dMeth, dMake, dPar3, dDisp, dPrs, dFsi, dGget, dKgt, dKgtL, dDz, iEnumMD, dCut, dTcut, wipeD, bodyE, startD, List.map_cons, List.map_nil, List.length_cons, List.length_nil, List.replicate_succ, List.replicate_zero, List.cons_append, List.nil_append, Nat.reduceAdd, Nat.reduceSub, Nat.zero_add, List.getElem?_cons_zero, List.getElem?_cons_succ, List.set_cons_zero, List.set_cons_succ, Option.some.injEq, exists_eq_left', exists_eq_left, if_true, sizeLine_eq, Nat.reduceLeDiff, Nat.reduceLT, Nat.zero_le, true_and, and_true, Bool.false_eq_true, if_false]
    obtain ⟨hd, hn, ok, hA, q⟩ := h
    have no : ¬ FrP ps ns d → ∃ d1 S1, VW (D.bl false) S d1 S1 ∧ Q d1 S1 := fun e => rt_of (by
      rw [frB_no e] at q
      exact q)
    refine ty_tp hd (fun xs e => ?_) fun e => brT rfl (no (by rintro ⟨x, r, y, zs, rfl, _⟩; cases e))
    subst e
    obtain ⟨_, hds⟩ := gv_tup.mp hd
    refine brF rfl (len_ne (m := 3) (fun h => no (by rintro ⟨x, r, y, zs, e, _⟩; cases e; exact h rfl)) fun hlen => ?_)
    obtain ⟨a, b, c, rfl⟩ := three hlen
    have ha := hds a (by simp)
    have hb := hds b (by simp)
    have hc := hds c (by simp)
    refine ix_sq rfl rfl at_0 (ty_s ha (fun z e => ?_) fun e => brT rfl (no (by rintro ⟨x, r, y, zs, e2, _⟩; cases e2; cases e)))
    subst e
    have p6 := ok.l
    refine brF rfl (ix_sq rfl rfl at_0 (ix_sq rfl rfl (at_n (i := 1) rfl) ⟨_, .inl rfl, lc_mp nmD (by rw [List.length_map]; omega) (fun W i x acc hx w => ?_) ?_⟩))
    · obtain ⟨p, hp, rfl⟩ := map_at hx
      exact ix_sq rfl rfl at_0 w
    rw [nmD_pc]
    refine in_ws (ws := ps.map (·.1)) rfl (fun z e => nomatch e) (gv_str.mp ha).1 (fun x hx => (ok.sh x hx).1) ⟨_, rfl, br2 (fun h => no (by rintro ⟨x, r, y, zs, e2, h2, _⟩; cases e2; exact of_nxt h h2)) fun h => ?_⟩
    have hz : z ∈ ps.map (·.1) := of_nxf h
    refine ix_sq rfl rfl (at_n (i := 1) rfl) (is_int hb (fun i e => ?_) fun e => tru_b (brT rfl (no (by rintro ⟨x, r, y, zs, e2, h2, _⟩; cases e2; cases e))))
    subst e
    obtain ⟨p, hp, hpm⟩ := pcOf_ex hz
    have hro : rowsOf ps z = p.2.2 := by unfold rowsOf; rw [hp]; rfl
    have po := ok.p p hpm
    refine tru_b (brF rfl (ix_sq rfl rfl (at_n (i := 1) rfl) (it_of trivial ⟨_, rfl, ?_⟩)))
    by_cases h0 : 0 ≤ i
    rotate_left
    · exact brF (decide_eq_false h0) ⟨_, rfl, brT rfl (no (by rintro ⟨x, r, y, zs, e2, h2, h3, _⟩; cases e2; exact h0 h3))⟩
    refine brT (decide_eq_true h0) (ix_sq rfl rfl at_0 ⟨_, ps, z, p, rfl, by omega, hp, ix_sq rfl rfl (at_n (i := 2) rfl) (len_sq rfl (it_of trivial ⟨_, rfl, ?_⟩))⟩)
    by_cases h1 : i ≤ ((p.2.2.map Rw.d).length : Nat)
    rotate_left
    · exact brT (by rw [decide_eq_false h1]; rfl) (no (by rintro ⟨x, r, y, zs, e2, h2, h3, h4, _⟩; cases e2; rw [hro] at h4; rw [List.length_map] at h1; exact h1 h4))
    refine brF (by rw [decide_eq_true h1]; rfl) (ix_sq rfl rfl (at_n (i := 2) rfl) ⟨n, c, A, ns, rfl, hc, hn, hA, tru_b ?_⟩)
    rw [List.length_map] at h1
    cases hP : prsD ns c with
    | none => exact brT rfl (no (by rintro ⟨x, r, y, zs, e2, h2, h3, h4, h5, _⟩; cases e2; rw [hP] at h5; cases h5))
    | some zs =>
      obtain ⟨xs, rfl, hpr⟩ := prsD_inv hP
      have zl := prs_len hpr
      have zok := prs_str (gv_tup.mp hc).2 hpr
      have hcl := (gv_tup.mp hc).1
      refine brF rfl (ix_sq rfl rfl (at_n (i := 2) rfl) ⟨xs, .inl rfl, lc_seq (fun i acc S' => S' = S ∧ acc = (zs.take i).map D.str) ⟨rfl, rfl⟩ ?_ ?_⟩)
      · rintro i x acc S' hx ⟨rfl, rfl⟩
        obtain ⟨z, hz, e⟩ := prs_at hpr hx
        obtain ⟨v, rfl, _⟩ := pr1_inv e
        refine ⟨by rw [List.length_map, List.length_take, sizeLine_eq]; omega, _, rfl, rfl, _, _, rfl, _, _, rfl, rfl, rfl, ?_⟩
        rw [tk1 hz, List.map_append]; rfl
      · rintro j acc S' hi ⟨rfl, rfl⟩
        rw [List.take_of_length_le (by omega)]
        refine tpl_l rfl (ix_sq rfl rfl at_0 ⟨ks, ps, z, rfl, ok, hz, fun ys hs => ⟨_, rfl, ?_⟩⟩)
        have ysh : ∀ y ∈ ys, PyData.strOk y = true := fun y hy => by
          have := (hs.2.2 y).mp hy
          unfold varsOf at this
          rw [hp] at this
          exact (nm_sh y (po.nm y this)).1
        refine eq_strsT (fun x hx => (zok x hx).1) ysh (rt_of ?_)
        have e : frB ps ns (.tup [.str z, .int i, .tup xs]) = decide (zs = ys) := by
          by_cases h : zs = ys
          · subst h
            rw [decide_eq_true rfl]
            exact frB_iff.mpr ⟨z, i, _, zs, rfl, hz, h0, by rw [hro]; exact h1, hP, hs⟩
          · rw [decide_eq_false h]
            refine frB_no ?_
            rintro ⟨x, r, y, zs', e2, h2, h3, h4, h5, h6⟩
            cases e2
            rw [hP] at h5
            cases h5
            exact h (h6.one hs)
        rw [e] at q
        rw [Bool.false_xor]
        exact q
def sp_waits_for : SpD := fun ds S Q _ => ∃ (f g : D) (ns : List Int) (ks : List Hd) (ps : List Pc), ds = [prD (.tup (ks.map hdD)) ps, f, g] ∧ FrP ps ns f ∧ FrP ps ns g ∧ PrOk ks ps ∧ Q (.bl (waits ps f g)) S
theorem ok_waits_for {P : Program} {w : World} {K : PySem.W.Frag} {mg : Str → Option Value} {base : Heap} (T : Txt K w mg) (C_procedure_of : Cal P w K mg base 1 "procedure_of" s_procedure_of ["program", "name"] sp_procedure_of) {ff : Addr} {fd : FuncData} (F : Fun K "waits_for" "waits_for" s_waits_for ff fd) (mf : mg "waits_for" = some (.ref ff)) : Cal P w K mg base 2 "waits_for" s_waits_for ["program", "frame", "other"] sp_waits_for := by
  refine ⟨ff, fd, okD F sc_waits_for (fun ds S Q E h => ?len) (fun cdv A outer s H E ds S Q E' hcd hr h => ⟨_, (dss_cons (ds_set 3 sc_waits_for.nd (de_ix (xd_ix hr) (de_c C_procedure_of hr (da_cons (de_var 0) (da_cons (de_ix (xd_ix hr) (de_var 1) de_int) da_nil))) de_int))
      (dss_cons (ds_if (dw_or (dt_cmp (od_eq hr) (de_ix (xd_ix hr) (de_var 1) de_int) (de_callB cd_len (by rfl) T.nb_len (da_cons (de_var 3) da_nil))) (dw_or1 (dt_cmp (od_ne hr) (de_ix (xd_ix hr) (de_ix (xd_ix hr) (de_var 3) (de_ix (xd_ix hr) (de_var 1) de_int)) de_int) de_str))).pt (dss_one (ds_ret de_bl)) dss_nil)
      (dss_one (ds_ret (de_cmp (od_eq hr) (de_ix (xd_ix hr) (de_ix (xd_ix hr) (de_var 3) (de_ix (xd_ix hr) (de_var 1) de_int)) de_int) (de_ix (xd_ix hr) (de_var 2) de_int)))))), ?run⟩), F.binds (ps := ["program", "frame", "other"]) fun _ _ _ _ _ _ us hl => match us, hl with | [_, _, _], _ => rfl, mf, F⟩
  case len => obtain ⟨f, g, ns, ks, ps, rfl, _⟩ := h; rfl
  case run =>
    obtain ⟨f, g, ns, ks, ps, rfl, h⟩ := h
    simp only [dVar, dC, dOp, dUn, dChain, dTr, dB, dAnd, dOr, dNot, dIf, dAndV, dOrV, dNotV, dNil, dCons, dTup, dLst, dLf, dNext, dSeq, dBreak, dCont, dDrop, dRet, dRetN, dIfS, gdName, gdNil, gdCons, gdTup, gdSub, dAsg, dPar, dCall, dCallK, dCB, dM0, dM, dGet1, dGet2, dDk, dDt, dPart, dNoPart, dSlice, dAug, dYes, dSort2, revD, iTupD, iLstD, iLf, iLw, iRange1, iRange2, iRange3, iEnumD, iZipD, iZipMD, iStrD, dGix, dDc, dIsi, dSortSet, dLenSet, dDlit, gdLst, dFor, dWhile, dLc, dLcM, dFld, dFldSet, dFldAdd, dMeth, dMake, dPar3, dDisp, dPrs, dFsi, dGget, dKgt, dKgtL, dDz, iEnumMD, dCut, dTcut, wipeD, bodyE, startD, List.map_cons, List.map_nil, List.length_cons, List.length_nil, List.replicate_succ, List.replicate_zero, List.cons_append, List.nil_append, Nat.reduceAdd, Nat.reduceSub, Nat.zero_add, List.getElem?_cons_zero, List.getElem?_cons_succ, List.set_cons_zero, List.set_cons_succ, Option.some.injEq, exists_eq_left', exists_eq_left, if_true, sizeLine_eq, Nat.reduceLeDiff, Nat.reduceLT, Nat.zero_le, true_and, and_true, Bool.false_eq_true, if_false]
    obtain ⟨⟨x, r, y, zs, rfl, hx, r0, r1, hp, hs⟩, ⟨x2, r2, y2, zs2, rfl, hx2, _⟩, ok, q⟩ := h
    obtain ⟨p, hpx, hpm⟩ := pcOf_ex hx
    obtain ⟨r, rfl⟩ : ∃ j : Nat, r = j := ⟨r.toNat, by omega⟩
    have hro : rowsOf ps x = p.2.2 := by unfold rowsOf; rw [hpx]; rfl
    rw [hro] at r1
    have p6 := ok.l
    have po := ok.p p hpm
    refine ix_sq rfl rfl at_0 ⟨_, ps, x, p, rfl, by omega, hpx, ix_sq rfl rfl (at_n (i := 2) rfl) (ix_sq rfl rfl (at_n (i := 1) rfl) (len_sq rfl ⟨_, rfl, ?_⟩))⟩
    have ew : waits ps (.tup [.str x, .int (r : Nat), y]) (.tup [.str x2, .int r2, y2]) = match (p.2.2)[r]? with
        | some w => decide (w.calls = some x2)
        | none => false := by
      show (match (rowsOf ps x)[((r : Nat) : Int).toNat]? with
        | some w => decide (w.calls = some x2)
        | none => false) = _
      rw [hro, Int.toNat_natCast]
    rw [ew] at q
    by_cases hE : r = p.2.2.length
    · refine brT (xt (by rw [List.length_map]; omega)) (rt_of ?_)
      rw [List.getElem?_eq_none (by omega)] at q
      exact q
    have hr' : p.2.2[r]? = some p.2.2[r] := List.getElem?_eq_getElem (by omega)
    have okr := po.ok _ (List.getElem_mem (by omega : r < p.2.2.length))
    generalize p.2.2[r] = w at hr' okr
    rw [hr'] at q
    dsimp only at q
    have hm : atI (p.2.2.map Rw.d) (r : Int) = some w.d := at_n (by rw [List.getElem?_map, hr']; rfl)
    refine brF (xf (by rw [List.length_map]; omega)) (ix_sq rfl rfl (at_n (i := 1) rfl) (ix_sq rfl rfl hm (ix_sq rfl rfl at_0 ⟨_, rfl, ?_⟩)))
    rcases rw_call okr with ⟨f, _, c1, c2, c3, _⟩ | ⟨c1, c2⟩
    · rw [c1] at q
      refine brF (nxf c2) (ix_sq rfl rfl (at_n (i := 1) rfl) (ix_sq rfl rfl hm (ix_sq rfl rfl (at_n (i := 2) (by rw [List.getElem?_cons_succ]; exact c3)) (ix_sq rfl rfl at_0 (eq_ss (rt_of ?_))))))
      rw [Bool.false_xor]
      have e : decide (some f = some x2) = decide (f = x2) := decide_eq_decide.mpr ⟨Option.some.inj, congrArg some⟩
      rw [e] at q
      exact q
    · rw [c1] at q
      exact brT (nxt c2) (rt_of q)
def sp_are_frames : SpD := fun ds S Q _ => ∃ (n : Nat) (d : D) (A : Addr) (ns : List Int) (ks : List Hd) (ps : List Pc), ds = [prD (.tup (ks.map hdD)) ps, d, .ref A] ∧ gv S n d ∧ n ≤ 10 ∧ PrOk ks ps ∧ S A = some (.dk (kvI ns)) ∧ Q (.bl (frsD ps ns d)) S
theorem ok_are_frames {P : Program} {w : World} {K : PySem.W.Frag} {mg : Str → Option Value} {base : Heap} (T : Txt K w mg) (C_waits_for : Cal P w K mg base 2 "waits_for" s_waits_for ["program", "frame", "other"] sp_waits_for) (C_is_frame : Cal P w K mg base 5 "is_frame" s_is_frame ["program", "thing", "numbers"] sp_is_frame) {ff : Addr} {fd : FuncData} (F : Fun K "are_frames" "are_frames" s_are_frames ff fd) (mf : mg "are_frames" = some (.ref ff)) : Cal P w K mg base 6 "are_frames" s_are_frames ["program", "thing", "numbers"] sp_are_frames := by
  refine ⟨ff, fd, okD F sc_are_frames (fun ds S Q E h => ?len) (fun cdv A outer s H E ds S Q E' hcd hr h => ⟨_, (dss_cons (ds_if (dw_or (dt_not (dt_tr td_tru (de_isi (tn := "tuple") (by rfl) T.nb_isinstance (by rfl) T.nb_tuple (de_var 1)))) (dw_or1 (dt_not (dt_tr td_tru (de_callB (cd_all rfl) (by rfl) T.nb_all (da_cons (de_lc [("frame", 3)] rfl sc_are_frames.nd (di_tup (de_var 1)) (blkOk_by (N := ["program", "thing", "numbers", "frame", "other"]) (sc := defScope s_are_frames) (by decide +kernel)) (fun _ _ _ _ _ => (pg_name (i := 3) sc_are_frames.nd rfl (Or.inl rfl) (Or.inr rfl))) (fun N => (tg_name (vs := [3]) (i := 3) (by decide))) (fun _ _ _ _ _ => dts_nil) (fun _ _ _ _ _ => (de_c C_is_frame hr (da_cons (de_var 0) (da_cons (de_var 3) (da_cons (de_var 2) da_nil)))))) da_nil)))))).pt (dss_one (ds_ret de_bl)) dss_nil)
      (dss_cons (ds_if (dw_and (dt_cmp (od_ne0 hr) (de_var 1) (de_tup da_nil)) (dw_and1 (dt_cmp (od_ne hr) (de_ix (xd_ix hr) (de_ix (xd_ix hr) (de_var 1) de_int) de_int) de_str))).pt (dss_one (ds_ret de_bl)) dss_nil)
      (dss_one (ds_ret (de_callB (cd_all rfl) (by rfl) T.nb_all (da_cons (de_lc [("frame", 3), ("other", 4)] rfl sc_are_frames.nd (di_zipM (by rfl) T.nb_zip (da_cons (de_var 1) (da_cons (de_slice (xd_slice false) (de_var 1) (do_some de_int) do_none) da_nil))) (blkOk_by (N := ["program", "thing", "numbers", "frame", "other"]) (sc := defScope s_are_frames) (by decide +kernel)) (fun _ _ _ _ _ => (pg_tup (n := 2) rfl (pgs_cons (pg_name (i := 3) sc_are_frames.nd rfl (Or.inl rfl) (Or.inr rfl)) (pgs_cons (pg_name (i := 4) sc_are_frames.nd rfl (Or.inl rfl) (Or.inr rfl)) pgs_nil)))) (fun N => (tg_tup (vs := [3, 4]) (n := 2) (tgs_cons (vs := [3, 4]) (i := 3) (by decide) (tgs_cons (vs := [3, 4]) (i := 4) (by decide) (tgs_nil (vs := [3, 4])))))) (fun _ _ _ _ _ => dts_nil) (fun _ _ _ _ _ => (de_c C_waits_for hr (da_cons (de_var 0) (da_cons (de_var 3) (da_cons (de_var 4) da_nil)))))) da_nil)))))), ?run⟩), F.binds (ps := ["program", "thing", "numbers"]) fun _ _ _ _ _ _ us hl => match us, hl with | [_, _, _], _ => rfl, mf, F⟩
  case len => obtain ⟨n, d, A, ns, ks, ps, rfl, _⟩ := h; rfl
  case run =>
    obtain ⟨n, d, A, ns, ks, ps, rfl, h⟩ := h
    simp only [dVar, dC, dOp, dUn, dChain, dTr, dB, dAnd, dOr, dNot, dIf, dAndV, dOrV, dNotV, dNil, dCons, dTup, dLst, dLf, dNext, dSeq, dBreak, dCont, dDrop, dRet, dRetN, dIfS, gdName, gdNil, gdCons, gdTup, gdSub, dAsg, dPar, dCall, dCallK, dCB, dM0, dM, dGet1, dGet2, dDk, dDt, dPart, dNoPart, dSlice, dAug, dYes, dSort2, revD, iTupD, iLstD, iLf, iLw, iRange1, iRange2, iRange3, iEnumD, iZipD, iZipMD, iStrD, dGix, dDc, dIsi, dSortSet, dLenSet, dDlit, gdLst, dFor, dWhile, dLc, dLcM, dFld, dFldSet, dFldAdd, dMeth, dMake, dPar3, dDisp, dPrs, dFsi, dGget, dKgt, dKgtL, dDz, iEnumMD, dCut, dTcut, wipeD, bodyE, startD, List.map_cons, List.map_nil, List.length_cons, List.length_nil, List.replicate_succ, List.replicate_zero, List.cons_append, List.nil_append, Nat.reduceAdd, Nat.reduceSub, Nat.zero_add, List.getElem?_cons_zero, List.getElem?_cons_succ, List.set_cons_zero, List.set_cons_succ, Option.some.injEq, exists_eq_left', exists_eq_left, if_true, sizeLine_eq, Nat.reduceLeDiff, Nat.reduceLT, Nat.zero_le, true_and, and_true, Bool.false_eq_true, if_false]
    obtain ⟨hd, hn, ok, hA, q⟩ := h
    refine ty_tp hd (fun xs e => ?_) fun e => brT rfl (rt_of (by
      rw [frsD_no e] at q
      exact q))
    subst e
    obtain ⟨hl, hds⟩ := gv_tup.mp hd
    have q : Q (.bl (frsB ps ns xs)) S := q
    unfold frsB at q
    refine brF rfl ⟨xs, .inl rfl, lc_mp (fun d => .bl (frB ps ns d)) (by omega) (fun W i x acc hx w => ⟨n, x, A, ns, ks, ps, rfl, hds x (List.mem_of_getElem? hx), hn, ok, hA, w⟩) (all_f (tru_b ?_))⟩
    cases hF : xs.all (frB ps ns) with
    | false => exact brT rfl (rt_of (by rw [hF] at q; exact q))
    | true =>
      rw [hF, Bool.true_and] at q
      have hfr : ∀ f ∈ xs, FrP ps ns f := fun f hf => frB_iff.mp (List.all_eq_true.mp hF f hf)
      have fin : mainF xs = true → ∃ i, D.int 1 = D.int i ∧ sliceD false (.tup xs) (some i) none S fun x S1 => ∃ x_1 y ds es, [.tup xs, x] = [x_1, y] ∧ sdOf S1 x_1 = some ds ∧ sdOf S1 y = some es ∧ ∃ (W : Nat → List D → Sto → Prop) (n : Nat), W 0 [] S1 ∧ ∀ (i : Nat) (acc : List D) (S2 : Sto), W i acc S2 → ∃ r, zipMI x_1 y i S2 = some r ∧ (r = none → allD [D.fl acc] S2 fun d S' => ∃ d1 S1, VW d S' d1 S1 ∧ Q d1 S1) ∧ ∀ (x : D), r = some x → i < n ∧ acc.length < 16777216 ∧ ∃ ds, x = D.tup ds ∧ ds.length = 2 ∧ ∃ d r, ds = d :: r ∧ ∃ d_1 r_1, r = d_1 :: r_1 ∧ r_1 = [] ∧ sp_waits_for [prD (D.tup (List.map hdD ks)) ps, d, d_1] S2 (fun y S5 => W (i + 1) (acc ++ [y]) S5) X0 := fun hm => by
        rw [hm, Bool.true_and] at q
        refine ⟨1, rfl, sl_t ⟨_, _, xs, xs.drop 1, rfl, rfl, ?_, lc_zip (ds := xs) (es := xs.drop 1) (fun f g => .bl (waits ps f g)) rfl ?_ (by omega) (fun W i x y acc hx hy w => ?_) ?_⟩⟩
        · rw [show DL.cutD xs (some 1) none = xs.drop 1 from cut_drop xs 1]; rfl
        · rw [show DL.cutD xs (some 1) none = xs.drop 1 from cut_drop xs 1]; rfl
        · exact ⟨_, rfl, rfl, _, _, rfl, _, _, rfl, rfl, x, y, ns, ks, ps, rfl, hfr x (List.mem_of_getElem? hx), hfr y (List.mem_of_mem_drop (List.mem_of_getElem? hy)), ok, w⟩
        · refine ⟨_, List.zipWith (waits ps) xs (xs.drop 1), rfl, by unfold lsOf; rw [List.map_zipWith], rt_of q⟩
      refine brF rfl (e0_t ⟨_, rfl, br2 (fun h => ?_) fun h => ?_⟩)
      · cases xs with
        | nil => cases h
        | cons f r =>
          obtain ⟨x, r1, y, zs, rfl, _⟩ := hfr f List.mem_cons_self
          refine ix_sq rfl rfl at_0 (ix_sq rfl rfl at_0 ⟨_, rfl, br2 (fun h => rt_of ?_) fun h => fin ?_⟩)
          · have h : x ≠ "main" := of_nxt h
            have e : mainF (.tup [.str x, .int r1, y] :: r) = false := decide_eq_false fun e => h (by cases e; rfl)
            rw [e] at q
            exact q
          · have h : x = "main" := of_nxf h
            subst h
            unfold mainF isMain
            simp
      · cases xs with
        | nil => exact fin rfl
        | cons f r => cases h
def sp_is_state : SpD := fun ds S Q _ => ∃ (n : Nat) (d : D) (ks : List Hd) (ps : List Pc), ds = [prD (.tup (ks.map hdD)) ps, d] ∧ gv S n d ∧ n ≤ 10 ∧ PrOk ks ps ∧ Q (.bl (stB ks ps d)) S
theorem ok_is_state {P : Program} {w : World} {K : PySem.W.Frag} {mg : Str → Option Value} {base : Heap} (T : Txt K w mg) (C_cell_numbers : Cal P w K mg base 6 "cell_numbers" s_cell_numbers ["program", "thing", "made"] sp_cell_numbers) (C_are_frames : Cal P w K mg base 6 "are_frames" s_are_frames ["program", "thing", "numbers"] sp_are_frames) (C_is_integer : Cal P w K mg base 1 "is_integer" s_is_integer ["thing"] sp_is_integer) {ff : Addr} {fd : FuncData} (F : Fun K "is_state" "is_state" s_is_state ff fd) (mf : mg "is_state" = some (.ref ff)) : Cal P w K mg base 7 "is_state" s_is_state ["program", "thing"] sp_is_state := by
  refine ⟨ff, fd, okD F sc_is_state (fun ds S Q E h => ?len) (fun cdv A outer s H E ds S Q E' hcd hr h => ⟨_, (dss_cons (ds_if (dw_or (dt_not (dt_tr td_tru (de_isi (tn := "tuple") (by rfl) T.nb_isinstance (by rfl) T.nb_tuple (de_var 1)))) (dw_or (dt_cmp (od_ne hr) (de_callB cd_len (by rfl) T.nb_len (da_cons (de_var 1) da_nil)) de_int) (dw_or (dt_not (dt_tr td_tru (de_c C_is_integer hr (da_cons (de_ix (xd_ix hr) (de_var 1) de_int) da_nil)))) (dw_or1 (dt_cmp od_lt (de_ix (xd_ix hr) (de_var 1) de_int) de_int))))).pt (dss_one (ds_ret de_bl)) dss_nil)
      (dss_cons (ds_set 2 sc_is_state.nd (de_c C_cell_numbers hr (da_cons (de_var 0) (da_cons (de_ix (xd_ix hr) (de_var 1) de_int) (da_cons (de_ix (xd_ix hr) (de_var 1) de_int) da_nil)))))
      (dss_one (ds_ret (de_and (de_cmp od_isnot (de_var 2) de_non) (de_one (de_c C_are_frames hr (da_cons (de_var 0) (da_cons (de_ix (xd_ix hr) (de_var 1) de_int) (da_cons (de_var 2) da_nil)))))))))), ?run⟩), F.binds (ps := ["program", "thing"]) fun _ _ _ _ _ _ us hl => match us, hl with | [_, _], _ => rfl, mf, F⟩
  case len => obtain ⟨n, d, ks, ps, rfl, _⟩ := h; rfl
  case run =>
    obtain ⟨n, d, ks, ps, rfl, h⟩ := h
    simp only [dVar, dC, dOp, dUn, dChain, dTr, dB, dAnd, dOr, dNot, dIf, dAndV, dOrV, dNotV, dNil, dCons, dTup, dLst, dLf, dNext, dSeq, dBreak, dCont, dDrop, dRet, dRetN, dIfS, gdName, gdNil, gdCons, gdTup, gdSub, dAsg, dPar, dCall, dCallK, dCB, dM0, dM, dGet1, dGet2, dDk, dDt, dPart, dNoPart, dSlice, dAug, dYes, dSort2, revD, iTupD, iLstD, iLf, iLw, iRange1, iRange2, iRange3, iEnumD, iZipD, iZipMD, iStrD, dGix, dDc, dIsi, dSortSet, dLenSet, dDlit, gdLst, dFor, dWhile, dLc, dLcM, dFld, dFldSet, dFldAdd, dMeth, dMake, dPar3, dDisp, dPrs, dFsi, dGget, dKgt, dKgtL, dDz, iEnumMD, dCut, dTcut, wipeD, bodyE, startD, List.map_cons, List.map_nil, List.length_cons, List.length_nil, List.replicate_succ, List.replicate_zero, List.cons_append, List.nil_append, Nat.reduceAdd, Nat.reduceSub, Nat.zero_add, List.getElem?_cons_zero, List.getElem?_cons_succ, List.set_cons_zero, List.set_cons_succ, Option.some.injEq, exists_eq_left', exists_eq_left, if_true, sizeLine_eq, Nat.reduceLeDiff, Nat.reduceLT, Nat.zero_le, true_and, and_true, Bool.false_eq_true, if_false]
    obtain ⟨hd, hn, ok, q⟩ := h
    have no : ¬ StP ks ps d → ∃ d1 S1, VW (D.bl false) S d1 S1 ∧ Q d1 S1 := fun e => rt_of (by
      rw [stB_no e] at q
      exact q)
    refine ty_tp hd (fun xs e => ?_) fun e => brT rfl (no (by rintro ⟨fs, c, m, ns, rfl, _⟩; cases e))
    subst e
    obtain ⟨_, hds⟩ := gv_tup.mp hd
    refine brF rfl (len_ne (m := 3) (fun h => no (by rintro ⟨fs, c, m, ns, e, _⟩; cases e; exact h rfl)) fun hlen => ?_)
    obtain ⟨a, b, c, rfl⟩ := three hlen
    have ha := hds a (by simp)
    have hb := hds b (by simp)
    have hc := hds c (by simp)
    refine ix_sq rfl rfl (at_n (i := 2) rfl) (is_int hc (fun m e => ?_) fun e => tru_b (brT rfl (no (by rintro ⟨fs, c, m, ns, e2, _⟩; cases e2; cases e))))
    subst e
    refine tru_b (brF rfl (ix_sq rfl rfl (at_n (i := 2) rfl) ⟨_, rfl, br2 (fun h => no ?_) fun h => ?_⟩))
    · rintro ⟨fs, c, m, ns, e2, h0, _⟩
      cases e2
      have := of_decide_eq_true h
      omega
    have m0 := of_decide_eq_false h
    refine ix_sq rfl rfl (at_n (i := 1) rfl) (ix_sq rfl rfl (at_n (i := 2) rfl) ⟨n, b, m, ks, ps, rfl, hb, hn, ok, fun e => ?_, fun ns A e nA => ?_⟩)
    · refine ⟨rfl, _, rfl, brF rfl (no ?_)⟩
      rintro ⟨fs, c, m, ns, e2, h0, h1, _⟩
      cases e2
      rw [e] at h1
      cases h1
    · refine ⟨rfl, _, rfl, brT rfl (ix_sq rfl rfl at_0 ⟨n, a, A, ns, ks, ps, rfl, gv_le (Kp.up' nA) (Nat.le_refl _) ha, hn, ok, up_same, rt_up nA ?_⟩)⟩
      have e : stB ks ps (.tup [a, b, .int m]) = frsD ps ns a := stB_of (by omega) e
      rw [e] at q
      exact q
/-- a new frame -/
def frD (x : Str) (ys : List Str) : D := .tup [.str x, .int 0, .tup (ys.map fun y => .tup [.str y, .non])]
def sp_first_frame : SpD := fun ds S Q _ => ∃ (ks : List Hd) (ps : List Pc), ds = [prD (.tup (ks.map hdD)) ps, .str "main", .tup []] ∧ PrOk ks ps ∧ ∀ ys, IsSd (varsOf ps "main") ys → Q (frD "main" ys) S
theorem ok_first_frame {P : Program} {w : World} {K : PySem.W.Frag} {mg : Str → Option Value} {base : Heap} (T : Txt K w mg) (C_procedure_of : Cal P w K mg base 1 "procedure_of" s_procedure_of ["program", "name"] sp_procedure_of) (C_variables_of : Cal P w K mg base 3 "variables_of" s_variables_of ["program", "procedure"] sp_variables_of) {ff : Addr} {fd : FuncData} (F : Fun K "first_frame" "first_frame" s_first_frame ff fd) (mf : mg "first_frame" = some (.ref ff)) : Cal P w K mg base 4 "first_frame" s_first_frame ["program", "name", "values"] sp_first_frame := by
  refine ⟨ff, fd, okD F sc_first_frame (fun ds S Q E h => ?len) (fun cdv A outer s H E ds S Q E' hcd hr h => ⟨_, (dss_cons (ds_set 3 sc_first_frame.nd (de_dictZip0 rfl (by rfl) T.nb_dict (by rfl) T.nb_zip (da_cons (de_ix (xd_ix hr) (de_c C_procedure_of hr (da_cons (de_var 0) (da_cons (de_var 1) da_nil))) de_int) (da_cons (de_var 2) da_nil))))
      (dss_one (ds_ret (de_tup (da_cons (de_var 1) (da_cons de_int (da_cons (de_callTy cd_tuple (by rfl) T.nb_tuple (da_cons (de_lc [("variable", 4)] rfl sc_first_frame.nd (di_tup (de_c C_variables_of hr (da_cons (de_var 0) (da_cons (de_var 1) da_nil)))) (blkOk_by (N := ["program", "name", "values", "known", "variable"]) (sc := defScope s_first_frame) (by decide +kernel)) (fun _ _ _ _ _ => (pg_name (i := 4) sc_first_frame.nd rfl (Or.inl rfl) (Or.inr rfl))) (fun N => (tg_name (vs := [4]) (i := 4) (by decide))) (fun _ _ _ _ _ => dts_nil) (fun _ _ _ _ _ => (de_tup (da_cons (de_var 4) (da_cons (de_get1 hr (de_var 3) (de_var 4) ⟨rfl, rfl, rfl, rfl⟩) da_nil))))) da_nil)) da_nil))))))), ?run⟩), F.binds (ps := ["program", "name", "values"]) fun _ _ _ _ _ _ us hl => match us, hl with | [_, _, _], _ => rfl, mf, F⟩
  case len => obtain ⟨ks, ps, rfl, _⟩ := h; rfl
  case run =>
    obtain ⟨ks, ps, rfl, h⟩ := h
    simp only [dVar, dC, dOp, dUn, dChain, dTr, dB, dAnd, dOr, dNot, dIf, dAndV, dOrV, dNotV, dNil, dCons, dTup, dLst, dLf, dNext, dSeq, dBreak, dCont, dDrop, dRet, dRetN, dIfS, gdName, gdNil, gdCons, gdTup, gdSub, dAsg, dPar, dCall, dCallK, dCB, dM0, dM, dGet1, dGet2, dDk, dDt, dPart, dNoPart, dSlice, dAug, dYes, dSort2, revD, iTupD, iLstD, iLf, iLw, iRange1, iRange2, iRange3, iEnumD, iZipD, iZipMD, iStrD, dGix, dDc, dIsi, dSortSet, dLenSet, dDlit, gdLst, dFor, dWhile, dLc, dLcM, dFld, dFldSet, dFldAdd, dMeth, dMake, dPar3, dDisp, dPrs, dFsi, dGget, dKgt, dKgtL, dDz, iEnumMD, dCut, dTcut, wipeD, bodyE, startD, List.map_cons, List.map_nil, List.length_cons, List.length_nil, List.replicate_succ, List.replicate_zero, List.cons_append, List.nil_append, Nat.reduceAdd, Nat.reduceSub, Nat.zero_add, List.getElem?_cons_zero, List.getElem?_cons_succ, List.set_cons_zero, List.set_cons_succ, Option.some.injEq, exists_eq_left', exists_eq_left, if_true, sizeLine_eq, Nat.reduceLeDiff, Nat.reduceLT, Nat.zero_le, true_and, and_true, Bool.false_eq_true, if_false]
    obtain ⟨ok, q⟩ := h
    obtain ⟨p, hp, hm⟩ := pcOf_ex ok.m
    have p6 := ok.l
    refine ⟨_, ps, _, p, rfl, by omega, hp, ix_sq rfl rfl (at_n (i := 1) rfl) ⟨?_, fun A nA => ⟨ks, ps, _, rfl, ok, ok.m, fun ys hs => ⟨_, .inl rfl, ?_⟩⟩⟩⟩
    · have := ok.mp p hp
      show [ysD p.2.1, D.tup []] = _
      rw [this]
      rfl
    have yl : ys.length ≤ 13 := by
      have hn : ∀ y ∈ ys, y ∈ nm14 := fun y hy => by
        have := (hs.2.2 y).mp hy
        unfold varsOf at this
        rw [hp] at this
        exact (ok.p p hm).nm y this
      exact nd_len ys nm14 hs.2.1 hn
    refine lc_mp (fun d => .tup [d, .non]) (by rw [List.length_map]; omega) (fun W i x acc hx w => ?_) ?_
    · obtain ⟨z, hz, rfl⟩ := map_at hx
      exact ⟨ty_dk up_same, none, at_dk up_same (κ := .inr z) rfl, w⟩
    · refine tpl_l rfl (rt_up nA ?_)
      rw [List.map_map]
      exact q ys hs
def sp_first_state : SpD := fun ds S Q _ => ∃ (ks : List Hd) (ps : List Pc), ds = [prD (.tup (ks.map hdD)) ps] ∧ PrOk ks ps ∧ ∀ ys, IsSd (varsOf ps "main") ys → Q (.tup [.tup [frD "main" ys], .tup [], .int 0]) S
theorem ok_first_state {P : Program} {w : World} {K : PySem.W.Frag} {mg : Str → Option Value} {base : Heap} (T : Txt K w mg) (C_first_frame : Cal P w K mg base 4 "first_frame" s_first_frame ["program", "name", "values"] sp_first_frame) {ff : Addr} {fd : FuncData} (F : Fun K "first_state" "first_state" s_first_state ff fd) (mf : mg "first_state" = some (.ref ff)) : Cal P w K mg base 5 "first_state" s_first_state ["program"] sp_first_state := by
  refine ⟨ff, fd, okD F sc_first_state (fun ds S Q E h => ?len) (fun cdv A outer s H E ds S Q E' hcd hr h => ⟨_, (dss_one (ds_ret (de_tup (da_cons (de_tup (da_cons (de_c C_first_frame hr (da_cons (de_var 0) (da_cons de_str (da_cons (de_tup da_nil) da_nil)))) da_nil)) (da_cons (de_tup da_nil) (da_cons de_int da_nil)))))), ?run⟩), F.binds (ps := ["program"]) fun _ _ _ _ _ _ us hl => match us, hl with | [_], _ => rfl, mf, F⟩
  case len => obtain ⟨ks, ps, rfl, _⟩ := h; rfl
  case run =>
    obtain ⟨ks, ps, rfl, h⟩ := h
    simp only [dVar, dC, dOp, dUn, dChain, dTr, dB, dAnd, dOr, dNot, dIf, dAndV, dOrV, dNotV, dNil, dCons, dTup, dLst, dLf, dNext, dSeq, dBreak, dCont, dDrop, dRet, dRetN, dIfS, gdName, gdNil, gdCons, gdTup, gdSub, dAsg, dPar, dCall, dCallK, dCB, dM0, dM, dGet1, dGet2, dDk, dDt, dPart, dNoPart, dSlice, dAug, dYes, dSort2, revD, iTupD, iLstD, iLf, iLw, iRange1, iRange2, iRange3, iEnumD, iZipD, iZipMD, iStrD, dGix, dDc, dIsi, dSortSet, dLenSet, dDlit, gdLst, dFor, dWhile, dLc, dLcM, dFld, dFldSet, dFldAdd, dMeth, dMake, dPar3, dDisp, dPrs, dFsi, dGget, dKgt, dKgtL, dDz, iEnumMD, dCut, dTcut, wipeD, bodyE, startD, List.map_cons, List.map_nil, List.length_cons, List.length_nil, List.replicate_succ, List.replicate_zero, List.cons_append, List.nil_append, Nat.reduceAdd, Nat.reduceSub, Nat.zero_add, List.getElem?_cons_zero, List.getElem?_cons_succ, List.set_cons_zero, List.set_cons_succ, Option.some.injEq, exists_eq_left', exists_eq_left, if_true, sizeLine_eq, Nat.reduceLeDiff, Nat.reduceLT, Nat.zero_le, true_and, and_true, Bool.false_eq_true, if_false]
    obtain ⟨ok, q⟩ := h
    exact ⟨ks, ps, rfl, ok, fun ys hs => rt_of (q ys hs)⟩
end K10

namespace K10
open PySem L2 PyProof.Rows DL
theorem in_ints {neg : Bool} {S : Sto} {A : Addr} {ns : List Int} {i : Int} {Q : KD} (e : S A = some (.lst (ns.map D.int))) (q : Q (.bl (xor neg (decide (i ∈ ns)))) S) : inD neg (.int i) (.ref A) S Q := by
  have cm : ∀ d ∈ ns.map D.int, Cm 0 d := fun d hd => by
    obtain ⟨i, _, rfl⟩ := List.mem_map.mp hd
    exact Cm.int
  unfold inD
  exact .inl ⟨_, sq_l e, (Cm.int (k := 0)).shaped, (Cm.tup cm).shaped, (Cm.fl cm).shaped, by rw [any_int]; exact q⟩
def intF (lo hi : Int) : D → Bool
  | .at (.int i) => decide (lo ≤ i) && decide (i ≤ hi)
  | _ => false
theorem intF_no {lo hi : Int} {d : D} (h : isI d = false) : intF lo hi d = false := by
  unfold intF
  split
  · cases h
  · rfl
theorem big : (10 : Int) ^ (50 : Int).toNat = 100000000000000000000000000000000000000000000000000 := by decide +kernel
theorem len_is {ds : List D} {m : Nat} {S : Sto} {A B : Sto → Prop} (b : ds.length = m → A S) (a : ds.length ≠ m → B S) : lenD [.tup ds] S fun x S1 => eqD false x (.int (m : Nat)) S1 fun x S1 => ∃ c, x = .bl c ∧ if c = true then A S1 else B S1 :=
  len_sq rfl ⟨_, rfl, br2 (fun h => b (by have := of_xt h; omega)) fun h => a (by have := of_xf h; omega)⟩
theorem eq_tx {S : Sto} {n : Nat} {d : D} {z : Str} {Q : KD} (h : gv S n d) (q : Q (.bl (decide (d = .str z))) S) : eqTD d (.str z) S Q := by
  obtain ⟨t, h1, _⟩ := gv_ty h
  exact ⟨z, t, rfl, h1, nodt h, q⟩
theorem numI (d : D) : intF 0 1000002 d = numF d := by
  cases d with
  | «at» v =>
    cases v with
    | int i =>
      show (decide ((0 : Int) ≤ i) && decide (i ≤ 1000002)) = (decide ((0 : Int) ≤ i) && decide (i < 1000003))
      congr 1
      exact decide_eq_decide.mpr (by omega)
    | _ => rfl
  | _ => rfl
theorem val_num {ns : List Int} {d : D} (h : isTp d = false) (h2 : d ≠ .non) : valF ns d = intF 0 1000002 d := by rw [numI]; exact val_else h h2
theorem fst1_tp {d : D} (h : isTp d = false) : fst1 d = none := by
  unfold fst1
  split
  · cases h
  · rfl
theorem fst1_s {a : D} {r : List D} (h : isS a = false) : fst1 (.tup (a :: r)) = none := by
  unfold fst1
  split
  · rename_i e; cases e; cases h
  · rfl
theorem fm1 {l : List D} {i : Nat} {x : D} (h : l[i]? = some x) : (l.take (i + 1)).filterMap fst1 = (l.take i).filterMap fst1 ++ (fst1 x).toList := by
  rw [tk1 h, List.filterMap_append]
  cases e : fst1 x <;> simp [e]
/-- what a row adds to the names, as the law reads it -/
def Rw.ov : Rw → List (Option Str)
  | .copy x y => [some x, some y]
  | .none x => [some x]
  | .num x _ => [some x]
  | .sum _ x y z => [some x, some y, some z]
  | .read x y _ => [some x, some y]
  | .inp x => [x]
  | .tell y => [some y]
  | .ret y => [some y]
  | .jump _ => []
  | .test _ y z _ => [some y, some z]
  | .isk y _ _ => [some y]
  | .make x _ ys => some x :: ys.map some
  | .call x _ ys => x :: ys.map some
theorem ov_vs (r : Rw) : r.ov.filterMap id = r.vs := by
  have e : ∀ ys : List Str, (ys.map some).filterMap id = ys := fun ys => by rw [List.filterMap_map]; exact List.filterMap_some
  cases r with
  | inp x => cases x <;> rfl
  | make x k ys => unfold Rw.ov Rw.vs; simp
  | call x k ys => unfold Rw.ov Rw.vs; cases x <;> simp
  | _ => rfl
theorem lc_pcs {ps : List Pc} {S : Sto} {Q : List D → Sto → Prop} {B : (Nat → List D → Sto → Prop) → Nat → List D → D → Sto → Prop} (x : Str) (h6 : ps.length ≤ 6)
    (hs : ∀ (W : Nat → List D → Sto → Prop) (i : Nat) (p : Pc) (acc : List D), ps[i]? = some p → (p.1 = x → W (i + 1) (acc ++ [pcD p]) S) → (p.1 ≠ x → W (i + 1) acc S) → B W i acc (pcD p) S) (hd : Q ((ps.filter fun p => decide (p.1 = x)).map pcD) S) :
    ∃ (W : Nat → List D → Sto → Prop) (n : Nat), W 0 [] S ∧ ∀ i acc S2, W i acc S2 → ∃ r, seqI (ps.map pcD) i S2 = some r ∧ (r = none → Q acc S2) ∧ ∀ x, r = some x → i < n ∧ acc.length < sizeLine ∧ B W i acc x S2 :=
  lc_seq (fun i acc S' => S' = S ∧ acc = ((ps.take i).filter fun p => decide (p.1 = x)).map pcD) ⟨rfl, rfl⟩ (by
    rintro i y acc S' hx ⟨rfl, rfl⟩
    obtain ⟨p, hp, rfl⟩ := map_at hx
    refine ⟨by have := List.length_filter_le (fun p : Pc => decide (p.1 = x)) (ps.take i); rw [List.length_take] at this; rw [List.length_map, sizeLine_eq]; omega, hs (fun i acc S2 => S2 = S' ∧ acc = ((ps.take i).filter fun p => decide (p.1 = x)).map pcD) i p _ hp (fun h => ⟨rfl, ?_⟩) fun h => ⟨rfl, ?_⟩⟩
    · rw [tk1 hp, List.filter_append, List.map_append, List.filter_cons, if_pos (by simpa using h)]; rfl
    · rw [tk1 hp, List.filter_append, List.filter_cons, if_neg (by simpa using h)]; simp) (by
    rintro i acc S' hi ⟨rfl, rfl⟩
    rw [List.take_of_length_le (by simpa using hi)]; exact hd)
theorem pc_at {ps : List Pc} {x : Str} {p : Pc} (h : pcOf ps x = some p) : atI ((ps.filter fun p => decide (p.1 = x)).map pcD) 0 = some (pcD p) := at_n (i := 0) (by rw [List.getElem?_map]; unfold pcOf at h; rw [h]; rfl)
/-- how many parts of a row are variables, as the law has it written -/
def dk8 : List (Key × D) := List.map (fun q => (q.fst, D.at q.snd)) (mergeK [] [(Sum.inr (Str.ofString "copy"), V.int 2), (Sum.inr (Str.ofString "plus"), V.int 3), (Sum.inr (Str.ofString "minus"), V.int 3), (Sum.inr (Str.ofString "times"), V.int 3), (Sum.inr (Str.ofString "read"), V.int 2), (Sum.inr (Str.ofString "less"), V.int 2), (Sum.inr (Str.ofString "same"), V.int 2), (Sum.inr (Str.ofString "jump"), V.int 0)])
def mc : List Str := ["make", "call"]
theorem mny : ∀ q ∈ ([("copy", 2), ("none", 1), ("number", 1), ("plus", 3), ("minus", 3), ("times", 3), ("read", 2), ("input", 1), ("tell", 1), ("return", 1), ("jump", 0), ("less", 2), ("same", 2), ("is", 1)] : List (Str × Nat)), q.1 ∉ mc ∧ (valD dk8 (.inr q.1)).getD (.int 1) = .int (q.2 : Nat) := by decide +kernel
theorem ov_cls {n : Nat} {fs : List Str} {r : Rw} (ok : r.Ok n fs) : (∃ a b ys, r.ps = [a, b, ysD ys] ∧ r.h ∈ mc ∧ r.ov.map oD = a :: ys.map D.str ∧ ys.length ≤ 4) ∨
    (∃ k : Nat, r.h ∉ mc ∧ (valD dk8 (.inr r.h)).getD (.int 1) = .int (k : Nat) ∧ DL.cutD (.str r.h :: r.ps) (some 1) (some ((1 : Int) + (k : Nat))) = r.ov.map oD ∧ r.ov.length ≤ 3) := by
  have f : ∀ (w : Str) (k : Nat), (w, k) ∈ ([("copy", 2), ("none", 1), ("number", 1), ("plus", 3), ("minus", 3), ("times", 3), ("read", 2), ("input", 1), ("tell", 1), ("return", 1), ("jump", 0), ("less", 2), ("same", 2), ("is", 1)] : List (Str × Nat)) → w ∉ mc ∧ (valD dk8 (.inr w)).getD (.int 1) = .int (k : Nat) := fun w k h => mny (w, k) h
  have e : ∀ ys : List Str, (ys.map some).map oD = ys.map D.str := fun ys => by rw [List.map_map]; rfl
  cases r with
  | copy x y => exact .inr ⟨2, (f "copy" 2 (by simp)).1, (f "copy" 2 (by simp)).2, rfl, Nat.le_of_ble_eq_true rfl⟩
  | none x => exact .inr ⟨1, (f "none" 1 (by simp)).1, (f "none" 1 (by simp)).2, rfl, Nat.le_of_ble_eq_true rfl⟩
  | num x i => exact .inr ⟨1, (f "number" 1 (by simp)).1, (f "number" 1 (by simp)).2, rfl, Nat.le_of_ble_eq_true rfl⟩
  | sum w x y z =>
    have h' : w ∈ sums := ok
    simp only [sums, List.mem_cons, List.not_mem_nil, or_false] at h'
    rcases h' with rfl | rfl | rfl
    · exact .inr ⟨3, (f "plus" 3 (by simp)).1, (f "plus" 3 (by simp)).2, rfl, Nat.le_of_ble_eq_true rfl⟩
    · exact .inr ⟨3, (f "minus" 3 (by simp)).1, (f "minus" 3 (by simp)).2, rfl, Nat.le_of_ble_eq_true rfl⟩
    · exact .inr ⟨3, (f "times" 3 (by simp)).1, (f "times" 3 (by simp)).2, rfl, Nat.le_of_ble_eq_true rfl⟩
  | read x y z => exact .inr ⟨2, (f "read" 2 (by simp)).1, (f "read" 2 (by simp)).2, rfl, Nat.le_of_ble_eq_true rfl⟩
  | inp x => exact .inr ⟨1, (f "input" 1 (by simp)).1, (f "input" 1 (by simp)).2, rfl, Nat.le_of_ble_eq_true rfl⟩
  | tell y => exact .inr ⟨1, (f "tell" 1 (by simp)).1, (f "tell" 1 (by simp)).2, rfl, Nat.le_of_ble_eq_true rfl⟩
  | ret y => exact .inr ⟨1, (f "return" 1 (by simp)).1, (f "return" 1 (by simp)).2, rfl, Nat.le_of_ble_eq_true rfl⟩
  | jump t => exact .inr ⟨0, (f "jump" 0 (by simp)).1, (f "jump" 0 (by simp)).2, rfl, Nat.le_of_ble_eq_true rfl⟩
  | test w y z t =>
    obtain ⟨h', _⟩ := ok
    rcases h' with rfl | rfl
    · exact .inr ⟨2, (f "less" 2 (by simp)).1, (f "less" 2 (by simp)).2, rfl, Nat.le_of_ble_eq_true rfl⟩
    · exact .inr ⟨2, (f "same" 2 (by simp)).1, (f "same" 2 (by simp)).2, rfl, Nat.le_of_ble_eq_true rfl⟩
  | isk y k t => exact .inr ⟨1, (f "is" 1 (by simp)).1, (f "is" 1 (by simp)).2, rfl, Nat.le_of_ble_eq_true rfl⟩
  | make x k ys => exact .inl ⟨_, _, ys, rfl, by show ("make" : Str) ∈ mc; decide +kernel, by rw [← e]; rfl, ok⟩
  | call x p ys => exact .inl ⟨_, _, ys, rfl, by show ("call" : Str) ∈ mc; decide +kernel, by rw [← e]; rfl, ok.2⟩
/-- the names found in the parameters and the first rows -/
def fnd (p : Pc) (i : Nat) : List (Option Str) := p.2.1.map some ++ (p.2.2.take i).flatMap Rw.ov
theorem fnd_next {p : Pc} {i : Nat} {r : Rw} (h : p.2.2[i]? = some r) : fnd p (i + 1) = fnd p i ++ r.ov := by
  unfold fnd
  rw [tk1 h, List.flatMap_append, List.append_assoc]
  simp
theorem fnd_len {fs : List Str} {p : Pc} (ok : PcOk fs p) (i : Nat) : (fnd p i).length ≤ 110 := by
  have hb : ∀ l : List Rw, (∀ r ∈ l, r.ov.length ≤ 5) → (l.flatMap Rw.ov).length ≤ 5 * l.length := by
    intro l
    induction l with
    | nil => intro _; exact Nat.le_refl _
    | cons r l ih =>
      intro h
      have := ih fun x hx => h x (List.mem_cons_of_mem _ hx)
      have := h r List.mem_cons_self
      rw [List.flatMap_cons, List.length_append, List.length_cons]
      omega
  have h5 : ∀ r ∈ p.2.2.take i, r.ov.length ≤ 5 := fun r hr => by
    rcases ov_cls (ok.ok r (List.mem_of_mem_take hr)) with ⟨a, b, ys, _, _, e, h⟩ | ⟨k, _, _, _, h⟩
    · have := congrArg List.length e
      rw [List.length_map, List.length_cons, List.length_map] at this
      omega
    · omega
  have := hb _ h5
  have := ok.pl
  have := ok.rl
  unfold fnd
  rw [List.length_append, List.length_map]
  rw [List.length_take] at *
  omega
theorem fnd_vars (p : Pc) : (fnd p p.2.2.length).filterMap id = vars p.2.1 p.2.2 := by
  unfold fnd vars
  rw [List.take_length, List.filterMap_append]
  congr 1
  · simp
  · induction p.2.2 with
    | nil => rfl
    | cons r l ih => rw [List.flatMap_cons, List.filterMap_append, ov_vs, ih, List.flatMap_cons]
theorem lc_hds {ks : List Hd} {S : Sto} {Q : List D → Sto → Prop} {B : (Nat → List D → Sto → Prop) → Nat → List D → D → Sto → Prop} (f : Hd → Bool) (h6 : ks.length ≤ 10)
    (hs : ∀ (W : Nat → List D → Sto → Prop) (i : Nat) (p : Hd) (acc : List D), ks[i]? = some p → (f p = true → W (i + 1) (acc ++ [hdD p]) S) → (f p = false → W (i + 1) acc S) → B W i acc (hdD p) S) (hd : Q ((ks.filter f).map hdD) S) :
    ∃ (W : Nat → List D → Sto → Prop) (n : Nat), W 0 [] S ∧ ∀ i acc S2, W i acc S2 → ∃ r, seqI (ks.map hdD) i S2 = some r ∧ (r = none → Q acc S2) ∧ ∀ x, r = some x → i < n ∧ acc.length < sizeLine ∧ B W i acc x S2 :=
  lc_seq (fun i acc S' => S' = S ∧ acc = ((ks.take i).filter f).map hdD) ⟨rfl, rfl⟩ (by
    rintro i y acc S' hx ⟨rfl, rfl⟩
    obtain ⟨p, hp, rfl⟩ := map_at hx
    refine ⟨by have := List.length_filter_le f (ks.take i); rw [List.length_take] at this; rw [List.length_map, sizeLine_eq]; omega, hs (fun i acc S2 => S2 = S' ∧ acc = ((ks.take i).filter f).map hdD) i p _ hp (fun h => ⟨rfl, ?_⟩) fun h => ⟨rfl, ?_⟩⟩
    · rw [tk1 hp, List.filter_append, List.map_append, List.filter_cons, if_pos h]; rfl
    · rw [tk1 hp, List.filter_append, List.filter_cons, if_neg (by rw [h]; exact Bool.false_ne_true)]; simp) (by
    rintro i acc S' hi ⟨rfl, rfl⟩
    rw [List.take_of_length_le (by simpa using hi)]; exact hd)
theorem nms_str {S : Sto} {n : Nat} {d : D} (h : gv S n d) : ∀ z ∈ nmsD d, PyData.strOk z = true := by
  intro z hz
  unfold nmsD at hz
  split at hz
  · rename_i ps
    obtain ⟨x, hx, e⟩ := List.mem_filterMap.mp hz
    have g := (gv_tup.mp h).2 x hx
    unfold fst1 at e
    split at e
    · cases e
      exact (gv_str.mp ((gv_tup.mp g).2 _ List.mem_cons_self)).1
    · cases e
  · cases hz
theorem cellN_num {ks : List Hd} {ns : List Int} {i j : Int} {b c : D} (h : cellN ks ns (.tup [.int i, b, c]) = some j) : j = i := by
  unfold cellN at h
  split at h
  · rename_i e
    cases e
    split at h
    · split at h
      · cases h; rfl
      · cases h
    · cases h
  · cases h
/-- a cell whose number is out of line -/
theorem cells_out {ks : List Hd} {m : Int} {cs : List D} {ns : List Int} {last i : Int} {b c : D} (h : ¬ (last < i ∧ i < m)) : cellsF ks m (.tup [.int i, b, c] :: cs) ns last = none := by
  unfold cellsF
  split
  · rename_i j e
    rw [cellN_num e, if_neg h]
  · rfl
end K10


namespace K10
open PySem L2 PyProof.Rows DL
def sp__law_int : SpD := fun ds S Q _ => ∃ (n : Nat) (d : D) (lo hi : Int), ds = [d, .int lo, .int hi] ∧ gv S n d ∧ Q (.bl (intF lo hi d)) S
theorem ok__law_int {P : Program} {w : World} {K : PySem.W.Frag} {mg : Str → Option Value} {base : Heap} (T : Txt K w mg)  {ff : Addr} {fd : FuncData} (F : Fun K "_law_int" "_law_int" s__law_int ff fd) (mf : mg "_law_int" = some (.ref ff)) : Cal P w K mg base 1 "_law_int" s__law_int ["given", "low", "high"] sp__law_int := by
  refine ⟨ff, fd, okD F sc__law_int (fun ds S Q E h => ?len) (fun cdv A outer s H E ds S Q E' hcd hr h => ⟨_, (dss_one (ds_ret (de_and (de_isi (tn := "int") (by rfl) T.nb_isinstance (by rfl) T.nb_int (de_var 0)) (de_and (de_not (de_isi (tn := "bool") (by rfl) T.nb_isinstance (by rfl) T.nb_bool (de_var 0))) (de_one (de_chain od_le od_le (de_var 1) (de_var 0) (de_var 2))))))), ?run⟩), F.binds (ps := ["given", "low", "high"]) fun _ _ _ _ _ _ us hl => match us, hl with | [_, _, _], _ => rfl, mf, F⟩
  case len => obtain ⟨n, d, lo, hi, rfl, _⟩ := h; rfl
  case run =>
    obtain ⟨n, d, lo, hi, rfl, h⟩ := h
    simp only [dVar, dC, dOp, dUn, dChain, dTr, dB, dAnd, dOr, dNot, dIf, dAndV, dOrV, dNotV, dNil, dCons, dTup, dLst, dLf, dNext, dSeq, dBreak, dCont, dDrop, dRet, dRetN, dIfS, gdName, gdNil, gdCons, gdTup, gdSub, dAsg, dPar, dCall, dCallK, dCB, dM0, dM, dGet1, dGet2, dDk, dDt, dPart, dNoPart, dSlice, dAug, dYes, dSort2, revD, iTupD, iLstD, iLf, iLw, iRange1, iRange2, iRange3, iEnumD, iZipD, iZipMD, iStrD, dGix, dDc, dIsi, dSortSet, dLenSet, dDlit, gdLst, dFor, dWhile, dLc, dLcM, dFld, dFldSet, dFldAdd, dMeth, dMake, dPar3, dDisp, dPrs, dFsi, dGget, dKgt, dKgtL, dDz, iEnumMD, dCut, dTcut, wipeD, bodyE, startD, List.map_cons, List.map_nil, List.length_cons, List.length_nil, List.replicate_succ, List.replicate_zero, List.cons_append, List.nil_append, Nat.reduceAdd, Nat.reduceSub, Nat.zero_add, List.getElem?_cons_zero, List.getElem?_cons_succ, List.set_cons_zero, List.set_cons_succ, Option.some.injEq, exists_eq_left', exists_eq_left, if_true, sizeLine_eq, Nat.reduceLeDiff, Nat.reduceLT, Nat.zero_le, true_and, and_true, Bool.false_eq_true, if_false]
    obtain ⟨hd, q⟩ := h
    obtain ⟨t, h1, h2, h3, h4, h5⟩ := gv_ty hd
    refine ⟨t, h1, _, rfl, ?_⟩
    rw [h4]
    cases hI : isI d with
    | true =>
      obtain ⟨i, rfl⟩ := i_of hI
      have q : Q (.bl (decide (lo ≤ i) && decide (i ≤ hi))) S := q
      refine brT rfl ⟨t, h1, _, rfl, _, rfl, brT (by rw [h5]; rfl) (it_of trivial ⟨_, rfl, br2 (fun h => it_of trivial (rt_of ?_)) fun h => rt_of ?_⟩)⟩
      · rw [h, Bool.true_and] at q
        exact q
      · rw [h] at q
        exact q
    | false =>
      rw [intF_no hI] at q
      cases hB : isB d with
      | true => exact brT rfl ⟨t, h1, _, rfl, _, rfl, brF (by rw [h5, hB]; rfl) (rt_of q)⟩
      | false => exact brF rfl (rt_of q)
def sp__law_fine : SpD := fun ds S Q _ => ∃ (n : Nat) (d : D) (A : Addr) (ns : List Int), ds = [d, .ref A] ∧ gv S n d ∧ n ≤ 10 ∧ S A = some (.lst (ns.map D.int)) ∧ (∀ i ∈ ns, 0 ≤ i ∧ i ≤ 10 ^ 40) ∧ Q (.bl (valF ns d)) S
theorem ok__law_fine {P : Program} {w : World} {K : PySem.W.Frag} {mg : Str → Option Value} {base : Heap} (T : Txt K w mg) (C__law_int : Cal P w K mg base 1 "_law_int" s__law_int ["given", "low", "high"] sp__law_int) {ff : Addr} {fd : FuncData} (F : Fun K "_law_fine" "_law_fine" s__law_fine ff fd) (mf : mg "_law_fine" = some (.ref ff)) : Cal P w K mg base 2 "_law_fine" s__law_fine ["given", "numbers"] sp__law_fine := by
  refine ⟨ff, fd, okD F sc__law_fine (fun ds S Q E h => ?len) (fun cdv A outer s H E ds S Q E' hcd hr h => ⟨_, (dss_cons (ds_if (dt_tr td_tru (de_isi (tn := "tuple") (by rfl) T.nb_isinstance (by rfl) T.nb_tuple (de_var 0))) (dss_one (ds_ret (de_and (de_cmp (od_eq hr) (de_callB cd_len (by rfl) T.nb_len (da_cons (de_var 0) da_nil)) de_int) (de_and (de_cmp (od_eqT hr) (de_ix (xd_ix hr) (de_var 0) de_int) de_str) (de_and (de_c C__law_int hr (da_cons (de_ix (xd_ix hr) (de_var 0) de_int) (da_cons de_int (da_cons (de_op od_pow de_int de_int) da_nil)))) (de_one (de_cmp (od_in hr) (de_ix (xd_ix hr) (de_var 0) de_int) (de_var 1)))))))) dss_nil)
      (dss_one (ds_ret (de_or (de_cmp od_is (de_var 0) de_non) (de_one (de_c C__law_int hr (da_cons (de_var 0) (da_cons de_int (da_cons de_int da_nil))))))))), ?run⟩), F.binds (ps := ["given", "numbers"]) fun _ _ _ _ _ _ us hl => match us, hl with | [_, _], _ => rfl, mf, F⟩
  case len => obtain ⟨n, d, A, ns, rfl, _⟩ := h; rfl
  case run =>
    obtain ⟨n, d, A, ns, rfl, h⟩ := h
    simp only [dVar, dC, dOp, dUn, dChain, dTr, dB, dAnd, dOr, dNot, dIf, dAndV, dOrV, dNotV, dNil, dCons, dTup, dLst, dLf, dNext, dSeq, dBreak, dCont, dDrop, dRet, dRetN, dIfS, gdName, gdNil, gdCons, gdTup, gdSub, dAsg, dPar, dCall, dCallK, dCB, dM0, dM, dGet1, dGet2, dDk, dDt, dPart, dNoPart, dSlice, dAug, dYes, dSort2, revD, iTupD, iLstD, iLf, iLw, iRange1, iRange2, iRange3, iEnumD, iZipD, iZipMD, iStrD, dGix, dDc, dIsi, dSortSet, dLenSet, dDlit, gdLst, dFor, dWhile, dLc, dLcM, dFld, dFldSet, dFldAdd, dMeth, dMake, dPar3, dDisp, dPrs, dFsi, dGget, dKgt, dKgtL, dDz, iEnumMD, dCut, dTcut, wipeD, bodyE, startD, List.map_cons, List.map_nil, List.length_cons, List.length_nil, List.replicate_succ, List.replicate_zero, List.cons_append, List.nil_append, Nat.reduceAdd, Nat.reduceSub, Nat.zero_add, List.getElem?_cons_zero, List.getElem?_cons_succ, List.set_cons_zero, List.set_cons_succ, Option.some.injEq, exists_eq_left', exists_eq_left, if_true, sizeLine_eq, Nat.reduceLeDiff, Nat.reduceLT, Nat.zero_le, true_and, and_true, Bool.false_eq_true, if_false]
    obtain ⟨hd, hn, hA, hns, q⟩ := h
    refine ty_tp hd (fun ds e => ?_) fun e => ?_
    · subst e
      obtain ⟨_, hds⟩ := gv_tup.mp hd
      refine brT rfl (len_is (m := 2) (fun h => ?_) fun h => rt_of (by rw [val_len h] at q; exact q))
      obtain ⟨a, b, rfl⟩ := two h
      have ha := hds a (by simp)
      have hb := hds b (by simp)
      refine ix_sq rfl rfl at_0 (eq_tx ha ⟨_, rfl, br2 (fun h => ?_) fun h => rt_of (by rw [val_a (of_decide_eq_false h)] at q; exact q)⟩)
      have h := of_decide_eq_true h
      subst h
      refine ix_sq rfl rfl (at_n (i := 1) rfl) (it_of ⟨by decide, by decide, by decide⟩ ?_)
      refine ⟨n, b, 0, _, rfl, hb, _, rfl, ?_⟩
      cases hI : isI b with
      | false => exact brF (intF_no hI) (rt_of (by rw [val_b hI] at q; exact q))
      | true =>
        obtain ⟨i, rfl⟩ := i_of hI
        rw [val_cell] at q
        refine br2 (fun h => ix_sq rfl rfl (at_n (i := 1) rfl) (in_ints hA (rt_of (by rw [Bool.false_xor]; exact q)))) fun h => rt_of ?_
        have e : decide (i ∈ ns) = false := decide_eq_false fun hm => by
          obtain ⟨h0, h1⟩ := hns i hm
          have : (decide ((0 : Int) ≤ i) && decide (i ≤ (10 : Int) ^ (50 : Int).toNat)) = true := by
            rw [decide_eq_true h0, big, decide_eq_true (by omega)]; rfl
          rw [show intF 0 ((10 : Int) ^ (50 : Int).toNat) (.int i) = (decide ((0 : Int) ≤ i) && decide (i ≤ (10 : Int) ^ (50 : Int).toNat)) from rfl, this] at h
          cases h
        rw [e] at q
        exact q
    · refine brF rfl ⟨rfl, _, rfl, br2 (fun h => rt_of ?_) fun h => ⟨n, d, _, _, rfl, hd, rt_of ?_⟩⟩
      · have h : d = .non := of_xt h
        subst h
        exact q
      · have h : d ≠ .non := of_xf h
        rw [val_num e h] at q
        exact q
def sp__law_pairs_fine : SpD := fun ds S Q _ => ∃ (n : Nat) (d : D) (A : Addr) (ns : List Int) (zs : List Str), ds = [d, .fl (zs.map D.str), .ref A] ∧ gv S n d ∧ n ≤ 10 ∧ S A = some (.lst (ns.map D.int)) ∧ (∀ i ∈ ns, 0 ≤ i ∧ i ≤ 10 ^ 40) ∧ (∀ z ∈ zs, PyData.strOk z = true) ∧ Q (.bl (decide (prsD ns d = some zs))) S
theorem ok__law_pairs_fine {P : Program} {w : World} {K : PySem.W.Frag} {mg : Str → Option Value} {base : Heap} (T : Txt K w mg) (C__law_fine : Cal P w K mg base 2 "_law_fine" s__law_fine ["given", "numbers"] sp__law_fine) {ff : Addr} {fd : FuncData} (F : Fun K "_law_pairs_fine" "_law_pairs_fine" s__law_pairs_fine ff fd) (mf : mg "_law_pairs_fine" = some (.ref ff)) : Cal P w K mg base 3 "_law_pairs_fine" s__law_pairs_fine ["given", "names", "numbers"] sp__law_pairs_fine := by
  refine ⟨ff, fd, okD F sc__law_pairs_fine (fun ds S Q E h => ?len) (fun cdv A outer s H E ds S Q E' hcd hr h => ⟨_, (dss_cons (ds_if (dw_or (dt_not (dt_tr td_tru (de_isi (tn := "tuple") (by rfl) T.nb_isinstance (by rfl) T.nb_tuple (de_var 0)))) (dw_or1 (dt_cmp (od_ne hr) (de_callB cd_len (by rfl) T.nb_len (da_cons (de_var 0) da_nil)) (de_callB cd_len (by rfl) T.nb_len (da_cons (de_var 1) da_nil))))).pt (dss_one (ds_ret de_bl)) dss_nil)
      (dss_cons (ds_for PassesOwn.never rfl (di_zipM (by rfl) T.nb_zip (da_cons (de_var 0) (da_cons (de_var 1) da_nil))) (dg_tup (n := 2) rfl (dgs_cons (dg_name 3 sc__law_pairs_fine.nd) (dgs_cons (dg_name 4 sc__law_pairs_fine.nd) dgs_nil))) (dss_cons (ds_if (dw_or (dt_not (dt_tr td_tru (de_isi (tn := "tuple") (by rfl) T.nb_isinstance (by rfl) T.nb_tuple (de_var 3)))) (dw_or (dt_cmp (od_ne hr) (de_callB cd_len (by rfl) T.nb_len (da_cons (de_var 3) da_nil)) de_int) (dw_or (dt_not (dt_tr td_tru (de_isi (tn := "str") (by rfl) T.nb_isinstance (by rfl) T.nb_str (de_ix (xd_ix hr) (de_var 3) de_int)))) (dw_or1 (dt_cmp (od_ne hr) (de_ix (xd_ix hr) (de_var 3) de_int) (de_var 4)))))).pt (dss_one (ds_ret de_bl)) dss_nil)
      (dss_one (ds_if (dt_not (dt_tr td_tru (de_c C__law_fine hr (da_cons (de_ix (xd_ix hr) (de_var 3) de_int) (da_cons (de_var 2) da_nil))))) (dss_one (ds_ret de_bl)) dss_nil))))
      (dss_one (ds_ret de_bl)))), ?run⟩), F.binds (ps := ["given", "names", "numbers"]) fun _ _ _ _ _ _ us hl => match us, hl with | [_, _, _], _ => rfl, mf, F⟩
  case len => obtain ⟨n, d, A, ns, zs, rfl, _⟩ := h; rfl
  case run =>
    obtain ⟨n, d, A, ns, zs, rfl, h⟩ := h
    simp only [dVar, dC, dOp, dUn, dChain, dTr, dB, dAnd, dOr, dNot, dIf, dAndV, dOrV, dNotV, dNil, dCons, dTup, dLst, dLf, dNext, dSeq, dBreak, dCont, dDrop, dRet, dRetN, dIfS, gdName, gdNil, gdCons, gdTup, gdSub, dAsg, dPar, dCall, dCallK, dCB, dM0, dM, dGet1, dGet2, dDk, dDt, dPart, dNoPart, dSlice, dAug, dYes, dSort2, revD, iTupD, iLstD, iLf, iLw, iRange1, iRange2, iRange3, iEnumD, iZipD, iZipMD, iStrD, dGix, dDc, dIsi, dSortSet, dLenSet, dDlit, gdLst, dFor, dWhile, dLc, dLcM, dFld, dFldSet, dFldAdd, dMeth, dMake, dPar3, dDisp, dPrs, dFsi, dGget, dKgt, dKgtL, dDz, iEnumMD, dCut, dTcut, wipeD, bodyE, startD, List.map_cons, List.map_nil, List.length_cons, List.length_nil, List.replicate_succ, List.replicate_zero, List.cons_append, List.nil_append, Nat.reduceAdd, Nat.reduceSub, Nat.zero_add, List.getElem?_cons_zero, List.getElem?_cons_succ, List.set_cons_zero, List.set_cons_succ, Option.some.injEq, exists_eq_left', exists_eq_left, if_true, sizeLine_eq, Nat.reduceLeDiff, Nat.reduceLT, Nat.zero_le, true_and, and_true, Bool.false_eq_true, if_false]
    obtain ⟨hd, hn, hA, hns, hz, q⟩ := h
    have no : prsD ns d ≠ some zs → ∃ d1 S1, VW (D.bl false) S d1 S1 ∧ Q d1 S1 := fun e => rt_of (by
      rw [decide_eq_false e] at q
      exact q)
    refine ty_tp hd (fun xs e => ?_) fun e => brT rfl (no (by rw [prsD_tp e]; exact fun z => nomatch z))
    subst e
    obtain ⟨hl, hds⟩ := gv_tup.mp hd
    refine brF rfl (len_sq rfl (len_sq rfl ⟨_, rfl, ?_⟩))
    by_cases hlen : xs.length = zs.length
    rotate_left
    · exact brT (nxt (by rw [List.length_map]; omega)) (no fun e => hlen (prs_len (ds := xs) e).symm)
    refine brF (nxf (by rw [List.length_map]; omega)) ⟨_, _, _, _, rfl, rfl, rfl, fr_of xs.length (fun i δ S' => ∃ r3 r4, i ≤ xs.length ∧ δ = [some (.tup xs), some (.fl (zs.map D.str)), some (.ref A), r3, r4] ∧ S' = S ∧ prs ns (xs.take i) = some (zs.take i)) ⟨_, _, Nat.zero_le _, rfl, rfl, rfl⟩ ?_ ?_⟩
    · rintro i δ S' hi ⟨r3, r4, _, rfl, rfl, hp⟩
      have hx := List.getElem?_eq_getElem hi
      have hzi := List.getElem?_eq_getElem (l := zs) (i := i) (by omega)
      have hv := hds _ (List.getElem_mem hi)
      have hzk := hz _ (List.getElem_mem (l := zs) (n := i) (by omega))
      generalize xs[i] = x at hx hv
      generalize zs[i]'(by omega) = z at hzi hzk
      refine ⟨_, zip_at rfl rfl hx (by rw [List.getElem?_map, hzi]; rfl), _, rfl, rfl, _, _, rfl, _, _, rfl, rfl, ?_⟩
      have no : pr1 ns x ≠ some z → ∃ d1 S1, VW (D.bl false) S' d1 S1 ∧ Q d1 S1 := fun h => no fun e => by
        obtain ⟨z', e1, e2⟩ := prs_at (ds := xs) e hx
        rw [hzi] at e1
        cases e1
        exact h e2
      have non : pr1 ns x = none → ∃ d1 S1, VW (D.bl false) S' d1 S1 ∧ Q d1 S1 := fun h => no (by rw [h]; exact fun z => nomatch z)
      refine ⟨_, rfl, ty_tp hv (fun ys e => ?_) fun e => brT rfl (non (pr1_tp e))⟩
      subst e
      obtain ⟨_, hys⟩ := gv_tup.mp hv
      refine brF rfl ⟨_, rfl, len_ne (m := 2) (fun h => non (pr1_len h)) fun h => ?_⟩
      obtain ⟨a, b, rfl⟩ := two h
      have ha := hys a (by simp)
      have hb := hys b (by simp)
      refine ⟨_, rfl, ix_sq rfl rfl at_0 (ty_s ha (fun w e => ?_) fun e => brT rfl (non (pr1_s e)))⟩
      subst e
      refine brF rfl ⟨_, rfl, ix_sq rfl rfl at_0 ⟨_, rfl, eq_ss ⟨_, rfl, br2 (fun h => no fun e => ?_) fun h => ?_⟩⟩⟩
      · rw [pr1_of] at e
        split at e
        · cases e
          exact of_nxt h rfl
        · cases e
      · have h : w = z := of_nxf h
        subst h
        refine ⟨_, rfl, ix_sq rfl rfl (at_n (i := 1) rfl) ⟨_, rfl, n, b, A, ns, rfl, hb, hn, hA, hns, tru_b ?_⟩⟩
        cases hV : valF ns b with
        | false => exact brT rfl (non (by rw [pr1_of, hV]; rfl))
        | true =>
          refine brF rfl ⟨_, _, hi, rfl, rfl, ?_⟩
          rw [tk1 hx, tk1 hzi, prs_snoc, pr1_of, hV, hp]
          rfl
    · rintro i δ S' hi ⟨r3, r4, hile, rfl, rfl, hp⟩
      have ei : i = xs.length := by omega
      subst ei
      rw [List.take_length, hlen, List.take_length] at hp
      have e : prsD ns (.tup xs) = some zs := hp
      rw [decide_eq_true e] at q
      exact ⟨zip_no rfl rfl (Nat.le_refl _) (by rw [List.length_map]; omega) (.inl rfl), rt_of q⟩
def sp__law_names_of : SpD := fun ds S Q _ => ∃ (n : Nat) (d : D), ds = [d] ∧ gv S n d ∧ n ≤ 10 ∧ Q (.fl ((nmsD d).map D.str)) S
theorem ok__law_names_of {P : Program} {w : World} {K : PySem.W.Frag} {mg : Str → Option Value} {base : Heap} (T : Txt K w mg)  {ff : Addr} {fd : FuncData} (F : Fun K "_law_names_of" "_law_names_of" s__law_names_of ff fd) (mf : mg "_law_names_of" = some (.ref ff)) : Cal P w K mg base 1 "_law_names_of" s__law_names_of ["given"] sp__law_names_of := by
  refine ⟨ff, fd, okD F sc__law_names_of (fun ds S Q E h => ?len) (fun cdv A outer s H E ds S Q E' hcd hr h => ⟨_, (dss_cons (ds_if (dt_not (dt_tr td_tru (de_isi (tn := "tuple") (by rfl) T.nb_isinstance (by rfl) T.nb_tuple (de_var 0)))) (dss_one (ds_ret (de_lf da_nil))) dss_nil)
      (dss_one (ds_ret (de_lc [("pair", 1)] rfl sc__law_names_of.nd (di_tup (de_var 0)) (blkOk_by (N := ["given", "pair"]) (sc := defScope s__law_names_of) (by decide +kernel)) (fun _ _ _ _ _ => (pg_name (i := 1) sc__law_names_of.nd rfl (Or.inl rfl) (Or.inr rfl))) (fun N => (tg_name (vs := [1]) (i := 1) (by decide))) (fun _ _ _ _ _ => pts_one (dw_and (dt_tr td_tru (de_isi (tn := "tuple") (by rfl) T.nb_isinstance (by rfl) T.nb_tuple (de_var 1))) (dw_and (dt_cmp (od_ne0 hr) (de_var 1) (de_tup da_nil)) (dw_and1 (dt_tr td_tru (de_isi (tn := "str") (by rfl) T.nb_isinstance (by rfl) T.nb_str (de_ix (xd_ix hr) (de_var 1) de_int)))))).pt) (fun _ _ _ _ _ => (de_ix (xd_ix hr) (de_var 1) de_int)))))), ?run⟩), F.binds (ps := ["given"]) fun _ _ _ _ _ _ us hl => match us, hl with | [_], _ => rfl, mf, F⟩
  case len => obtain ⟨n, d, rfl, _⟩ := h; rfl
  case run =>
    obtain ⟨n, d, rfl, h⟩ := h
    simp only [dVar, dC, dOp, dUn, dChain, dTr, dB, dAnd, dOr, dNot, dIf, dAndV, dOrV, dNotV, dNil, dCons, dTup, dLst, dLf, dNext, dSeq, dBreak, dCont, dDrop, dRet, dRetN, dIfS, gdName, gdNil, gdCons, gdTup, gdSub, dAsg, dPar, dCall, dCallK, dCB, dM0, dM, dGet1, dGet2, dDk, dDt, dPart, dNoPart, dSlice, dAug, dYes, dSort2, revD, iTupD, iLstD, iLf, iLw, iRange1, iRange2, iRange3, iEnumD, iZipD, iZipMD, iStrD, dGix, dDc, dIsi, dSortSet, dLenSet, dDlit, gdLst, dFor, dWhile, dLc, dLcM, dFld, dFldSet, dFldAdd, dMeth, dMake, dPar3, dDisp, dPrs, dFsi, dGget, dKgt, dKgtL, dDz, iEnumMD, dCut, dTcut, wipeD, bodyE, startD, List.map_cons, List.map_nil, List.length_cons, List.length_nil, List.replicate_succ, List.replicate_zero, List.cons_append, List.nil_append, Nat.reduceAdd, Nat.reduceSub, Nat.zero_add, List.getElem?_cons_zero, List.getElem?_cons_succ, List.set_cons_zero, List.set_cons_succ, Option.some.injEq, exists_eq_left', exists_eq_left, if_true, sizeLine_eq, Nat.reduceLeDiff, Nat.reduceLT, Nat.zero_le, true_and, and_true, Bool.false_eq_true, if_false]
    obtain ⟨hd, hn, q⟩ := h
    refine ty_tp hd (fun xs e => ?_) fun e => brT rfl (rt_of (by
      have e : nmsD d = [] := by
        unfold nmsD
        split
        · cases e
        · rfl
      rw [e] at q
      exact q))
    subst e
    obtain ⟨hl, hds⟩ := gv_tup.mp hd
    refine brF rfl ⟨xs, .inl rfl, lc_seq (fun i acc S' => S' = S ∧ acc = ((xs.take i).filterMap fst1).map D.str) ⟨rfl, rfl⟩ ?_ ?_⟩
    · rintro i x acc S' hx ⟨rfl, rfl⟩
      have hv := hds x (List.mem_of_getElem? hx)
      have fl := List.length_filterMap_le fst1 (xs.take i)
      rw [List.length_take] at fl
      have non : fst1 x = none → S' = S' ∧ ((xs.take i).filterMap fst1).map D.str = ((xs.take (i + 1)).filterMap fst1).map D.str := fun e => ⟨rfl, by rw [fm1 hx, e]; simp⟩
      refine ⟨by rw [List.length_map, sizeLine_eq]; omega, ty_tp hv (fun ys e => ?_) fun e => brF rfl (non (fst1_tp e))⟩
      subst e
      refine brT rfl (e0_t ⟨_, rfl, br2 (fun h => ?_) fun h => ?_⟩)
      · cases ys with
        | nil => cases h
        | cons a r =>
          have ha := (gv_tup.mp hv).2 a List.mem_cons_self
          refine ix_sq rfl rfl at_0 (ty_s ha (fun z e => ?_) fun e => brF rfl (non (fst1_s e)))
          subst e
          refine brT rfl (ix_sq rfl rfl at_0 ⟨rfl, ?_⟩)
          rw [fm1 hx, List.map_append]
          rfl
      · cases ys with
        | nil => exact non rfl
        | cons a r => cases h
    · rintro i acc S' hi ⟨rfl, rfl⟩
      rw [List.take_of_length_le hi]
      exact rt_of q
def sp__law_rows : SpD := fun ds S Q _ => ∃ (x : Str) (ks : List Hd) (ps : List Pc), ds = [prD (.tup (ks.map hdD)) ps, .str x] ∧ PrOk ks ps ∧ x ∈ ps.map (·.1) ∧ Q (rwsD (rowsOf ps x)) S
theorem ok__law_rows {P : Program} {w : World} {K : PySem.W.Frag} {mg : Str → Option Value} {base : Heap} (T : Txt K w mg)  {ff : Addr} {fd : FuncData} (F : Fun K "_law_rows" "_law_rows" s__law_rows ff fd) (mf : mg "_law_rows" = some (.ref ff)) : Cal P w K mg base 1 "_law_rows" s__law_rows ["code", "name"] sp__law_rows := by
  refine ⟨ff, fd, okD F sc__law_rows (fun ds S Q E h => ?len) (fun cdv A outer s H E ds S Q E' hcd hr h => ⟨_, (dss_one (ds_ret (de_ix (xd_ix hr) (de_ix (xd_ix hr) (de_lc [("one", 2)] rfl sc__law_rows.nd (di_tup (de_ix (xd_ix hr) (de_var 0) de_int)) (blkOk_by (N := ["code", "name", "one"]) (sc := defScope s__law_rows) (by decide +kernel)) (fun _ _ _ _ _ => (pg_name (i := 2) sc__law_rows.nd rfl (Or.inl rfl) (Or.inr rfl))) (fun N => (tg_name (vs := [2]) (i := 2) (by decide))) (fun _ _ _ _ _ => pts_one (dt_cmp (od_eq hr) (de_ix (xd_ix hr) (de_var 2) de_int) (de_var 1))) (fun _ _ _ _ _ => (de_var 2))) de_int) de_int))), ?run⟩), F.binds (ps := ["code", "name"]) fun _ _ _ _ _ _ us hl => match us, hl with | [_, _], _ => rfl, mf, F⟩
  case len => obtain ⟨x, ks, ps, rfl, _⟩ := h; rfl
  case run =>
    obtain ⟨x, ks, ps, rfl, h⟩ := h
    simp only [dVar, dC, dOp, dUn, dChain, dTr, dB, dAnd, dOr, dNot, dIf, dAndV, dOrV, dNotV, dNil, dCons, dTup, dLst, dLf, dNext, dSeq, dBreak, dCont, dDrop, dRet, dRetN, dIfS, gdName, gdNil, gdCons, gdTup, gdSub, dAsg, dPar, dCall, dCallK, dCB, dM0, dM, dGet1, dGet2, dDk, dDt, dPart, dNoPart, dSlice, dAug, dYes, dSort2, revD, iTupD, iLstD, iLf, iLw, iRange1, iRange2, iRange3, iEnumD, iZipD, iZipMD, iStrD, dGix, dDc, dIsi, dSortSet, dLenSet, dDlit, gdLst, dFor, dWhile, dLc, dLcM, dFld, dFldSet, dFldAdd, dMeth, dMake, dPar3, dDisp, dPrs, dFsi, dGget, dKgt, dKgtL, dDz, iEnumMD, dCut, dTcut, wipeD, bodyE, startD, List.map_cons, List.map_nil, List.length_cons, List.length_nil, List.replicate_succ, List.replicate_zero, List.cons_append, List.nil_append, Nat.reduceAdd, Nat.reduceSub, Nat.zero_add, List.getElem?_cons_zero, List.getElem?_cons_succ, List.set_cons_zero, List.set_cons_succ, Option.some.injEq, exists_eq_left', exists_eq_left, if_true, sizeLine_eq, Nat.reduceLeDiff, Nat.reduceLT, Nat.zero_le, true_and, and_true, Bool.false_eq_true, if_false]
    obtain ⟨ok, hx, q⟩ := h
    obtain ⟨p, hp, hpm⟩ := pcOf_ex hx
    have hro : rowsOf ps x = p.2.2 := by unfold rowsOf; rw [hp]; rfl
    rw [hro] at q
    have p6 := ok.l
    refine ix_sq rfl rfl (at_n (i := 1) rfl) ⟨_, .inl rfl, lc_pcs x p6 (fun W i p acc hp w1 w2 => ?_) ?_⟩
    · exact ix_sq rfl rfl at_0 ⟨_, rfl, br2 (fun h => w1 (of_xt h)) fun h => w2 (of_xf h)⟩
    · exact ix_sq rfl rfl (pc_at hp) (ix_sq rfl rfl (at_n (i := 2) rfl) (rt_of q))
def sp__law_variables : SpD := fun ds S Q _ => ∃ (x : Str) (ks : List Hd) (ps : List Pc), ds = [prD (.tup (ks.map hdD)) ps, .str x] ∧ PrOk ks ps ∧ x ∈ ps.map (·.1) ∧ ∀ ys, IsSd (varsOf ps x) ys → Q (.fl (ys.map D.str)) S
theorem ok__law_variables {P : Program} {w : World} {K : PySem.W.Frag} {mg : Str → Option Value} {base : Heap} (T : Txt K w mg)  {ff : Addr} {fd : FuncData} (F : Fun K "_law_variables" "_law_variables" s__law_variables ff fd) (mf : mg "_law_variables" = some (.ref ff)) : Cal P w K mg base 1 "_law_variables" s__law_variables ["code", "name"] sp__law_variables := by
  refine ⟨ff, fd, okD F sc__law_variables (fun ds S Q E h => ?len) (fun cdv A outer s H E ds S Q E' hcd hr h => ⟨_, (dss_cons (ds_set 2 sc__law_variables.nd (de_ix (xd_ix hr) (de_lc [("one", 2)] rfl sc__law_variables.nd (di_tup (de_ix (xd_ix hr) (de_var 0) de_int)) (blkOk_by (N := ["code", "name", "one", "many", "found", "row"]) (sc := defScope s__law_variables) (by decide +kernel)) (fun _ _ _ _ _ => (pg_name (i := 2) sc__law_variables.nd rfl (Or.inl rfl) (Or.inr rfl))) (fun N => (tg_name (vs := [2]) (i := 2) (by decide))) (fun _ _ _ _ _ => pts_one (dt_cmp (od_eq hr) (de_ix (xd_ix hr) (de_var 2) de_int) (de_var 1))) (fun _ _ _ _ _ => (de_var 2))) de_int))
      (dss_cons (ds_set 3 sc__law_variables.nd (de_dlit [(.inr "copy", .int 2), (.inr "plus", .int 3), (.inr "minus", .int 3), (.inr "times", .int 3), (.inr "read", .int 2), (.inr "less", .int 2), (.inr "same", .int 2), (.inr "jump", .int 0)] (pps_cons pe_str pe_int (pps_cons pe_str pe_int (pps_cons pe_str pe_int (pps_cons pe_str pe_int (pps_cons pe_str pe_int (pps_cons pe_str pe_int (pps_cons pe_str pe_int (pps_cons pe_str pe_int pps_nil))))))))))
      (dss_cons (ds_set 4 sc__law_variables.nd (de_callTy (cd_list false) (by rfl) T.nb_list (da_cons (de_ix (xd_ix hr) (de_var 2) de_int) da_nil)))
      (dss_cons (ds_for PassesOwn.never rfl (di_tup (de_ix (xd_ix hr) (de_var 2) de_int)) (dg_name 5 sc__law_variables.nd) (dss_one (ds_if (dt_cmp (od_in hr) (de_ix (xd_ix hr) (de_var 5) de_int) (de_tup (da_cons de_str (da_cons de_str da_nil)))) (dss_one (ds_set 4 sc__law_variables.nd (de_op (od_add false) (de_op (od_add false) (de_var 4) (de_lf (da_cons (de_ix (xd_ix hr) (de_var 5) de_int) da_nil))) (de_callTy (cd_list false) (by rfl) T.nb_list (da_cons (de_ix (xd_ix hr) (de_var 5) de_int) da_nil))))) (dss_one (ds_set 4 sc__law_variables.nd (de_op (od_add false) (de_var 4) (de_callTy (cd_list false) (by rfl) T.nb_list (da_cons (de_slice (xd_slice false) (de_var 5) (do_some de_int) (do_some (de_op (od_add false) de_int (de_get2 hr (de_var 3) (de_ix (xd_ix hr) (de_var 5) de_int) de_int ⟨rfl, rfl, rfl, rfl⟩)))) da_nil))))))))
      (dss_one (ds_ret (de_sortSet rfl (by rfl) T.nb_sorted (by rfl) T.nb_set (de_lc [("name", 1)] rfl sc__law_variables.nd (di_lf (de_var 4)) (blkOk_by (N := ["code", "name", "one", "many", "found", "row"]) (sc := defScope s__law_variables) (by decide +kernel)) (fun _ _ _ _ _ => (pg_name (i := 1) sc__law_variables.nd rfl (Or.inl rfl) (Or.inr rfl))) (fun N => (tg_name (vs := [1]) (i := 1) (by decide))) (fun _ _ _ _ _ => pts_one (dt_cmp od_isnot (de_var 1) de_non)) (fun _ _ _ _ _ => (de_var 1)))))))))), ?run⟩), F.binds (ps := ["code", "name"]) fun _ _ _ _ _ _ us hl => match us, hl with | [_, _], _ => rfl, mf, F⟩
  case len => obtain ⟨x, ks, ps, rfl, _⟩ := h; rfl
  case run =>
    obtain ⟨x, ks, ps, rfl, h⟩ := h
    simp only [dVar, dC, dOp, dUn, dChain, dTr, dB, dAnd, dOr, dNot, dIf, dAndV, dOrV, dNotV, dNil, dCons, dTup, dLst, dLf, dNext, dSeq, dBreak, dCont, dDrop, dRet, dRetN, dIfS, gdName, gdNil, gdCons, gdTup, gdSub, dAsg, dPar, dCall, dCallK, dCB, dM0, dM, dGet1, dGet2, dDk, dDt, dPart, dNoPart, dSlice, dAug, dYes, dSort2, revD, iTupD, iLstD, iLf, iLw, iRange1, iRange2, iRange3, iEnumD, iZipD, iZipMD, iStrD, dGix, dDc, dIsi, dSortSet, dLenSet, dDlit, gdLst, dFor, dWhile, dLc, dLcM, dFld, dFldSet, dFldAdd, dMeth, dMake, dPar3, dDisp, dPrs, dFsi, dGget, dKgt, dKgtL, dDz, iEnumMD, dCut, dTcut, wipeD, bodyE, startD, List.map_cons, List.map_nil, List.length_cons, List.length_nil, List.replicate_succ, List.replicate_zero, List.cons_append, List.nil_append, Nat.reduceAdd, Nat.reduceSub, Nat.zero_add, List.getElem?_cons_zero, List.getElem?_cons_succ, List.set_cons_zero, List.set_cons_succ, Option.some.injEq, exists_eq_left', exists_eq_left, if_true, sizeLine_eq, Nat.reduceLeDiff, Nat.reduceLT, Nat.zero_le, true_and, and_true, Bool.false_eq_true, if_false]
    obtain ⟨ok, hx, q⟩ := h
    obtain ⟨p, hp, hpm⟩ := pcOf_ex hx
    have hro : varsOf ps x = vars p.2.1 p.2.2 := by unfold varsOf; rw [hp]; rfl
    rw [hro] at q
    have p6 := ok.l
    have po := ok.p p hpm
    refine ix_sq rfl rfl (at_n (i := 1) rfl) ⟨_, .inl rfl, lc_pcs x p6 (fun W i p acc hp w1 w2 => ?_) ?_⟩
    · exact ix_sq rfl rfl at_0 ⟨_, rfl, br2 (fun h => w1 (of_xt h)) fun h => w2 (of_xf h)⟩
    refine ix_sq rfl rfl (pc_at hp) fun A nA => ix_sq rfl rfl (at_n (i := 1) rfl) ⟨_, p.2.1.map D.str, rfl, rfl, brF rfl (ix_sq rfl rfl (at_n (i := 2) rfl) ⟨_, .inl rfl, ?_⟩)⟩
    have big : ∀ {i : Nat} {l : List D}, l.length ≤ 20 → (List.map oD (fnd p i)).length + l.length ≤ sizeLine := fun {i l} h => by
      have := fnd_len po i
      rw [List.length_map, sizeLine_eq]; omega
    refine fr_seq (fun i δ S' => ∃ r5, δ = [some (prD (.tup (ks.map hdD)) ps), some (.str x), some (pcD p), some (.ref A), some (.fl ((fnd p i).map oD)), r5] ∧ S' = up S A (.dk dk8)) ⟨none, ?_, rfl⟩ ?_ ?_
    · have e : (fnd p 0).map oD = p.2.1.map D.str := by
        unfold fnd
        rw [List.take_zero, List.flatMap_nil, List.append_nil, List.map_map]; rfl
      rw [e]
    · rintro i y δ S' hy ⟨r5, rfl, rfl⟩
      obtain ⟨r, hr, rfl⟩ := map_at hy
      have okr := po.ok r (List.mem_of_getElem? hr)
      have nx : (fnd p i).map oD ++ r.ov.map oD = (fnd p (i + 1)).map oD := by rw [fnd_next hr, List.map_append]
      have sh := rw_sh okr
      refine ⟨_, rfl, ix_sq rfl rfl at_0 (in_ws (ws := mc) rfl (fun z e => nomatch e) sh.1 (by decide +kernel) ⟨_, rfl, ?_⟩)⟩
      rcases ov_cls okr with ⟨a, b, ys, h1, h2, h3, h4⟩ | ⟨k, h1, h2, h3, h4⟩
      · refine brT (xt h2) ⟨_, rfl, _, rfl, ix_sq rfl rfl (at_n (i := 1) (by rw [List.getElem?_cons_succ, h1]; rfl)) (add_f rfl rfl (big (by simp)) ⟨_, rfl, ix_sq rfl rfl (at_n (i := 3) (by rw [List.getElem?_cons_succ, h1]; rfl)) ⟨_, ys.map D.str, rfl, rfl, brF rfl (add_f rfl rfl ?_ ⟨some r.d, ?_, rfl⟩)⟩⟩)⟩
        · rw [List.length_append, Nat.add_assoc, ← List.length_append]
          exact big (by rw [List.length_append, List.length_map, List.length_singleton]; omega)
        · rw [List.append_assoc, ← nx, h3]; rfl
      · refine brF (xf h1) ⟨_, rfl, _, rfl, 1, rfl, _, rfl, ty_dk up_same, _, rfl, ix_sq rfl rfl at_0 ⟨_, at_dk up_same (κ := .inr r.h) rfl, ?_⟩⟩
        rw [h2]
        refine add_i ⟨_, rfl, sl_t ?_⟩
        rw [h3]
        refine ⟨_, r.ov.map oD, rfl, rfl, brF rfl (add_f rfl rfl (big (by rw [List.length_map]; omega)) ⟨some r.d, ?_, rfl⟩)⟩
        rw [nx]; rfl
    · rintro i δ S' hi ⟨r5, rfl, rfl⟩
      have fl := fnd_len po p.2.2.length
      have hle : p.2.2.length ≤ i := by simpa using hi
      have efd : fnd p i = fnd p p.2.2.length := by unfold fnd; rw [List.take_of_length_le hle, List.take_length]
      rw [efd]
      refine ⟨_, rfl, _, rfl, lc_seq (fun i acc S' => S' = up S A (.dk dk8) ∧ acc = (((fnd p p.2.2.length).take i).filterMap id).map D.str) ⟨rfl, rfl⟩ ?_ ?_⟩
      · rintro j y acc S' hy ⟨rfl, rfl⟩
        obtain ⟨o, ho, rfl⟩ := map_at hy
        have fl2 := List.length_filterMap_le (id : Option Str → Option Str) ((fnd p p.2.2.length).take j)
        rw [List.length_take] at fl2
        refine ⟨by rw [List.length_map, sizeLine_eq]; omega, _, rfl, rfl, _, rfl, ?_⟩
        cases o with
        | none =>
          refine brF (by simp [oD]) ⟨rfl, ?_⟩
          rw [tk1 ho, List.filterMap_append]; simp
        | some z =>
          refine brT (by simp [oD]) ⟨_, rfl, rfl, ?_⟩
          rw [tk1 ho, List.filterMap_append, List.map_append]; rfl
      · rintro j acc S' hj ⟨rfl, rfl⟩
        rw [List.take_of_length_le (by rw [List.length_map] at hj; exact hj), fnd_vars]
        have vl : (vars p.2.1 p.2.2).length ≤ 110 := by
          rw [← fnd_vars]
          exact Nat.le_trans (List.length_filterMap_le _ _) fl
        exact ⟨_, rfl, by rw [List.length_map]; show _ + 1 < 4096; omega, .inl ⟨_, rfl, fun ys hs => rt_up nA (q ys hs)⟩⟩
def sp__law_cells_fine : SpD := fun ds S Q _ => ∃ (n : Nat) (d : D) (m : Int) (ks : List Hd) (ps : List Pc), ds = [prD (.tup (ks.map hdD)) ps, d, .int m] ∧ gv S n d ∧ n ≤ 10 ∧ PrOk ks ps ∧ (cellsD ks m d = none → Q .non S) ∧ ∀ ns A, cellsD ks m d = some ns → (∀ i ∈ ns, 0 ≤ i ∧ i ≤ 10 ^ 40) → S A = none → Q (.ref A) (up S A (.lst (ns.map D.int)))
theorem ok__law_cells_fine {P : Program} {w : World} {K : PySem.W.Frag} {mg : Str → Option Value} {base : Heap} (T : Txt K w mg) (C__law_names_of : Cal P w K mg base 1 "_law_names_of" s__law_names_of ["given"] sp__law_names_of) (C__law_pairs_fine : Cal P w K mg base 3 "_law_pairs_fine" s__law_pairs_fine ["given", "names", "numbers"] sp__law_pairs_fine) (C__law_int : Cal P w K mg base 1 "_law_int" s__law_int ["given", "low", "high"] sp__law_int) {ff : Addr} {fd : FuncData} (F : Fun K "_law_cells_fine" "_law_cells_fine" s__law_cells_fine ff fd) (mf : mg "_law_cells_fine" = some (.ref ff)) : Cal P w K mg base 4 "_law_cells_fine" s__law_cells_fine ["code", "given", "made"] sp__law_cells_fine := by
  refine ⟨ff, fd, okD F sc__law_cells_fine (fun ds S Q E h => ?len) (fun cdv A outer s H E ds S Q E' hcd hr h => ⟨_, (dss_cons (ds_par 3 4 rfl sc__law_cells_fine.nd (da_cons (de_lst da_nil) (da_cons de_int da_nil)))
      (dss_cons (ds_if (dt_not (dt_tr td_tru (de_isi (tn := "tuple") (by rfl) T.nb_isinstance (by rfl) T.nb_tuple (de_var 1)))) (dss_one (ds_ret de_non)) dss_nil)
      (dss_cons (ds_for PassesOwn.never rfl (di_tup (de_var 1)) (dg_name 5 sc__law_cells_fine.nd) (dss_cons (ds_if (dw_or (dt_not (dt_tr td_tru (de_isi (tn := "tuple") (by rfl) T.nb_isinstance (by rfl) T.nb_tuple (de_var 5)))) (dw_or (dt_cmp (od_ne hr) (de_callB cd_len (by rfl) T.nb_len (da_cons (de_var 5) da_nil)) de_int) (dw_or1 (dt_not (dt_tr td_tru (de_c C__law_int hr (da_cons (de_ix (xd_ix hr) (de_var 5) de_int) (da_cons (de_var 4) (da_cons (de_op od_sub (de_var 2) de_int) da_nil))))))))).pt (dss_one (ds_ret de_non)) dss_nil)
      (dss_cons (ds_setLc 6 [("kind", 7)] rfl sc__law_cells_fine.nd (di_tup (de_ix (xd_ix hr) (de_var 0) de_int)) (blkOk_by (N := ["code", "given", "made", "numbers", "fewest", "cell", "kinds", "kind", "there", "field"]) (sc := defScope s__law_cells_fine) (by decide +kernel)) (fun _ _ _ _ _ => (pg_name (i := 7) sc__law_cells_fine.nd rfl (Or.inl rfl) (Or.inr rfl))) (fun N => (tg_name (vs := [7]) (i := 7) (by decide))) (fun _ _ _ _ _ => pts_one (dw_and (dt_tr td_tru (de_isi (tn := "str") (by rfl) T.nb_isinstance (by rfl) T.nb_str (de_ix (xd_ix hr) (de_var 5) de_int))) (dw_and1 (dt_cmp (od_eq hr) (de_ix (xd_ix hr) (de_var 7) de_int) (de_ix (xd_ix hr) (de_var 5) de_int)))).pt) (fun _ _ _ _ _ => (de_var 7)))
      (dss_cons (ds_if (dt_cmp (od_eq0 hr) (de_var 6) (de_lf da_nil)) (dss_one (ds_ret de_non)) dss_nil)
      (dss_cons (ds_set 8 sc__law_cells_fine.nd (de_c C__law_names_of hr (da_cons (de_ix (xd_ix hr) (de_var 5) de_int) da_nil)))
      (dss_cons (ds_if (dt_not (dt_tr td_tru (de_c C__law_pairs_fine hr (da_cons (de_ix (xd_ix hr) (de_var 5) de_int) (da_cons (de_lc [("field", 9)] rfl sc__law_cells_fine.nd (di_tup (de_ix (xd_ix hr) (de_ix (xd_ix hr) (de_var 6) de_int) de_int)) (blkOk_by (N := ["code", "given", "made", "numbers", "fewest", "cell", "kinds", "kind", "there", "field"]) (sc := defScope s__law_cells_fine) (by decide +kernel)) (fun _ _ _ _ _ => (pg_name (i := 9) sc__law_cells_fine.nd rfl (Or.inl rfl) (Or.inr rfl))) (fun N => (tg_name (vs := [9]) (i := 9) (by decide))) (fun _ _ _ _ _ => pts_one (dt_cmp (od_in hr) (de_var 9) (de_var 8))) (fun _ _ _ _ _ => (de_var 9))) (da_cons (de_var 3) da_nil)))))) (dss_one (ds_ret de_non)) dss_nil)
      (dss_cons (ds_expr (de_m PySem.F.plainAttrs_list PySem.F.slot_list_append PySem.F.type_list_append md_append (de_var 3) (da_cons (de_ix (xd_ix hr) (de_var 5) de_int) da_nil)))
      (dss_one (ds_set 4 sc__law_cells_fine.nd (de_op (od_add false) (de_ix (xd_ix hr) (de_var 5) de_int) de_int))))))))))
      (dss_one (ds_ret (de_var 3)))))), ?run⟩), F.binds (ps := ["code", "given", "made"]) fun _ _ _ _ _ _ us hl => match us, hl with | [_, _, _], _ => rfl, mf, F⟩
  case len => obtain ⟨n, d, m, ks, ps, rfl, _⟩ := h; rfl
  case run =>
    obtain ⟨n, d, m, ks, ps, rfl, h⟩ := h
    simp only [dVar, dC, dOp, dUn, dChain, dTr, dB, dAnd, dOr, dNot, dIf, dAndV, dOrV, dNotV, dNil, dCons, dTup, dLst, dLf, dNext, dSeq, dBreak, dCont, dDrop, dRet, dRetN, dIfS, gdName, gdNil, gdCons, gdTup, gdSub, dAsg, dPar, dCall, dCallK, dCB, dM0, dM, dGet1, dGet2, dDk, dDt, dPart, dNoPart, dSlice, dAug, dYes, dSort2, revD, iTupD, iLstD, iLf, iLw, iRange1, iRange2, iRange3, iEnumD, iZipD, iZipMD, iStrD, dGix, dDc, dIsi, dSortSet, dLenSet, dDlit, gdLst, dFor, dWhile, dLc, dLcM, dFld, dFldSet, dFldAdd, dMeth, dMake, dPar3, dDisp, dPrs, dFsi, dGget, dKgt, dKgtL, dDz, iEnumMD, dCut, dTcut, wipeD, bodyE, startD, List.map_cons, List.map_nil, List.length_cons, List.length_nil, List.replicate_succ, List.replicate_zero, List.cons_append, List.nil_append, Nat.reduceAdd, Nat.reduceSub, Nat.zero_add, List.getElem?_cons_zero, List.getElem?_cons_succ, List.set_cons_zero, List.set_cons_succ, Option.some.injEq, exists_eq_left', exists_eq_left, if_true, sizeLine_eq, Nat.reduceLeDiff, Nat.reduceLT, Nat.zero_le, true_and, and_true, Bool.false_eq_true, if_false]
    obtain ⟨hd, hn, ok, q0, q⟩ := h
    intro p np
    refine ⟨_, _, rfl, ty_tp (gv_le (Kp.up' np) (Nat.le_refl _) hd) (fun xs e => ?_) fun e => brT rfl (rt_up np (q0 (by
      unfold cellsD
      split
      · cases e
      · rfl)))⟩
    subst e
    obtain ⟨hl, hds⟩ := gv_tup.mp hd
    refine brF rfl ⟨xs, .inl rfl, fr_seq (fun i δ S' => ∃ ns last r5 r6 r7 r8 r9, δ = [some (prD (.tup (ks.map hdD)) ps), some (.tup xs), some (.int m), some (.ref p), some (.int (last + 1)), r5, r6, r7, r8, r9] ∧ S' = up S p (.lst (ns.map D.int)) ∧ ns.length = i ∧ -1 ≤ last ∧ (∀ x ∈ ns, 0 ≤ x ∧ x ≤ 10 ^ 40) ∧ cellsD ks m (.tup xs) = cellsF ks m (xs.drop i) ns last) ⟨[], -1, none, none, none, none, none, rfl, rfl, rfl, by decide, (fun x h => (nomatch h)), rfl⟩ ?_ ?_⟩
    · rintro i x δ S' hx ⟨ns, last, r5, r6, r7, r8, r9, rfl, rfl, hnl, hl1, hle, hc⟩
      have hi := (List.getElem?_eq_some_iff.mp hx).1
      have hv := gv_le (Kp.up' (o := .lst (ns.map D.int)) np) (Nat.le_refl _) (hds x (List.mem_of_getElem? hx))
      have ed : xs.drop i = x :: xs.drop (i + 1) := by
        obtain ⟨h1, h2⟩ := List.getElem?_eq_some_iff.mp hx
        rw [← h2, List.getElem_cons_drop]
      rw [ed] at hc
      unfold cellsF at hc
      have no : cellsD ks m (.tup xs) = none → ∃ d1 S1, VW D.non (up S p (.lst (ns.map D.int))) d1 S1 ∧ Q d1 S1 := fun e => rt_up np (q0 e)
      have non : cellN ks ns x = none → ∃ d1 S1, VW D.non (up S p (.lst (ns.map D.int))) d1 S1 ∧ Q d1 S1 := fun e => no (by rw [e] at hc; exact hc)
      refine ⟨_, rfl, ty_tp hv (fun ys e => ?_) fun e => brT rfl (non (cell_tp e))⟩
      subst e
      obtain ⟨_, hys⟩ := gv_tup.mp hv
      refine brF rfl ⟨_, rfl, len_ne (m := 3) (fun h => non (cell_len h)) fun hlen => ?_⟩
      obtain ⟨a, b, c, rfl⟩ := three hlen
      have ha := hys a (by simp)
      have hb := hys b (by simp)
      have hcc := hys c (by simp)
      refine ⟨_, rfl, ix_sq rfl rfl at_0 ⟨_, rfl, ⟨_, rfl, it_of trivial ⟨n, a, _, _, rfl, ha, tru_b ?_⟩⟩⟩⟩
      cases hI : isI a with
      | false => exact brT (by rw [intF_no hI]; rfl) (non (cell_i hI))
      | true =>
      obtain ⟨j, rfl⟩ := i_of hI
      have eI : intF (last + 1) (m - 1) (.int j) = (decide (last + 1 ≤ j) && decide (j ≤ m - 1)) := rfl
      rw [eI]
      by_cases hj : last < j ∧ j < m
      rotate_left
      · refine brT ?_ (no ?_)
        · have : (decide (last + 1 ≤ j) && decide (j ≤ m - 1)) = false := by
            rw [Bool.and_eq_false_iff]
            by_cases h1 : last + 1 ≤ j
            · exact .inr (decide_eq_false fun h2 => hj ⟨by omega, by omega⟩)
            · exact .inl (decide_eq_false h1)
          rw [this]; rfl
        · have := cells_out (ks := ks) (m := m) (cs := xs.drop (i + 1)) (ns := ns) (last := last) (i := j) (b := b) (c := c) hj
          rw [ed] at *
          unfold cellsF at this
          rw [hc]; exact this
      refine brF (by rw [decide_eq_true (show last + 1 ≤ j by omega), decide_eq_true (show j ≤ m - 1 by omega)]; rfl) ⟨_, rfl, ix_sq rfl rfl at_0 ⟨_, .inl rfl, lc_hds (fun kd => decide (b = .str kd.1)) ok.kl (fun W i2 kd acc hk w1 w2 => ?_) ?_⟩⟩
      · refine ⟨_, rfl, ix_sq rfl rfl (at_n (i := 1) rfl) (ty_s hb (fun z e => ?_) fun e => brF rfl (w2 (decide_eq_false fun z => by rw [z] at e; cases e)))⟩
        subst e
        refine brT rfl ⟨_, rfl, ix_sq rfl rfl at_0 ⟨_, rfl, ix_sq rfl rfl (at_n (i := 1) rfl) (eq_ss ⟨_, rfl, br2 (fun h => ?_) fun h => ?_⟩)⟩⟩
        · have h : kd.1 = z := of_xt h
          exact ⟨_, rfl, w1 (by subst h; exact decide_eq_true rfl)⟩
        · have h : kd.1 ≠ z := of_xf h
          exact w2 (decide_eq_false fun e => h (by cases e; rfl))
      refine ⟨_, rfl, e0_f ⟨_, rfl, ?_⟩⟩
      have ef : ∀ z : Str, (fun k : Hd => decide (D.str z = D.str k.1)) = fun k => decide (k.1 = z) := fun z => funext fun k => decide_eq_decide.mpr ⟨fun e => by cases e; rfl, fun e => by rw [e]⟩
      obtain ⟨l, hl⟩ : ∃ l, l = ks.filter fun kd => decide (b = .str kd.1) := ⟨_, rfl⟩
      rw [← hl]
      cases l with
      | nil =>
        refine brT rfl (non ?_)
        cases hS : isS b with
        | false => exact cell_s hS
        | true =>
          obtain ⟨z, rfl⟩ := s_of hS
          refine cellN_nok ?_
          unfold kOf
          rw [← ef, ← hl]
          rfl
      | cons kd rest =>
        obtain ⟨hkm, hbe⟩ := List.mem_filter.mp (show kd ∈ ks.filter fun kd => decide (b = .str kd.1) by rw [← hl]; exact List.mem_cons_self)
        have hbe := of_decide_eq_true hbe
        subst hbe
        have hK : kOf ks kd.1 = some kd := by
          unfold kOf
          rw [← ef, ← hl]
          rfl
        obtain ⟨_, k4, kok⟩ := ok.kok kd hkm
        refine brF rfl ⟨_, rfl, ix_sq rfl rfl (at_n (i := 2) rfl) ⟨n, c, rfl, hcc, hn, ⟨_, rfl, ix_sq rfl rfl (at_n (i := 2) rfl) ⟨_, rfl, ix_sq rfl rfl at_0 (ix_sq (x := hdD kd) rfl rfl (at_n (i := 1) rfl) ⟨_, .inl rfl, lc_fs (fun z => decide (z ∈ nmsD c)) (by omega) (fun W i2 z acc hz w1 w2 => ?_) ?_⟩)⟩⟩⟩⟩
        · exact ⟨_, rfl, _, rfl, in_ws (ws := nmsD c) rfl (fun z e => nomatch e) (kok z (List.mem_of_getElem? hz)).1 (nms_str hcc) ⟨_, rfl, br2 (fun h => ⟨_, rfl, w1 (by rw [Bool.false_xor] at h; exact h)⟩) fun h => w2 (by rw [Bool.false_xor] at h; exact h)⟩⟩
        · refine ⟨_, rfl, n, c, p, ns, _, rfl, hcc, hn, up_same, hle, fun z hz => (kok z (List.mem_filter.mp hz).1).1, tru_b ?_⟩
          by_cases hP : prsD ns c = some (kd.2.filter fun z => decide (z ∈ nmsD c))
          · rw [cellN_of hK, if_pos hP] at hc
            dsimp only at hc
            rw [if_pos hj] at hc
            have gj := gv_int.mp ha
            refine brF (by rw [decide_eq_true hP]; rfl) ⟨_, rfl, ty_l up_same, _, rfl, ix_sq rfl rfl at_0 (app_of up_same (by rw [List.length_map, sizeLine_eq]; omega) ⟨_, rfl, ix_sq rfl rfl at_0 (add_i ⟨ns ++ [j], j, _, _, _, _, _, rfl, by rw [up_up, List.map_append]; rfl, by rw [List.length_append, hnl]; rfl, by omega, fun x hx => ?_, hc⟩)⟩)⟩
            rcases List.mem_append.mp hx with h | h
            · exact hle x h
            · rw [List.mem_singleton.mp h]
              exact ⟨by omega, by omega⟩
          · exact brT (by rw [decide_eq_false hP]; rfl) (non (by rw [cellN_of hK, if_neg hP]))
    · rintro i δ S' hi ⟨ns, last, r5, r6, r7, r8, r9, rfl, rfl, hnl, hl1, hle, hc⟩
      rw [List.drop_of_length_le hi] at hc
      exact ⟨_, rfl, rt_of (q ns p hc hle np)⟩
def sp__law_frame_fine : SpD := fun ds S Q _ => ∃ (n : Nat) (d : D) (A : Addr) (ns : List Int) (ks : List Hd) (ps : List Pc), ds = [prD (.tup (ks.map hdD)) ps, d, .ref A] ∧ gv S n d ∧ n ≤ 10 ∧ PrOk ks ps ∧ S A = some (.lst (ns.map D.int)) ∧ (∀ i ∈ ns, 0 ≤ i ∧ i ≤ 10 ^ 40) ∧ Q (.bl (frB ps ns d)) S
theorem ok__law_frame_fine {P : Program} {w : World} {K : PySem.W.Frag} {mg : Str → Option Value} {base : Heap} (T : Txt K w mg) (C__law_pairs_fine : Cal P w K mg base 3 "_law_pairs_fine" s__law_pairs_fine ["given", "names", "numbers"] sp__law_pairs_fine) (C__law_int : Cal P w K mg base 1 "_law_int" s__law_int ["given", "low", "high"] sp__law_int) (C__law_variables : Cal P w K mg base 1 "_law_variables" s__law_variables ["code", "name"] sp__law_variables) (C__law_rows : Cal P w K mg base 1 "_law_rows" s__law_rows ["code", "name"] sp__law_rows) {ff : Addr} {fd : FuncData} (F : Fun K "_law_frame_fine" "_law_frame_fine" s__law_frame_fine ff fd) (mf : mg "_law_frame_fine" = some (.ref ff)) : Cal P w K mg base 4 "_law_frame_fine" s__law_frame_fine ["code", "given", "numbers"] sp__law_frame_fine := by
  refine ⟨ff, fd, okD F sc__law_frame_fine (fun ds S Q E h => ?len) (fun cdv A outer s H E ds S Q E' hcd hr h => ⟨_, (dss_cons (ds_if (dw_or (dt_not (dt_tr td_tru (de_isi (tn := "tuple") (by rfl) T.nb_isinstance (by rfl) T.nb_tuple (de_var 1)))) (dw_or (dt_cmp (od_ne hr) (de_callB cd_len (by rfl) T.nb_len (da_cons (de_var 1) da_nil)) de_int) (dw_or1 (dt_not (dt_tr td_tru (de_isi (tn := "str") (by rfl) T.nb_isinstance (by rfl) T.nb_str (de_ix (xd_ix hr) (de_var 1) de_int))))))).pt (dss_one (ds_ret de_bl)) dss_nil)
      (dss_cons (ds_if (dt_cmp (od_notin hr) (de_ix (xd_ix hr) (de_var 1) de_int) (de_lc [("one", 3)] rfl sc__law_frame_fine.nd (di_tup (de_ix (xd_ix hr) (de_var 0) de_int)) (blkOk_by (N := ["code", "given", "numbers", "one"]) (sc := defScope s__law_frame_fine) (by decide +kernel)) (fun _ _ _ _ _ => (pg_name (i := 3) sc__law_frame_fine.nd rfl (Or.inl rfl) (Or.inr rfl))) (fun N => (tg_name (vs := [3]) (i := 3) (by decide))) (fun _ _ _ _ _ => dts_nil) (fun _ _ _ _ _ => (de_ix (xd_ix hr) (de_var 3) de_int)))) (dss_one (ds_ret de_bl)) dss_nil)
      (dss_cons (ds_if (dt_not (dt_tr td_tru (de_c C__law_int hr (da_cons (de_ix (xd_ix hr) (de_var 1) de_int) (da_cons de_int (da_cons (de_callB cd_len (by rfl) T.nb_len (da_cons (de_c C__law_rows hr (da_cons (de_var 0) (da_cons (de_ix (xd_ix hr) (de_var 1) de_int) da_nil))) da_nil)) da_nil)))))) (dss_one (ds_ret de_bl)) dss_nil)
      (dss_one (ds_ret (de_c C__law_pairs_fine hr (da_cons (de_ix (xd_ix hr) (de_var 1) de_int) (da_cons (de_c C__law_variables hr (da_cons (de_var 0) (da_cons (de_ix (xd_ix hr) (de_var 1) de_int) da_nil))) (da_cons (de_var 2) da_nil))))))))), ?run⟩), F.binds (ps := ["code", "given", "numbers"]) fun _ _ _ _ _ _ us hl => match us, hl with | [_, _, _], _ => rfl, mf, F⟩
  case len => obtain ⟨n, d, A, ns, ks, ps, rfl, _⟩ := h; rfl
  case run =>
    obtain ⟨n, d, A, ns, ks, ps, rfl, h⟩ := h
    simp only [dVar, dC, dOp, dUn, dChain, dTr, dB, dAnd, dOr, dNot, dIf, dAndV, dOrV, dNotV, dNil, dCons, dTup, dLst, dLf, dNext, dSeq, dBreak, dCont, dDrop, dRet, dRetN, dIfS, gdName, gdNil, gdCons, gdTup, gdSub, dAsg, dPar, dCall, dCallK, dCB, dM0, dM, dGet1, dGet2, dDk, dDt, dPart, dNoPart, dSlice, dAug, dYes, dSort2, revD, iTupD, iLstD, iLf, iLw, iRange1, iRange2, iRange3, iEnumD, iZipD, iZipMD, iStrD, dGix, dDc, dIsi, dSortSet, dLenSet, dDlit, gdLst, dFor, dWhile, dLc, dLcM, dFld, dFldSet, dFldAdd, dMeth, dMake, dPar3, dDisp, dPrs, dFsi, dGget, dKgt, dKgtL, dDz, iEnumMD, dCut, dTcut, wipeD, bodyE, startD, List.map_cons, List.map_nil, List.length_cons, List.length_nil, List.replicate_succ, List.replicate_zero, List.cons_append, List.nil_append, Nat.reduceAdd, Nat.reduceSub, Nat.zero_add, List.getElem?_cons_zero, List.getElem?_cons_succ, List.set_cons_zero, List.set_cons_succ, Option.some.injEq, exists_eq_left', exists_eq_left, if_true, sizeLine_eq, Nat.reduceLeDiff, Nat.reduceLT, Nat.zero_le, true_and, and_true, Bool.false_eq_true, if_false]
    obtain ⟨hd, hn, ok, hA, hns, q⟩ := h
    have no : ¬ FrP ps ns d → ∃ d1 S1, VW (D.bl false) S d1 S1 ∧ Q d1 S1 := fun e => rt_of (by
      rw [frB_no e] at q
      exact q)
    refine ty_tp hd (fun xs e => ?_) fun e => brT rfl (no (by rintro ⟨x, r, y, zs, rfl, _⟩; cases e))
    subst e
    obtain ⟨_, hds⟩ := gv_tup.mp hd
    refine brF rfl (len_ne (m := 3) (fun h => no (by rintro ⟨x, r, y, zs, e, _⟩; cases e; exact h rfl)) fun hlen => ?_)
    obtain ⟨a, b, c, rfl⟩ := three hlen
    have ha := hds a (by simp)
    have hb := hds b (by simp)
    have hc := hds c (by simp)
    refine ix_sq rfl rfl at_0 (ty_s ha (fun z e => ?_) fun e => brT rfl (no (by rintro ⟨x, r, y, zs, e2, _⟩; cases e2; cases e)))
    subst e
    have p6 := ok.l
    refine brF rfl (ix_sq rfl rfl at_0 (ix_sq rfl rfl (at_n (i := 1) rfl) ⟨_, .inl rfl, lc_mp nmD (by rw [List.length_map]; omega) (fun W i x acc hx w => ?_) ?_⟩))
    · obtain ⟨p, hp, rfl⟩ := map_at hx
      exact ix_sq rfl rfl at_0 w
    rw [nmD_pc]
    refine in_ws (ws := ps.map (·.1)) rfl (fun z e => nomatch e) (gv_str.mp ha).1 (fun x hx => (ok.sh x hx).1) ⟨_, rfl, br2 (fun h => no (by rintro ⟨x, r, y, zs, e2, h2, _⟩; cases e2; exact of_nxt h h2)) fun h => ?_⟩
    have hz : z ∈ ps.map (·.1) := of_nxf h
    obtain ⟨p, hp, hpm⟩ := pcOf_ex hz
    have po := ok.p p hpm
    refine ix_sq rfl rfl (at_n (i := 1) rfl) (ix_sq rfl rfl at_0 ⟨z, ks, ps, rfl, ok, hz, len_sq rfl ⟨n, b, _, _, rfl, hb, tru_b ?_⟩⟩)
    rw [List.length_map]
    cases hI : isI b with
    | false => exact brT (by rw [intF_no hI]; rfl) (no (by rintro ⟨x, r, y, zs, e2, h2, _⟩; cases e2; cases hI))
    | true =>
    obtain ⟨i, rfl⟩ := i_of hI
    have eI : intF 0 ((rowsOf ps z).length : Nat) (.int i) = (decide (0 ≤ i) && decide (i ≤ ((rowsOf ps z).length : Nat))) := rfl
    rw [eI]
    by_cases hj : 0 ≤ i ∧ i ≤ ((rowsOf ps z).length : Nat)
    rotate_left
    · refine brT ?_ (no (by rintro ⟨x, r, y, zs, e2, h2, h3, h4, _⟩; cases e2; exact hj ⟨h3, h4⟩))
      have : (decide (0 ≤ i) && decide (i ≤ ((rowsOf ps z).length : Nat))) = false := by
        rw [Bool.and_eq_false_iff]
        by_cases h1 : 0 ≤ i
        · exact .inr (decide_eq_false fun h2 => hj ⟨h1, h2⟩)
        · exact .inl (decide_eq_false h1)
      rw [this]; rfl
    refine brF (by rw [decide_eq_true hj.1, decide_eq_true hj.2]; rfl) (ix_sq rfl rfl (at_n (i := 2) rfl) (ix_sq rfl rfl at_0 ⟨z, ks, ps, rfl, ok, hz, fun ys hs => ⟨n, c, A, ns, ys, rfl, hc, hn, hA, hns, fun y hy => ?_, rt_of ?_⟩⟩))
    · have := (hs.2.2 y).mp hy
      unfold varsOf at this
      rw [hp] at this
      exact (nm_sh y (po.nm y this)).1
    · have e : frB ps ns (.tup [.str z, .int i, c]) = decide (prsD ns c = some ys) := by
        by_cases h : prsD ns c = some ys
        · rw [decide_eq_true h]
          exact frB_iff.mpr ⟨z, i, _, ys, rfl, hz, hj.1, hj.2, h, hs⟩
        · rw [decide_eq_false h]
          refine frB_no ?_
          rintro ⟨x, r, y, zs', e2, h2, h3, h4, h5, h6⟩
          cases e2
          exact h (by rw [h5, h6.one hs])
      rw [e] at q
      exact q
def sp__law_due : SpD := fun ds S Q _ => ∃ (n : Nat) (d : D) (ks : List Hd) (ps : List Pc), ds = [prD (.tup (ks.map hdD)) ps, d] ∧ gv S n d ∧ n ≤ 10 ∧ PrOk ks ps ∧ Q (.bl (stB ks ps d)) S
theorem ok__law_due {P : Program} {w : World} {K : PySem.W.Frag} {mg : Str → Option Value} {base : Heap} (T : Txt K w mg) (C__law_cells_fine : Cal P w K mg base 4 "_law_cells_fine" s__law_cells_fine ["code", "given", "made"] sp__law_cells_fine) (C__law_int : Cal P w K mg base 1 "_law_int" s__law_int ["given", "low", "high"] sp__law_int) (C__law_rows : Cal P w K mg base 1 "_law_rows" s__law_rows ["code", "name"] sp__law_rows) (C__law_frame_fine : Cal P w K mg base 4 "_law_frame_fine" s__law_frame_fine ["code", "given", "numbers"] sp__law_frame_fine) {ff : Addr} {fd : FuncData} (F : Fun K "_law_due" "_law_due" s__law_due ff fd) (mf : mg "_law_due" = some (.ref ff)) : Cal P w K mg base 5 "_law_due" s__law_due ["code", "given"] sp__law_due := by
  refine ⟨ff, fd, okD F sc__law_due (fun ds S Q E h => ?len) (fun cdv A outer s H E ds S Q E' hcd hr h => ⟨_, (dss_cons (ds_if (dw_or (dt_not (dt_tr td_tru (de_isi (tn := "tuple") (by rfl) T.nb_isinstance (by rfl) T.nb_tuple (de_var 1)))) (dw_or (dt_cmp (od_ne hr) (de_callB cd_len (by rfl) T.nb_len (da_cons (de_var 1) da_nil)) de_int) (dw_or1 (dt_not (dt_tr td_tru (de_c C__law_int hr (da_cons (de_ix (xd_ix hr) (de_var 1) de_int) (da_cons de_int (da_cons (de_op od_pow de_int de_int) da_nil))))))))).pt (dss_one (ds_ret de_bl)) dss_nil)
      (dss_cons (ds_set 2 sc__law_due.nd (de_c C__law_cells_fine hr (da_cons (de_var 0) (da_cons (de_ix (xd_ix hr) (de_var 1) de_int) (da_cons (de_ix (xd_ix hr) (de_var 1) de_int) da_nil)))))
      (dss_cons (ds_if (dw_or (dt_cmp od_is (de_var 2) de_non) (dw_or1 (dt_not (dt_tr td_tru (de_isi (tn := "tuple") (by rfl) T.nb_isinstance (by rfl) T.nb_tuple (de_ix (xd_ix hr) (de_var 1) de_int)))))).pt (dss_one (ds_ret de_bl)) dss_nil)
      (dss_cons (ds_for PassesOwn.never rfl (di_enumM (by rfl) T.nb_enumerate (da_cons (de_ix (xd_ix hr) (de_var 1) de_int) da_nil)) (dg_tup (n := 2) rfl (dgs_cons (dg_name 3 sc__law_due.nd) (dgs_cons (dg_name 4 sc__law_due.nd) dgs_nil))) (dss_cons (ds_if (dw_or (dt_not (dt_tr td_tru (de_c C__law_frame_fine hr (da_cons (de_var 0) (da_cons (de_var 4) (da_cons (de_var 2) da_nil)))))) (dw_or1 (dw_and (dt_cmp (od_eq hr) (de_var 3) de_int) (dw_and1 (dt_cmp (od_ne hr) (de_ix (xd_ix hr) (de_var 4) de_int) de_str))).pt)).pt (dss_one (ds_ret de_bl)) dss_nil)
      (dss_one (ds_if (dt_cmp od_gt (de_var 3) de_int) (dss_cons (ds_asg (de_ix (xd_ix hr) (de_ix (xd_ix hr) (de_var 1) de_int) (de_op od_sub (de_var 3) de_int)) (dg_tup (n := 3) rfl (dgs_cons (dg_name 5 sc__law_due.nd) (dgs_cons (dg_name 6 sc__law_due.nd) (dgs_cons (dg_name 7 sc__law_due.nd) dgs_nil)))))
      (dss_cons (ds_set 8 sc__law_due.nd (de_c C__law_rows hr (da_cons (de_var 0) (da_cons (de_var 5) da_nil))))
      (dss_one (ds_if (dw_or (dt_cmp (od_eq hr) (de_var 6) (de_callB cd_len (by rfl) T.nb_len (da_cons (de_var 8) da_nil))) (dw_or (dt_cmp (od_ne hr) (de_ix (xd_ix hr) (de_ix (xd_ix hr) (de_var 8) (de_var 6)) de_int) de_str) (dw_or1 (dt_cmp (od_ne hr) (de_ix (xd_ix hr) (de_ix (xd_ix hr) (de_var 8) (de_var 6)) de_int) (de_ix (xd_ix hr) (de_var 4) de_int))))).pt (dss_one (ds_ret de_bl)) dss_nil)))) dss_nil))))
      (dss_one (ds_ret de_bl)))))), ?run⟩), F.binds (ps := ["code", "given"]) fun _ _ _ _ _ _ us hl => match us, hl with | [_, _], _ => rfl, mf, F⟩
  case len => obtain ⟨n, d, ks, ps, rfl, _⟩ := h; rfl
  case run =>
    obtain ⟨n, d, ks, ps, rfl, h⟩ := h
    simp only [dVar, dC, dOp, dUn, dChain, dTr, dB, dAnd, dOr, dNot, dIf, dAndV, dOrV, dNotV, dNil, dCons, dTup, dLst, dLf, dNext, dSeq, dBreak, dCont, dDrop, dRet, dRetN, dIfS, gdName, gdNil, gdCons, gdTup, gdSub, dAsg, dPar, dCall, dCallK, dCB, dM0, dM, dGet1, dGet2, dDk, dDt, dPart, dNoPart, dSlice, dAug, dYes, dSort2, revD, iTupD, iLstD, iLf, iLw, iRange1, iRange2, iRange3, iEnumD, iZipD, iZipMD, iStrD, dGix, dDc, dIsi, dSortSet, dLenSet, dDlit, gdLst, dFor, dWhile, dLc, dLcM, dFld, dFldSet, dFldAdd, dMeth, dMake, dPar3, dDisp, dPrs, dFsi, dGget, dKgt, dKgtL, dDz, iEnumMD, dCut, dTcut, wipeD, bodyE, startD, List.map_cons, List.map_nil, List.length_cons, List.length_nil, List.replicate_succ, List.replicate_zero, List.cons_append, List.nil_append, Nat.reduceAdd, Nat.reduceSub, Nat.zero_add, List.getElem?_cons_zero, List.getElem?_cons_succ, List.set_cons_zero, List.set_cons_succ, Option.some.injEq, exists_eq_left', exists_eq_left, if_true, sizeLine_eq, Nat.reduceLeDiff, Nat.reduceLT, Nat.zero_le, true_and, and_true, Bool.false_eq_true, if_false]
    obtain ⟨hd, hn, ok, q⟩ := h
    have no : ¬ StP ks ps d → ∃ d1 S1, VW (D.bl false) S d1 S1 ∧ Q d1 S1 := fun e => rt_of (by
      rw [stB_no e] at q
      exact q)
    refine ty_tp hd (fun xs e => ?_) fun e => brT rfl (no (by rintro ⟨fs, c, m, ns, rfl, _⟩; cases e))
    subst e
    obtain ⟨_, hds⟩ := gv_tup.mp hd
    refine brF rfl (len_ne (m := 3) (fun h => no (by rintro ⟨fs, c, m, ns, e, _⟩; cases e; exact h rfl)) fun hlen => ?_)
    obtain ⟨a, b, c, rfl⟩ := three hlen
    have ha := hds a (by simp)
    have hb := hds b (by simp)
    have hc := hds c (by simp)
    refine ix_sq rfl rfl (at_n (i := 2) rfl) (it_of ⟨by decide, by decide, by decide⟩ ⟨n, c, _, _, rfl, hc, tru_b ?_⟩)
    cases hI : isI c with
    | false => exact brT (by rw [intF_no hI]; rfl) (no (by rintro ⟨fs, c, m, ns, e2, _⟩; cases e2; cases hI))
    | true =>
    obtain ⟨m, rfl⟩ := i_of hI
    have eI : intF 0 ((10 : Int) ^ (50 : Int).toNat) (.int m) = decide (0 ≤ m) := by
      have := gv_int.mp hc
      show (decide (0 ≤ m) && decide (m ≤ (10 : Int) ^ (50 : Int).toNat)) = _
      rw [big, decide_eq_true (p := m ≤ _) (by omega), Bool.and_true]
    rw [eI]
    by_cases m0 : 0 ≤ m
    rotate_left
    · refine brT (by rw [decide_eq_false m0]; rfl) (no ?_)
      rintro ⟨fs, c, m, ns, e2, h0, _⟩
      cases e2
      exact m0 h0
    refine brF (by rw [decide_eq_true m0]; rfl) (ix_sq rfl rfl (at_n (i := 1) rfl) (ix_sq rfl rfl (at_n (i := 2) rfl) ⟨n, b, m, ks, ps, rfl, hb, hn, ok, fun e => ?_, fun ns A e hns nA => ?_⟩))
    · refine ⟨rfl, _, rfl, brT rfl (no ?_)⟩
      rintro ⟨fs, c, m, ns, e2, h0, h1, _⟩
      cases e2
      rw [e] at h1
      cases h1
    · refine ⟨rfl, _, rfl, brF rfl (ix_sq rfl rfl at_0 (ty_tp (gv_le (Kp.up' nA) (Nat.le_refl _) ha) (fun fs e => ?_) fun e2 => brT rfl (rt_up nA ?_)))⟩
      rotate_left
      · rw [stB_of m0 e, frsD_no e2] at q
        exact q
      subst e
      rw [stB_of m0 ‹_›] at q
      have q : Q (.bl (frsB ps ns fs)) S := q
      obtain ⟨hfl, hfs⟩ := gv_tup.mp ha
      have no : frsB ps ns fs ≠ true → ∃ d1 S1, VW (D.bl false) (up S A (.lst (ns.map D.int))) d1 S1 ∧ Q d1 S1 := fun e => rt_up nA (by
        cases h : frsB ps ns fs with
        | true => exact absurd h e
        | false => rw [h] at q; exact q)
      have frs := frsB_iff (ps := ps) (ns := ns) (fs := fs)
      refine brF rfl (ix_sq rfl rfl at_0 ⟨_, fs, rfl, rfl, fr_of fs.length (fun i δ S' => ∃ r3 r4 r5 r6 r7 r8, i ≤ fs.length ∧ δ = [some (prD (.tup (ks.map hdD)) ps), some (D.tup [D.tup fs, b, D.int m]), some (D.ref A), r3, r4, r5, r6, r7, r8] ∧ S' = up S A (.lst (ns.map D.int)) ∧ ∀ j f, j < i → fs[j]? = some f → FrP ps ns f ∧ (j = 0 → isMain f = true) ∧ ∀ g, j = g + 1 → ∀ f0, fs[g]? = some f0 → waits ps f0 f = true) ⟨_, _, _, _, _, _, Nat.zero_le _, rfl, rfl, fun j f h => absurd h (Nat.not_lt_zero _)⟩ ?_ ?_⟩)
      · rintro i δ S' hi ⟨r3, r4, r5, r6, r7, r8, hile, rfl, rfl, hall⟩
        have hx := List.getElem?_eq_getElem hi
        have hv := hfs _ (List.getElem_mem hi)
        generalize fs[i] = f at hx hv
        refine ⟨_, enumM_at hx, _, rfl, rfl, _, _, rfl, _, _, rfl, rfl, ?_⟩
        refine ⟨_, rfl, _, rfl, _, rfl, n, f, A, ns, ks, ps, rfl, gv_le (Kp.up' nA) (Nat.le_refl _) hv, hn, ok, up_same, hns, tru_b ?_⟩
        by_cases hF : FrP ps ns f
        rotate_left
        · exact brT (by rw [frB_no hF]; rfl) (no fun e => hF ((frs.mp e).a i f hx))
        refine brF (by rw [frB_iff.mpr hF]; rfl) ?_
        obtain ⟨x, r, y, zs, hFe, hx0, hr0, hr1, hp0, hs0⟩ := id hF
        subst hFe
        have ext : ∀ (W1 : (i = 0 → x = "main")) (W2 : ∀ g f0, i = g + 1 → fs[g]? = some f0 → waits ps f0 (.tup [.str x, .int r, y]) = true), ∀ j f, j < i + 1 → fs[j]? = some f → FrP ps ns f ∧ (j = 0 → isMain f = true) ∧ ∀ g, j = g + 1 → ∀ f0, fs[g]? = some f0 → waits ps f0 f = true := fun W1 W2 j f hj hjf => by
          by_cases h : j < i
          · exact hall j f h hjf
          · obtain rfl : j = i := by omega
            rw [hx] at hjf
            cases hjf
            refine ⟨hF, fun e => ?_, fun g e f0 hf0 => W2 g f0 e hf0⟩
            rw [W1 e]
            unfold isMain
            simp
        by_cases h0 : i = 0
        · subst h0
          refine ⟨_, rfl, _, rfl, brT (xt (by simp)) ⟨_, rfl, ix_sq rfl rfl at_0 (eq_ss ⟨_, rfl, br2 (fun h => no fun e => ?_) fun h => ?_⟩)⟩⟩
          · have := (frs.mp e).m _ hx
            unfold isMain at this
            have h : x ≠ "main" := of_nxt h
            exact h (by
              have := of_decide_eq_true this
              cases this; rfl)
          · have h : x = "main" := of_nxf h
            exact ⟨_, rfl, it_of trivial ⟨_, rfl, brF (by simp) ⟨_, _, _, _, _, _, hi, rfl, rfl, ext (fun _ => h) fun g f0 e => by omega⟩⟩⟩
        · have hpv : i - 1 < fs.length := by omega
          have hg := List.getElem?_eq_getElem hpv
          have hfp := (hall (i - 1) _ (by omega) hg).1
          generalize fs[i - 1] = f0 at hg hfp
          obtain ⟨x2, r2, y2, zs2, rfl, hx2, hr20, hr21, hp2, hs2⟩ := id hfp
          obtain ⟨r2, rfl⟩ : ∃ j : Nat, r2 = j := ⟨r2.toNat, by omega⟩
          have eg : fs[i - 1 + 1]? = some (.tup [.str x, .int r, y]) := by rw [show i - 1 + 1 = i by omega]; exact hx
          have now : waits ps (.tup [.str x2, .int (r2 : Nat), y2]) (.tup [.str x, .int r, y]) ≠ true → ∃ d1 S1, VW (D.bl false) (up S A (.lst (ns.map D.int))) d1 S1 ∧ Q d1 S1 := fun h => no fun e => h ((frs.mp e).c (i - 1) _ _ hg eg)
          have ew : waits ps (.tup [.str x2, .int (r2 : Nat), y2]) (.tup [.str x, .int r, y]) = match (rowsOf ps x2)[r2]? with
            | some w => decide (w.calls = some x)
            | none => false := rfl
          rw [ew] at now
          refine ⟨_, rfl, _, rfl, brF (xf (by simp; omega)) ⟨_, rfl, it_of trivial ⟨_, rfl, brT (decide_eq_true (by omega)) ⟨_, rfl, ix_sq rfl rfl at_0 ⟨_, rfl, it_of trivial (ix_sq rfl rfl (by rw [show (i : Int) - 1 = ((i - 1 : Nat) : Int) by omega]; exact at_n hg) ⟨_, rfl, rfl, _, _, rfl, _, _, rfl, _, _, rfl, rfl, _, rfl, _, rfl, x2, ks, ps, rfl, ok, hx2, ?_⟩)⟩⟩⟩⟩⟩
          refine ⟨_, rfl, _, rfl, len_sq rfl ⟨_, rfl, ?_⟩⟩
          rw [List.length_map]
          by_cases hE : r2 = (rowsOf ps x2).length
          · exact brT (xt (by omega)) (now (by rw [List.getElem?_eq_none (by omega)]; exact Bool.false_ne_true))
          have hr' : (rowsOf ps x2)[r2]? = some (rowsOf ps x2)[r2] := List.getElem?_eq_getElem (by omega)
          have okr : (rowsOf ps x2)[r2].Ok (rowsOf ps x2).length (ps.map (·.1)) := by
            obtain ⟨p, h1, h2, h3⟩ := rowsOf_ok ok hx2
            have := h3.ok _ (by rw [← h2]; exact List.getElem_mem (l := rowsOf ps x2) (n := r2) (by omega))
            rw [← h2] at this
            exact this
          generalize (rowsOf ps x2)[r2] = w at hr' okr
          rw [hr'] at now ew
          dsimp only at now ew
          have hm : atI ((rowsOf ps x2).map Rw.d) (r2 : Int) = some w.d := at_n (by rw [List.getElem?_map, hr']; rfl)
          refine brF (xf (by omega)) ⟨_, rfl, _, rfl, ix_sq rfl rfl hm (ix_sq rfl rfl at_0 ⟨_, rfl, ?_⟩)⟩
          rcases rw_call okr with ⟨f, _, c1, c2, c3, _⟩ | ⟨c1, c2⟩
          · refine brF (nxf c2) ⟨_, rfl, _, rfl, ix_sq rfl rfl hm (ix_sq rfl rfl (at_n (i := 2) (by rw [List.getElem?_cons_succ]; exact c3)) ⟨_, rfl, ix_sq rfl rfl at_0 (eq_ss ⟨_, rfl, br2 (fun h => now ?_) fun h => ?_⟩)⟩)⟩
            · rw [c1]
              intro e
              exact of_nxt h (Option.some.inj (of_decide_eq_true e))
            · have h : f = x := of_nxf h
              refine ⟨_, _, _, _, _, _, hi, rfl, rfl, ext (fun e => absurd e h0) fun g f1 e hf1 => ?_⟩
              obtain rfl : g = i - 1 := by omega
              rw [hg] at hf1
              cases hf1
              rw [ew, c1, h]
              exact decide_eq_true rfl
          · exact brT (nxt c2) (now (by rw [c1]; simp))
      · rintro i δ S' hi ⟨r3, r4, r5, r6, r7, r8, hile, rfl, rfl, hall⟩
        have ei : i = fs.length := by omega
        refine ⟨enumM_no ei, rt_up nA ?_⟩
        have e : frsB ps ns fs = true := frs.mpr ⟨fun j f e => (hall j f (by have := (List.getElem?_eq_some_iff.mp e).1; omega) e).1, fun f e => (hall 0 f (by have := (List.getElem?_eq_some_iff.mp e).1; omega) e).2.1 rfl, fun j f g e1 e2 => (hall (j + 1) g (by have := (List.getElem?_eq_some_iff.mp e2).1; omega) e2).2.2 j rfl f e1⟩
        rw [e] at q
        exact q
end K10

namespace K10
open PySem L2 PyProof.Rows DL
/-! ### draws -/
/-- the spring at p, its cells at a, n draws at most to come -/
def spD (a : Addr) (m : Int) (c : Nat) : List (Key × D) := [(.inr "great", .ref a), (.inr "seed", .int m), (.inr "turn", .int (c : Nat))]
def Spr (S : Sto) (p a : Addr) (n : Nat) : Prop := ∃ (ms : List Int) (m : Int) (c : Nat), S p = some (.dk (spD a m c)) ∧ S a = some (.lst (ms.map D.int)) ∧ p ≠ a ∧ ms.length ≤ 100 ∧ c + n ≤ 2 ^ 40
theorem Spr.mono {S : Sto} {p a : Addr} {n m : Nat} (h : Spr S p a n) (hm : m ≤ n) : Spr S p a m := by
  obtain ⟨ms, q, c, h1, h2, h3, h4, h5⟩ := h
  exact ⟨ms, q, c, h1, h2, h3, h4, by omega⟩
/-- nothing but the spring has changed -/
def Off (p a : Addr) (S S' : Sto) : Prop := ∀ b, b ≠ p → b ≠ a → S' b = S b
theorem Off.refl {p a : Addr} {S : Sto} : Off p a S S := fun _ _ _ => rfl
theorem Off.trans {p a : Addr} {S S1 S2 : Sto} (h : Off p a S S1) (k : Off p a S1 S2) : Off p a S S2 := fun b h1 h2 => (k b h1 h2).trans (h b h1 h2)
theorem Spr.up {S : Sto} {p a b : Addr} {n : Nat} {o : MO} (h : Spr S p a n) (h1 : b ≠ p) (h2 : b ≠ a) : Spr (up S b o) p a n := by
  obtain ⟨ms, m, c, k1, k2, k3⟩ := h
  exact ⟨ms, m, c, by rw [up_ne h1.symm]; exact k1, by rw [up_ne h2.symm]; exact k2, k3⟩
theorem Spr.del {S : Sto} {p a b : Addr} {n : Nat} (h : Spr S p a n) (h1 : b ≠ p) (h2 : b ≠ a) : Spr (del S b) p a n := by
  obtain ⟨ms, m, c, k1, k2, k3⟩ := h
  exact ⟨ms, m, c, by rw [del_ne h1.symm]; exact k1, by rw [del_ne h2.symm]; exact k2, k3⟩
theorem Spr.ne {S : Sto} {p a b : Addr} {n : Nat} (h : Spr S p a n) (hb : S b = none) : b ≠ p ∧ b ≠ a := by
  obtain ⟨ms, m, c, k1, k2, k3⟩ := h
  exact ⟨fun e => (by rw [e, k1] at hb; cases hb), fun e => (by rw [e, k2] at hb; cases hb)⟩
theorem Off.kp {S S' : Sto} {p a : Addr} {n : Nat} (h : Off p a S S') (s : Spr S p a n) : Kp S S' := fun b e => by
  obtain ⟨ms, m, c, k1, k2, _⟩ := s
  rw [h b (fun z => by rw [z, k1] at e; cases e) (fun z => by rw [z, k2] at e; cases e)]
  exact e
/-- what stands at other places stays; more may have come -/
def Ofx (p a : Addr) (S S' : Sto) : Prop := ∀ b o, b ≠ p → b ≠ a → S b = some o → S' b = some o
theorem Ofx.refl {p a : Addr} {S : Sto} : Ofx p a S S := fun _ _ _ _ h => h
theorem Ofx.trans {p a : Addr} {S S1 S2 : Sto} (h : Ofx p a S S1) (k : Ofx p a S1 S2) : Ofx p a S S2 := fun b o h1 h2 e => k b o h1 h2 (h b o h1 h2 e)
theorem Off.x {p a : Addr} {S S' : Sto} (h : Off p a S S') : Ofx p a S S' := fun b o h1 h2 e => by rw [h b h1 h2]; exact e
theorem Ofx.up {p a x : Addr} {S S' : Sto} {o : MO} (h : Ofx p a S S') (hx : S' x = none) : Ofx p a S (DL.up S' x o) := fun b o' h1 h2 e => by
  have := h b o' h1 h2 e
  have ne : b ≠ x := fun z => by subst z; rw [this] at hx; cases hx
  rw [up_ne ne]; exact this
theorem Ofx.kp {S S' : Sto} {p a : Addr} {n : Nat} (h : Ofx p a S S') (s : Spr S p a n) : Kp S S' := fun b e => by
  obtain ⟨ms, m, c, k1, k2, _⟩ := s
  exact h b _ (fun z => by rw [z, k1] at e; cases e) (fun z => by rw [z, k2] at e; cases e) e
theorem gn1 : ¬ (Str.ofString "great" = Str.ofString "turn") := ofS (by decide)
theorem gn2 : ¬ (Str.ofString "seed" = Str.ofString "turn") := ofS (by decide)
theorem gn3 : ¬ (Str.ofString "great" = Str.ofString "seed") := ofS (by decide)
theorem put_turn {a : Addr} {m : Int} {c : Nat} : putD (spD a m c) (.inr "turn") (.int ((c : Int) + 1)) = spD a m (c + 1) := by
  unfold putD spD
  simp [gn1, gn2]
theorem ix_great {S : Sto} {p a : Addr} {m : Int} {c : Nat} {Q : KD} (hp : S p = some (.dk (spD a m c))) (q : Q (.ref a) S) : ixD (.ref p) (.str "great") S Q :=
  ix_at (d := .ref a) (by rw [at_dk hp (κ := .inr "great") rfl]; unfold valD spD; simp [gn1, gn2, gn3]) q
theorem ix_seed {S : Sto} {p a : Addr} {m : Int} {c : Nat} {Q : KD} (hp : S p = some (.dk (spD a m c))) (q : Q (.int m) S) : ixD (.ref p) (.str "seed") S Q :=
  ix_at (d := .int m) (by rw [at_dk hp (κ := .inr "seed") rfl]; unfold valD spD; simp [gn1, gn2, gn3]) q
theorem ix_turn {S : Sto} {p a : Addr} {m : Int} {c : Nat} {Q : KD} (hp : S p = some (.dk (spD a m c))) (q : Q (.int (c : Nat)) S) : ixD (.ref p) (.str "turn") S Q :=
  ix_at (d := .int (c : Nat)) (by rw [at_dk hp (κ := .inr "turn") rfl]; unfold valD spD; simp [gn1, gn2, gn3]) q
theorem erase_map {α β : Type} (f : α → β) : ∀ (l : List α) (i : Nat), (l.map f).eraseIdx i = (l.eraseIdx i).map f
  | [], i => by simp
  | x :: l, 0 => rfl
  | x :: l, i + 1 => by
    rw [List.map_cons, List.eraseIdx_cons_succ, List.eraseIdx_cons_succ, List.map_cons, erase_map f l i]
theorem erase_perm {α : Type} : ∀ {l : List α} {i : Nat} (h : i < l.length), (l[i] :: l.eraseIdx i).Perm l
  | [], i, h => absurd h (Nat.not_lt_zero _)
  | x :: l, 0, h => .refl _
  | x :: l, i + 1, h => by
    rw [List.eraseIdx_cons_succ, List.getElem_cons_succ]
    exact (List.Perm.swap _ _ _).trans (List.Perm.cons x (erase_perm (by simpa using h)))
end K10


namespace K10
open PySem L2 PyProof.Rows DL
def sp__law_deck : SpD := fun ds S Q _ => ∃ ns : List Int, ds = [.fl (ns.map D.int)] ∧ ns.length ≤ 63 ∧ ∀ p a S', Spr S' p a (2 ^ 40) → S p = none → S a = none → Off p a S S' → Q (.ref p) S'
theorem ok__law_deck {P : Program} {w : World} {K : PySem.W.Frag} {mg : Str → Option Value} {base : Heap} (T : Txt K w mg)  {ff : Addr} {fd : FuncData} (F : Fun K "_law_deck" "_law_deck" s__law_deck ff fd) (mf : mg "_law_deck" = some (.ref ff)) : Cal P w K mg base 1 "_law_deck" s__law_deck ["script"] sp__law_deck := by
  refine ⟨ff, fd, okD F sc__law_deck (fun ds S Q E h => ?len) (fun cdv A outer s H E ds S Q E' hcd hr h => ⟨_, (dss_cons (ds_set 1 sc__law_deck.nd de_int)
      (dss_cons (ds_for PassesOwn.never rfl (di_lf (de_slice (xd_slice false) (de_var 0) do_none (do_some de_int))) (dg_name 2 sc__law_deck.nd) (dss_one (ds_set 1 sc__law_deck.nd (de_op od_mod (de_op (od_add false) (de_op (od_add false) (de_op od_mul (de_var 1) de_int) (de_op od_mod (de_var 2) de_int)) de_int) de_int))))
      (dss_cons (ds_setLc 3 [("cell", 2)] rfl sc__law_deck.nd (di_lf (de_slice (xd_slice false) (de_var 0) do_none (do_some de_int))) (blkOk_by (N := ["script", "seed", "cell", "great"]) (sc := defScope s__law_deck) (by decide +kernel)) (fun _ _ _ _ _ => (pg_name (i := 2) sc__law_deck.nd rfl (Or.inl rfl) (Or.inr rfl))) (fun N => (tg_name (vs := [2]) (i := 2) (by decide))) (fun _ _ _ _ _ => pts_one (dt_cmp od_ge (de_var 2) (de_op od_pow de_int de_int))) (fun _ _ _ _ _ => (de_var 2)))
      (dss_one (ds_ret (de_disp [(.inr "great", _), (.inr "seed", _), (.inr "turn", _)] (pps_cons pe_str (de_rev true (de_var 3)) (pps_cons pe_str (de_var 1) (pps_cons pe_str de_int pps_nil))))))))), ?run⟩), F.binds (ps := ["script"]) fun _ _ _ _ _ _ us hl => match us, hl with | [_], _ => rfl, mf, F⟩
  case len => obtain ⟨ns, rfl, _⟩ := h; rfl
  case run =>
    obtain ⟨ns, rfl, h⟩ := h
    simp only [dVar, dC, dOp, dUn, dChain, dTr, dB, dAnd, dOr, dNot, dIf, dAndV, dOrV, dNotV, dNil, dCons, dTup, dLst, dLf, dNext, dSeq, dBreak, dCont, dDrop, dRet, dRetN, dIfS, gdName, gdNil, gdCons, gdTup, gdSub, dAsg, dPar, dCall, dCallK, dCB, dM0, dM, dGet1, dGet2, dDk, dDt, dPart, dNoPart, dSlice, dAug, dYes, dSort2, revD, iTupD, iLstD, iLf, iLw, iRange1, iRange2, iRange3, iEnumD, iZipD, iZipMD, iStrD, dGix, dDc, dIsi, dSortSet, dLenSet, dDlit, gdLst, dFor, dWhile, dLc, dLcM, dFld, dFldSet, dFldAdd, dMeth, dMake, dPar3, dDisp, dPrs, dFsi, dGget, dKgt, dKgtL, dDz, iEnumMD, dCut, dTcut, wipeD, bodyE, startD, List.map_cons, List.map_nil, List.length_cons, List.length_nil, List.replicate_succ, List.replicate_zero, List.cons_append, List.nil_append, Nat.reduceAdd, Nat.reduceSub, Nat.zero_add, List.getElem?_cons_zero, List.getElem?_cons_succ, List.set_cons_zero, List.set_cons_succ, Option.some.injEq, exists_eq_left', exists_eq_left, if_true, sizeLine_eq, Nat.reduceLeDiff, Nat.reduceLT, Nat.zero_le, true_and, and_true, Bool.false_eq_true, if_false]
    obtain ⟨hl, q⟩ := h
    obtain ⟨ns', ec, lc, _⟩ := cutD_map D.int ns none (some 63)
    refine ⟨63, rfl, sl_f rfl ⟨_, rfl, ?_⟩⟩
    rw [ec]
    refine fr_seq (fun i δ S' => S' = S ∧ ∃ (m : Int) (r2 r3 : Option D), δ = [some (.fl (ns.map D.int)), some (.int m), r2, r3]) ⟨rfl, _, _, _, rfl⟩ ?_ ?_
    · rintro i x δ S' hx ⟨rfl, m, r2, r3, rfl⟩
      obtain ⟨z, hz, rfl⟩ := map_at hx
      exact ⟨_, rfl, it_of (cmul2 (by decide) (by decide)) ⟨_, rfl, it_of (by decide) (add_i (add_i (it_of (by decide) ⟨rfl, _, _, _, rfl⟩)))⟩⟩
    · rintro i δ S' hi ⟨rfl, m, r2, r3, rfl⟩
      refine ⟨_, rfl, 63, rfl, sl_f rfl ⟨_, rfl, ?_⟩⟩
      rw [ec]
      refine lc_seq (fun i acc S2 => S2 = S' ∧ ∃ ms : List Int, acc = ms.map D.int ∧ ms.length ≤ i ∧ i ≤ ns'.length) ⟨rfl, [], rfl, Nat.le_refl _, Nat.zero_le _⟩ ?_ ?_
      · rintro j x acc S2 hx ⟨rfl, ms, rfl, hm, hj0⟩
        have hj := (List.getElem?_eq_some_iff.mp hx).1
        rw [List.length_map] at hj
        obtain ⟨z, hz, rfl⟩ := map_at hx
        refine ⟨by rw [List.length_map, sizeLine_eq]; omega, _, rfl, it_of ⟨by decide, by decide, by decide⟩ (it_of trivial ⟨_, rfl, br2 (fun _ => ?_) fun _ => ⟨rfl, ms, rfl, by omega, hj⟩⟩)⟩
        exact ⟨_, rfl, rfl, ms ++ [z], by rw [List.map_append]; rfl, by rw [List.length_append, List.length_singleton]; omega, hj⟩
      · rintro j acc S2 hj ⟨rfl, ms, rfl, hm, hj2⟩
        intro p np
        refine ⟨_, rfl, ms.map D.int, rfl, fun a na => ?_⟩
        obtain ⟨na1, na2⟩ := up_non na
        refine ⟨_, rfl, by rw [up_ne na1.symm, up_same], rt_of ?_⟩
        have jl : ms.length ≤ 100 := by omega
        rw [← List.map_reverse]
        exact q p a _ ⟨ms.reverse, m, 0, up_same, by rw [up_ne na1, up_same], na1.symm, by rw [List.length_reverse]; exact jl, Nat.le_refl _⟩ np na2 fun b h1 h2 => by rw [up_ne h1, up_ne h2, up_ne h1]
def sp__law_draw : SpD := fun ds S Q _ => ∃ (p a : Addr) (n : Nat) (many : Int), ds = [.ref p, .int many] ∧ 0 < many ∧ many < 1073741824 ∧ Spr S p a (n + 1) ∧ ∀ i S', 0 ≤ i → i < many → Spr S' p a n → Off p a S S' → Q (.int i) S'
theorem ok__law_draw {P : Program} {w : World} {K : PySem.W.Frag} {mg : Str → Option Value} {base : Heap} (T : Txt K w mg)  {ff : Addr} {fd : FuncData} (F : Fun K "_law_draw" "_law_draw" s__law_draw ff fd) (mf : mg "_law_draw" = some (.ref ff)) : Cal P w K mg base 1 "_law_draw" s__law_draw ["deck", "many"] sp__law_draw := by
  refine ⟨ff, fd, okD F sc__law_draw (fun ds S Q E h => ?len) (fun cdv A outer s H E ds S Q E' hcd hr h => ⟨_, (dss_cons (ds_if (dt_cmp (od_ne0 hr) (de_ix (xd_ix hr) (de_var 0) de_str) (de_lf da_nil)) (dss_cons (ds_set 2 sc__law_draw.nd (de_m0 PySem.F.plainAttrs_list PySem.F.slot_list_pop PySem.F.type_list_pop md_pop (de_ix (xd_ix hr) (de_var 0) de_str)))
      (dss_cut (ds_if (dt_cmp od_ge (de_var 2) (de_var 1)) (dss_one (ds_expr (de_m PySem.F.plainAttrs_list PySem.F.slot_list_append PySem.F.type_list_append md_append (de_ix (xd_ix hr) (de_var 0) de_str) (da_cons (de_op od_fdiv (de_var 2) (de_var 1)) da_nil)))) dss_nil)
      (dss_one (ds_ret (de_op od_mod (de_var 2) (de_var 1)))))) dss_nil)
      (dss_cons (ds_set 3 sc__law_draw.nd (de_op (od_add false) (de_ix (xd_ix hr) (de_var 0) de_str) de_int))
      (dss_cons (ds_asg (de_var 3) (dg_sub hr (de_var 0) de_str))
      (dss_cons (ds_set 4 sc__law_draw.nd (de_op (od_add false) (de_op (od_add false) (de_ix (xd_ix hr) (de_var 0) de_str) (de_op od_mul (de_op od_mul de_int (de_var 3)) (de_var 3))) de_int))
      (dss_cons (ds_set 4 sc__law_draw.nd (de_op od_mod (de_op od_mul (de_var 4) de_int) de_int))
      (dss_cons (ds_set 4 sc__law_draw.nd (de_op od_mod (de_op (od_add false) (de_op od_mul (de_var 4) (de_var 4)) (de_op od_mul de_int (de_var 3))) de_int))
      (dss_one (ds_ret (de_op od_mod (de_op od_fdiv (de_op od_mod (de_op od_mul (de_var 4) de_int) de_int) de_int) (de_var 1)))))))))), ?run⟩), F.binds (ps := ["deck", "many"]) fun _ _ _ _ _ _ us hl => match us, hl with | [_, _], _ => rfl, mf, F⟩
  case len => obtain ⟨p, a, n, many, rfl, _⟩ := h; rfl
  case run =>
    obtain ⟨p, a, n, many, rfl, h⟩ := h
    simp only [dVar, dC, dOp, dUn, dChain, dTr, dB, dAnd, dOr, dNot, dIf, dAndV, dOrV, dNotV, dNil, dCons, dTup, dLst, dLf, dNext, dSeq, dBreak, dCont, dDrop, dRet, dRetN, dIfS, gdName, gdNil, gdCons, gdTup, gdSub, dAsg, dPar, dCall, dCallK, dCB, dM0, dM, dGet1, dGet2, dDk, dDt, dPart, dNoPart, dSlice, dAug, dYes, dSort2, revD, iTupD, iLstD, iLf, iLw, iRange1, iRange2, iRange3, iEnumD, iZipD, iZipMD, iStrD, dGix, dDc, dIsi, dSortSet, dLenSet, dDlit, gdLst, dFor, dWhile, dLc, dLcM, dFld, dFldSet, dFldAdd, dMeth, dMake, dPar3, dDisp, dPrs, dFsi, dGget, dKgt, dKgtL, dDz, iEnumMD, dCut, dTcut, wipeD, bodyE, startD, List.map_cons, List.map_nil, List.length_cons, List.length_nil, List.replicate_succ, List.replicate_zero, List.cons_append, List.nil_append, Nat.reduceAdd, Nat.reduceSub, Nat.zero_add, List.getElem?_cons_zero, List.getElem?_cons_succ, List.set_cons_zero, List.set_cons_succ, Option.some.injEq, exists_eq_left', exists_eq_left, if_true, sizeLine_eq, Nat.reduceLeDiff, Nat.reduceLT, Nat.zero_le, true_and, and_true, Bool.false_eq_true, if_false]
    obtain ⟨h0, h1, sp, q⟩ := h
    obtain ⟨ms, m, c, hp, ha, ne, l100, cn⟩ := sp
    have fin : ∀ (S2 : Sto) (ms' : List Int) (i : Int) (c' : Nat), S2 p = some (.dk (spD a m c')) → S2 a = some (.lst (ms'.map D.int)) → ms'.length ≤ 100 → c' ≤ c + 1 → Off p a S S2 → 0 ≤ i → i < many → Q (.int i) S2 := fun S2 ms' i c' g1 g2 g3 g5 g4 i0 i1 =>
      q i S2 i0 i1 ⟨ms', m, c', g1, g2, ne, g3, by omega⟩ g4
    refine ix_great hp (e0_l (ls_l ha) ⟨_, rfl, ?_⟩)
    rcases List.eq_nil_or_concat ms with e | ⟨ms0, y, e⟩
    · subst e
      refine brF rfl (ix_turn hp (add_i ⟨p, rfl, .inr (.inl ⟨_, .inr "turn", hp, rfl, by unfold spD; rw [sizeLine_eq]; simp, ?_⟩)⟩))
      rw [put_turn]
      have hp1 : up S p (.dk (spD a m (c + 1))) p = some (.dk (spD a m (c + 1))) := up_same
      have ha1 : up S p (.dk (spD a m (c + 1))) a = some (.lst (([] : List Int).map D.int)) := by rw [up_ne ne.symm]; exact ha
      have of1 : Off p a S (up S p (.dk (spD a m (c + 1)))) := fun b h1 h2 => by rw [up_ne h1]
      generalize up S p (.dk (spD a m (c + 1))) = S1 at hp1 ha1 of1
      refine ix_seed hp1 (it_of (cmul1 (by decide) (by decide)) (it_of (cmul2 (by omega) (by omega)) (add_i (add_i (it_of (cmul2 (by decide) (by decide)) (it_of (by decide) ?_))))))
      have b1 := Int.emod_nonneg ((m + 48271 * ((c : Int) + 1) * ((c : Int) + 1) + 7) * 39373) (show (2147483587 : Int) ≠ 0 by decide)
      have b2 := Int.emod_lt_of_pos ((m + 48271 * ((c : Int) + 1) * ((c : Int) + 1) + 7) * 39373) (show (0 : Int) < 2147483587 by decide)
      refine it_of (cmul1 (by omega) (by omega)) (it_of (cmul1 (by decide) (by decide)) (add_i (it_of (by decide) (it_of (cmul2 (by decide) (by decide)) (it_of (by decide) (it_of ⟨by decide, by decide⟩ (it_of h0 (rt_of ?_))))))))
      exact fin _ [] _ (c + 1) hp1 ha1 (by simp) (Nat.le_refl _) of1 (Int.emod_nonneg _ (by omega)) (Int.emod_lt_of_pos _ h0)
    · rw [List.concat_eq_append] at e
      subst e
      refine brT (by simp) (ix_great hp ⟨ty_l ha, a, _, .int y, rfl, ha, by simp, ?_⟩)
      have ed : ((ms0 ++ [y]).map D.int).dropLast = ms0.map D.int := by simp
      rw [ed]
      have hp2 : up S a (.lst (ms0.map D.int)) p = some (.dk (spD a m c)) := by rw [up_ne ne]; exact hp
      have ha2 : up S a (.lst (ms0.map D.int)) a = some (.lst (ms0.map D.int)) := up_same
      have of2 : Off p a S (up S a (.lst (ms0.map D.int))) := fun b h1 h2 => up_ne h2
      have l0 : ms0.length + 1 ≤ 100 := by simpa using l100
      generalize up S a (.lst (ms0.map D.int)) = S2 at hp2 ha2 of2
      refine ⟨fun δ' S' => ∃ (ms' : List Int) (r3 r4 : Option D), δ' = [some (.ref p), some (.int many), some (.int y), r3, r4] ∧ S' p = some (.dk (spD a m c)) ∧ S' a = some (.lst (ms'.map D.int)) ∧ ms'.length ≤ 100 ∧ Off p a S S', it_of trivial ⟨_, rfl, br2 (fun _ => ?_) fun _ => ⟨ms0, _, _, rfl, hp2, ha2, by omega, of2⟩⟩, ?_⟩
      · refine ix_great hp2 ⟨ty_l ha2, it_of ⟨h0, h1⟩ (app_of ha2 (by rw [List.length_map, sizeLine_eq]; omega) ⟨ms0 ++ [y / many], _, _, rfl, by rw [up_ne ne]; exact hp2, by rw [up_same, List.map_append]; rfl, by simp; omega, of2.trans fun b h1 h2 => up_ne h2⟩)⟩
      · rintro δ' S' ⟨ms', r3, r4, rfl, hp', ha', hl', off⟩
        exact ⟨_, rfl, _, rfl, it_of h0 (rt_of (fin _ ms' _ c hp' ha' hl' (by omega) off (Int.emod_nonneg _ (by omega)) (Int.emod_lt_of_pos _ h0)))⟩
def sp__law_pick : SpD := fun ds S Q _ => ∃ (p a : Addr) (n : Nat) (x : D) (xs : List D), ds = [.ref p, x] ∧ (x = .fl xs ∨ x = .tup xs ∨ ∃ b, x = .ref b ∧ b ≠ p ∧ b ≠ a ∧ S b = some (.lst xs)) ∧ 0 < xs.length ∧ xs.length < 1000000 ∧ Spr S p a (n + 1) ∧ ∀ d S', d ∈ xs → Spr S' p a n → Off p a S S' → Q d S'
theorem ok__law_pick {P : Program} {w : World} {K : PySem.W.Frag} {mg : Str → Option Value} {base : Heap} (T : Txt K w mg) (C__law_draw : Cal P w K mg base 1 "_law_draw" s__law_draw ["deck", "many"] sp__law_draw) {ff : Addr} {fd : FuncData} (F : Fun K "_law_pick" "_law_pick" s__law_pick ff fd) (mf : mg "_law_pick" = some (.ref ff)) : Cal P w K mg base 2 "_law_pick" s__law_pick ["deck", "some"] sp__law_pick := by
  refine ⟨ff, fd, okD F sc__law_pick (fun ds S Q E h => ?len) (fun cdv A outer s H E ds S Q E' hcd hr h => ⟨_, (dss_one (ds_ret (de_ix (xd_ix hr) (de_var 1) (de_c C__law_draw hr (da_cons (de_var 0) (da_cons (de_callB cd_len (by rfl) T.nb_len (da_cons (de_var 1) da_nil)) da_nil)))))), ?run⟩), F.binds (ps := ["deck", "some"]) fun _ _ _ _ _ _ us hl => match us, hl with | [_, _], _ => rfl, mf, F⟩
  case len => obtain ⟨p, a, n, x, xs, rfl, _⟩ := h; rfl
  case run =>
    obtain ⟨p, a, n, x, xs, rfl, h⟩ := h
    simp only [dVar, dC, dOp, dUn, dChain, dTr, dB, dAnd, dOr, dNot, dIf, dAndV, dOrV, dNotV, dNil, dCons, dTup, dLst, dLf, dNext, dSeq, dBreak, dCont, dDrop, dRet, dRetN, dIfS, gdName, gdNil, gdCons, gdTup, gdSub, dAsg, dPar, dCall, dCallK, dCB, dM0, dM, dGet1, dGet2, dDk, dDt, dPart, dNoPart, dSlice, dAug, dYes, dSort2, revD, iTupD, iLstD, iLf, iLw, iRange1, iRange2, iRange3, iEnumD, iZipD, iZipMD, iStrD, dGix, dDc, dIsi, dSortSet, dLenSet, dDlit, gdLst, dFor, dWhile, dLc, dLcM, dFld, dFldSet, dFldAdd, dMeth, dMake, dPar3, dDisp, dPrs, dFsi, dGget, dKgt, dKgtL, dDz, iEnumMD, dCut, dTcut, wipeD, bodyE, startD, List.map_cons, List.map_nil, List.length_cons, List.length_nil, List.replicate_succ, List.replicate_zero, List.cons_append, List.nil_append, Nat.reduceAdd, Nat.reduceSub, Nat.zero_add, List.getElem?_cons_zero, List.getElem?_cons_succ, List.set_cons_zero, List.set_cons_succ, Option.some.injEq, exists_eq_left', exists_eq_left, if_true, sizeLine_eq, Nat.reduceLeDiff, Nat.reduceLT, Nat.zero_le, true_and, and_true, Bool.false_eq_true, if_false]
    obtain ⟨hx, h0, h1, sp, q⟩ := h
    have go : sqOf S x = some xs → (∀ S', Off p a S S' → sqOf S' x = some xs) → lenD [x] S fun x_1 S1 => sp__law_draw [D.ref p, x_1] S1 (fun y S2 => ixD x y S2 fun d S' => ∃ d1 S1, VW d S' d1 S1 ∧ Q d1 S1) X0 := fun e1 e2 => by
      refine len_sq e1 ⟨p, a, n, _, rfl, by omega, by omega, sp, fun i S' i0 i1 sp' off => ?_⟩
      obtain ⟨j, rfl⟩ : ∃ j : Nat, i = j := ⟨i.toNat, by omega⟩
      have hj : j < xs.length := by omega
      exact ix_sq rfl (e2 S' off) (at_n (List.getElem?_eq_getElem hj)) (rt_of (q _ _ (List.getElem_mem hj) sp' off))
    rcases hx with rfl | rfl | ⟨b, rfl, b1, b2, hb⟩
    · exact go rfl fun _ _ => rfl
    · exact go rfl fun _ _ => rfl
    · exact go (sq_l hb) fun S' off => sq_l (by rw [off b b1 b2]; exact hb)
def sp__law_words : SpD := fun ds S Q _ => ∃ (p a : Addr) (n : Nat) (c : Nat) (zs : List Str) (z : Str), ds = [.ref p, .int (c : Nat), .str z] ∧ Txt.split z " " = zs ∧ z.length ≤ 100 ∧ c ≤ zs.length ∧ zs.length ≤ 20 ∧ Spr S p a (n + c) ∧ ∀ (ws : List Str) S', ws.length = c → (∀ w ∈ ws, w ∈ zs) → (zs.Nodup → ws.Nodup) → Spr S' p a n → Off p a S S' → Q (.fl (ws.map D.str)) S'
theorem ok__law_words {P : Program} {w : World} {K : PySem.W.Frag} {mg : Str → Option Value} {base : Heap} (T : Txt K w mg) (C__law_draw : Cal P w K mg base 1 "_law_draw" s__law_draw ["deck", "many"] sp__law_draw) {ff : Addr} {fd : FuncData} (F : Fun K "_law_words" "_law_words" s__law_words ff fd) (mf : mg "_law_words" = some (.ref ff)) : Cal P w K mg base 2 "_law_words" s__law_words ["deck", "count", "some"] sp__law_words := by
  refine ⟨ff, fd, okD F sc__law_words (fun ds S Q E h => ?len) (fun cdv A outer s H E ds S Q E' hcd hr h => ⟨_, (dss_cons (ds_par 3 4 rfl sc__law_words.nd (da_cons (de_m PySem.F.plainAttrs_str PySem.F.slot_str_split PySem.F.type_str_split (md_split true) (de_var 2) (da_cons de_str da_nil)) (da_cons (de_lst da_nil) da_nil)))
      (dss_cons (ds_for PassesOwn.never rfl (di_range1 (by rfl) T.nb_range (da_cons (de_var 1) da_nil)) (dg_name 5 sc__law_words.nd) (dss_one (ds_expr (de_m PySem.F.plainAttrs_list PySem.F.slot_list_append PySem.F.type_list_append md_append (de_var 4) (da_cons (de_m PySem.F.plainAttrs_list PySem.F.slot_list_pop PySem.F.type_list_pop md_popAt (de_var 3) (da_cons (de_c C__law_draw hr (da_cons (de_var 0) (da_cons (de_callB cd_len (by rfl) T.nb_len (da_cons (de_var 3) da_nil)) da_nil))) da_nil)) da_nil)))))
      (dss_one (ds_ret (de_var 4))))), ?run⟩), F.binds (ps := ["deck", "count", "some"]) fun _ _ _ _ _ _ us hl => match us, hl with | [_, _, _], _ => rfl, mf, F⟩
  case len => obtain ⟨p, a, n, c, zs, z, rfl, _⟩ := h; rfl
  case run =>
    obtain ⟨p, a, n, c, zs, z, rfl, hz, zl, hc, hl, sp, q⟩ := h
    simp only [dVar, dC, dOp, dUn, dChain, dTr, dB, dAnd, dOr, dNot, dIf, dAndV, dOrV, dNotV, dNil, dCons, dTup, dLst, dLf, dNext, dSeq, dBreak, dCont, dDrop, dRet, dRetN, dIfS, gdName, gdNil, gdCons, gdTup, gdSub, dAsg, dPar, dCall, dCallK, dCB, dM0, dM, dGet1, dGet2, dDk, dDt, dPart, dNoPart, dSlice, dAug, dYes, dSort2, revD, iTupD, iLstD, iLf, iLw, iRange1, iRange2, iRange3, iEnumD, iZipD, iZipMD, iStrD, dGix, dDc, dIsi, dSortSet, dLenSet, dDlit, gdLst, dFor, dWhile, dLc, dLcM, dFld, dFldSet, dFldAdd, dMeth, dMake, dPar3, dDisp, dPrs, dFsi, dGget, dKgt, dKgtL, dDz, iEnumMD, dCut, dTcut, wipeD, bodyE, startD, List.map_cons, List.map_nil, List.length_cons, List.length_nil, List.replicate_succ, List.replicate_zero, List.cons_append, List.nil_append, Nat.reduceAdd, Nat.reduceSub, Nat.zero_add, List.getElem?_cons_zero, List.getElem?_cons_succ, List.set_cons_zero, List.set_cons_succ, Option.some.injEq, exists_eq_left', exists_eq_left, if_true, sizeLine_eq, Nat.reduceLeDiff, Nat.reduceLT, Nat.zero_le, true_and, and_true, Bool.false_eq_true, if_false]
    refine ⟨rfl, z, " ", rfl, rfl, by decide +kernel, by rw [sizeLine_eq]; omega, brT rfl fun L nL F nF => ?_⟩
    rw [hz] at nF ⊢
    obtain ⟨fl, nF'⟩ := up_non nF
    obtain ⟨lp, la⟩ := sp.ne nL
    obtain ⟨fp, fa⟩ := sp.ne nF'
    refine ⟨_, _, rfl, (c : Nat), rfl, by omega, by omega, ?_⟩
    refine fr_rng (fun i δ S' => ∃ (r5 : Option D) (ws left : List Str), δ = [some (.ref p), some (.int (c : Nat)), some (.str z), some (.ref L), some (.ref F), r5] ∧ i ≤ c ∧ S' F = some (.lst (ws.map D.str)) ∧ S' L = some (.lst (left.map D.str)) ∧ ws.length = i ∧ (ws ++ left).Perm zs ∧ Spr S' p a (n + c - i) ∧ ∀ b, b ≠ p → b ≠ a → b ≠ L → b ≠ F → S' b = S b) ⟨none, [], zs, rfl, Nat.zero_le _, up_same, by rw [up_ne fl.symm, up_same], rfl, .refl _, (sp.up lp la).up fp fa, fun b b1 b2 b3 b4 => by rw [up_ne b4, up_ne b3]⟩ ?_ ?_
    · rintro i δ S' hi ⟨r5, ws, left, rfl, hic, hF, hL, wl, pm, sp', of'⟩
      have hi : i < c := by omega
      have ll : ws.length + left.length = zs.length := by rw [← List.length_append]; exact pm.length_eq
      refine ⟨_, rfl, ty_l hF, _, rfl, ty_l hL, _, rfl, _, rfl, len_sq (sq_l hL) ⟨p, a, n + c - (i + 1), _, rfl, by rw [List.length_map]; omega, by rw [List.length_map]; omega, sp'.mono (by omega), fun j S2 j0 j1 sp2 of2 => ?_⟩⟩
      rw [List.length_map] at j1
      obtain ⟨j, rfl⟩ : ∃ j' : Nat, j = j' := ⟨j.toNat, by omega⟩
      have hj : j < left.length := by omega
      have hL2 : S2 L = some (.lst (left.map D.str)) := by rw [of2 L lp la]; exact hL
      have hF2 : S2 F = some (.lst (ws.map D.str)) := by rw [of2 F fp fa]; exact hF
      refine ⟨L, _, j, .str left[j], rfl, rfl, hL2, by rw [List.length_map]; omega, by rw [List.getElem?_map, List.getElem?_eq_getElem hj]; rfl, ?_⟩
      refine app_of (by rw [up_ne fl]; exact hF2) (by rw [List.length_map, sizeLine_eq]; omega) ⟨_, ws ++ [left[j]], left.eraseIdx j, rfl, hi, by rw [up_same, List.map_append]; rfl, ?_, by rw [List.length_append, wl]; rfl, ?_, (sp2.up lp la).up fp fa, fun b b1 b2 b3 b4 => by rw [up_ne b4, up_ne b3, of2 b b1 b2, of' b b1 b2 b3 b4]⟩
      · rw [up_ne fl.symm, up_same, erase_map]
      · rw [List.append_assoc]
        exact (List.Perm.append_left ws (erase_perm hj)).trans pm
    · rintro i δ S' hi ⟨r5, ws, left, rfl, hic, hF, hL, wl, pm, sp', of'⟩
      obtain rfl : i = c := by omega
      have sub : DL.Sub (del (del S' F) L) S' := fun b o e => sub_del b o (sub_del b o e)
      refine ⟨_, rfl, _, _, .fz sub hF (by rw [del_ne fl]; exact del_same), q ws _ wl (fun w hw => pm.mem_iff.mp (List.mem_append_left _ hw)) (fun nd => (List.nodup_append.mp (pm.nodup_iff.mpr nd)).1) (((sp'.mono (by omega)).del fp fa).del lp la) fun b b1 b2 => ?_⟩
      by_cases e1 : b = L
      · subst e1; rw [del_same, nL]
      by_cases e2 : b = F
      · subst e2; rw [del_ne e1, del_same, nF']
      rw [del_ne e1, del_ne e2, of' b b1 b2 e1 e2]
def sp__law_number : SpD := fun ds S Q _ => ∃ (p a : Addr) (n : Nat), ds = [.ref p] ∧ Spr S p a (n + 2) ∧ ∀ i S', 0 ≤ i → i ≤ 1000002 → Spr S' p a n → Off p a S S' → Q (.int i) S'
theorem ok__law_number {P : Program} {w : World} {K : PySem.W.Frag} {mg : Str → Option Value} {base : Heap} (T : Txt K w mg) (C__law_draw : Cal P w K mg base 1 "_law_draw" s__law_draw ["deck", "many"] sp__law_draw) {ff : Addr} {fd : FuncData} (F : Fun K "_law_number" "_law_number" s__law_number ff fd) (mf : mg "_law_number" = some (.ref ff)) : Cal P w K mg base 2 "_law_number" s__law_number ["deck"] sp__law_number := by
  refine ⟨ff, fd, okD F sc__law_number (fun ds S Q E h => ?len) (fun cdv A outer s H E ds S Q E' hcd hr h => ⟨_, (dss_one (ds_ret (de_ix (xd_ix hr) (de_lf (da_cons de_int (da_cons de_int (da_cons de_int (da_cons de_int (da_cons (de_c C__law_draw hr (da_cons (de_var 0) (da_cons de_int da_nil))) da_nil)))))) (de_c C__law_draw hr (da_cons (de_var 0) (da_cons de_int da_nil)))))), ?run⟩), F.binds (ps := ["deck"]) fun _ _ _ _ _ _ us hl => match us, hl with | [_], _ => rfl, mf, F⟩
  case len => obtain ⟨p, a, n, rfl, _⟩ := h; rfl
  case run =>
    obtain ⟨p, a, n, rfl, h⟩ := h
    simp only [dVar, dC, dOp, dUn, dChain, dTr, dB, dAnd, dOr, dNot, dIf, dAndV, dOrV, dNotV, dNil, dCons, dTup, dLst, dLf, dNext, dSeq, dBreak, dCont, dDrop, dRet, dRetN, dIfS, gdName, gdNil, gdCons, gdTup, gdSub, dAsg, dPar, dCall, dCallK, dCB, dM0, dM, dGet1, dGet2, dDk, dDt, dPart, dNoPart, dSlice, dAug, dYes, dSort2, revD, iTupD, iLstD, iLf, iLw, iRange1, iRange2, iRange3, iEnumD, iZipD, iZipMD, iStrD, dGix, dDc, dIsi, dSortSet, dLenSet, dDlit, gdLst, dFor, dWhile, dLc, dLcM, dFld, dFldSet, dFldAdd, dMeth, dMake, dPar3, dDisp, dPrs, dFsi, dGget, dKgt, dKgtL, dDz, iEnumMD, dCut, dTcut, wipeD, bodyE, startD, List.map_cons, List.map_nil, List.length_cons, List.length_nil, List.replicate_succ, List.replicate_zero, List.cons_append, List.nil_append, Nat.reduceAdd, Nat.reduceSub, Nat.zero_add, List.getElem?_cons_zero, List.getElem?_cons_succ, List.set_cons_zero, List.set_cons_succ, Option.some.injEq, exists_eq_left', exists_eq_left, if_true, sizeLine_eq, Nat.reduceLeDiff, Nat.reduceLT, Nat.zero_le, true_and, and_true, Bool.false_eq_true, if_false]
    obtain ⟨sp, q⟩ := h
    refine ⟨p, a, n + 1, _, rfl, by decide, by decide, sp, fun x S1 x0 x1 sp1 of1 => ⟨p, a, n, _, rfl, by decide, by decide, sp1, fun i S2 i0 i1 sp2 of2 => ?_⟩⟩
    obtain ⟨j, rfl⟩ : ∃ j : Nat, i = j := ⟨i.toNat, by omega⟩
    obtain ⟨y, hy, y0, y1⟩ : ∃ y : Int, atI [D.int 0, .int 1, .int 2, .int 1000002, .int x] (j : Nat) = some (.int y) ∧ 0 ≤ y ∧ y ≤ 1000002 := by
      have : j = 0 ∨ j = 1 ∨ j = 2 ∨ j = 3 ∨ j = 4 := by omega
      rcases this with rfl | rfl | rfl | rfl | rfl
      · exact ⟨0, at_n (i := 0) rfl, by decide, by decide⟩
      · exact ⟨1, at_n (i := 1) rfl, by decide, by decide⟩
      · exact ⟨2, at_n (i := 2) rfl, by decide, by decide⟩
      · exact ⟨1000002, at_n (i := 3) rfl, by decide, by decide⟩
      · exact ⟨x, at_n (i := 4) rfl, x0, by omega⟩
    exact ix_sq rfl rfl hy (rt_of (q y S2 y0 y1 sp2 (of1.trans of2)))
end K10

namespace K10
open PySem L2 PyProof.Rows DL
def HdOk (k : Hd) : Prop := Sh k.1 ∧ k.2.length ≤ 4 ∧ k.2.Nodup ∧ ∀ f ∈ k.2, Sh f
def w8 : List Str := ["pair", "box", "main", "cell", "made", "no1", "none1", "t0"]
def f8 : List Str := ["head", "next", "none", "number", "a", "t0", "frame", "f"]
def h7 : List Str := ["call", "q", "p1", "return", "main1", "none", "z9"]
def a6 : List Str := ["a", "b", "t0", "none", "number", "end"]
def v7 : List Str := ["x", "b1", "y", "none1", "made", "zzzzzzzz", "cell"]
def f9 : List Str := ["head", "next", "none", "number", "a", "t0", "frame", "f", "zz"]
theorem split_w8 : Txt.split "pair box main cell made no1 none1 t0" " " = w8 := by decide +kernel
theorem split_f8 : Txt.split "head next none number a t0 frame f" " " = f8 := by decide +kernel
theorem split_h7 : Txt.split "call q p1 return main1 none z9" " " = h7 := by decide +kernel
theorem split_a6 : Txt.split "a b t0 none number end" " " = a6 := by decide +kernel
theorem split_v7 : Txt.split "x b1 y none1 made zzzzzzzz cell" " " = v7 := by decide +kernel
theorem split_f9 : Txt.split "head next none number a t0 frame f zz" " " = f9 := by decide +kernel
theorem sh_all : ∀ z ∈ w8 ++ f8 ++ h7 ++ a6 ++ v7 ++ f9, PyData.strOk z = true ∧ z.length ≤ 40 := by decide +kernel
theorem nd_all : w8.Nodup ∧ f8.Nodup ∧ h7.Nodup ∧ a6.Nodup ∧ v7.Nodup ∧ ("main" : Str) ∉ h7 := by decide +kernel
theorem nm_all : ∀ z ∈ a6 ++ v7, z ∈ nm14 := by decide +kernel
end K10


namespace K10
open PySem L2 PyProof.Rows DL
def w18 : List Str := ["copy", "none", "number", "plus", "minus", "times", "make", "read", "input", "tell", "call", "return", "jump", "less", "same", "is"]
theorem pick_s {p a : Addr} {n : Nat} {vs : List Str} {S : Sto} {Q : KD} (v0 : 0 < vs.length) (v30 : vs.length ≤ 30) (sp : Spr S p a (n + 1)) (q : ∀ z S', z ∈ vs → Spr S' p a n → Off p a S S' → Q (.str z) S') : sp__law_pick [.ref p, .fl (vs.map D.str)] S Q X0 :=
  ⟨p, a, n, _, _, rfl, .inl rfl, by rw [List.length_map]; exact v0, by rw [List.length_map]; omega, sp, fun d S' hd s o => by
    obtain ⟨z, hz, rfl⟩ := List.mem_map.mp hd
    exact q z S' hz s o⟩
theorem seq_s {p a : Addr} {n c : Nat} {ds : List D} {vs : List Str} {S : Sto} {Nx : List D → Sto → Prop} (hd : ds.length = c) (hc : c ≤ 20) (v0 : 0 < vs.length) (v30 : vs.length ≤ 30) (sp : Spr S p a (n + c)) (nxt : ∀ (zs : List Str) S', zs.length = c → (∀ z ∈ zs, z ∈ vs) → Spr S' p a n → Off p a S S' → Nx (zs.map D.str) S') :
    ∃ (W : Nat → List D → Sto → Prop) (n1 : Nat), W 0 [] S ∧ ∀ i acc S2, W i acc S2 → ∃ r, seqI ds i S2 = some r ∧ (r = none → Nx acc S2) ∧ ∀ x, r = some x → i < n1 ∧ acc.length < 16777216 ∧ sp__law_pick [.ref p, .fl (vs.map D.str)] S2 (fun y S5 => W (i + 1) (acc ++ [y]) S5) X0 := by
  refine lc_seq (fun i acc S' => ∃ zs : List Str, acc = zs.map D.str ∧ zs.length = i ∧ i ≤ c ∧ (∀ x ∈ zs, x ∈ vs) ∧ Spr S' p a (n + c - i) ∧ Off p a S S') ⟨[], rfl, rfl, Nat.zero_le _, (fun x hx => (nomatch hx)), sp, .refl⟩ ?_ ?_
  · rintro i x0 acc S' hx0 ⟨zs, rfl, rfl, hl, hz, sp', of'⟩
    have hi := (List.getElem?_eq_some_iff.mp hx0).1
    refine ⟨by rw [List.length_map, sizeLine_eq]; omega, pick_s (n := n + c - (zs.length + 1)) v0 v30 (sp'.mono (by omega)) fun x S'' hx s2 o2 => ⟨zs ++ [x], by rw [List.map_append]; rfl, by rw [List.length_append]; rfl, by omega, fun y hy => ?_, s2, of'.trans o2⟩⟩
    rcases List.mem_append.mp hy with h | h
    · exact hz y h
    · rw [List.mem_singleton.mp h]; exact hx
  · rintro i acc S' hi ⟨zs, rfl, rfl, hl, hz, sp', of'⟩
    exact nxt zs S' (by omega) hz (sp'.mono (by omega)) of'
theorem w18_ok : ∀ w ∈ w18, PyData.strOk w = true := by decide +kernel
def ks5 : List Key := [Sum.inr (Str.ofString "copy"), Sum.inr (Str.ofString "none"), Sum.inr (Str.ofString "number"), Sum.inr (Str.ofString "read"), Sum.inr (Str.ofString "tell")]
def ks9 : List Key := ks5 ++ [Sum.inr (Str.ofString "input"), Sum.inr (Str.ofString "return"), Sum.inr (Str.ofString "jump"), Sum.inr (Str.ofString "is")]
theorem put_new {kvs : List (Key × D)} {k : Key} {v : D} {ks : List Key} (e : kvs.map (·.1) = ks) (h : k ∉ ks) : putD kvs k v = kvs ++ [(k, v)] := by
  unfold putD
  rw [if_neg]
  intro hh
  obtain ⟨x, hx, hy⟩ := List.any_eq_true.mp hh
  have hy : x.1 = k := of_decide_eq_true hy
  exact h (by rw [← e, ← hy]; exact List.mem_map_of_mem hx)
theorem val_zip {k : Key} : ∀ {ks : List Key} {vs : List D} {i : Nat}, ks.Nodup → ks[i]? = some k → ks.length = vs.length → valD (ks.zip vs) k = vs[i]?
  | [], vs, i, _, h, _ => by simp at h
  | c :: ks, [], i, _, _, l => by simp at l
  | c :: ks, v :: vs, 0, nd, h, l => by
    cases h
    unfold valD
    rw [List.zip_cons_cons, List.find?_cons, decide_eq_true rfl]
    rfl
  | c :: ks, v :: vs, i + 1, nd, h, l => by
    have nd' := List.nodup_cons.mp nd
    have h' : ks[i]? = some k := by simpa using h
    have ne : c ≠ k := fun e => nd'.1 (by rw [e]; exact List.mem_of_getElem? h')
    have ih := val_zip (vs := vs) nd'.2 h' (by simpa using l)
    unfold valD at ih ⊢
    rw [List.zip_cons_cons, List.find?_cons, decide_eq_false ne, List.getElem?_cons_succ]
    exact ih
theorem nin_of {l : List Key} {k : Key} (h : (l ++ [k]).Nodup) : k ∉ l := fun hm => (List.nodup_append.mp h).2.2 k hm k (by simp) rfl
theorem kn1 : (Sum.inr (Str.ofString "input") : Key) ∉ ks5 := nin_of (by decide +kernel)
theorem kn2 : (Sum.inr (Str.ofString "return") : Key) ∉ ks5 ++ [(Sum.inr (Str.ofString "input") : Key)] := nin_of (by decide +kernel)
theorem kn3 : (Sum.inr (Str.ofString "jump") : Key) ∉ ks5 ++ [(Sum.inr (Str.ofString "input") : Key), Sum.inr (Str.ofString "return")] := nin_of (by decide +kernel)
theorem kn4 : (Sum.inr (Str.ofString "is") : Key) ∉ ks5 ++ [(Sum.inr (Str.ofString "input") : Key), Sum.inr (Str.ofString "return"), Sum.inr (Str.ofString "jump")] := nin_of (by decide +kernel)
theorem nd9 : ks9.Nodup := by decide +kernel
def sp__law_kinds : SpD := fun ds S Q _ => ∃ (p a : Addr) (n : Nat), ds = [.ref p, .int 0] ∧ Spr S p a (n + 60) ∧ ∀ (ks : List Hd) S', ks.length ≤ 8 → (ks.map (·.1)).Nodup → (∀ k ∈ ks, HdOk k) → Spr S' p a n → Off p a S S' → Q (.tup (ks.map hdD)) S'
theorem ok__law_kinds {P : Program} {w : World} {K : PySem.W.Frag} {mg : Str → Option Value} {base : Heap} (T : Txt K w mg) (C__law_words : Cal P w K mg base 2 "_law_words" s__law_words ["deck", "count", "some"] sp__law_words) (C__law_draw : Cal P w K mg base 1 "_law_draw" s__law_draw ["deck", "many"] sp__law_draw) {ff : Addr} {fd : FuncData} (F : Fun K "_law_kinds" "_law_kinds" s__law_kinds ff fd) (mf : mg "_law_kinds" = some (.ref ff)) : Cal P w K mg base 3 "_law_kinds" s__law_kinds ["deck", "fewest"] sp__law_kinds := by
  refine ⟨ff, fd, okD F sc__law_kinds (fun ds S Q E h => ?len) (fun cdv A outer s H E ds S Q E' hcd hr h => ⟨_, (dss_cons (ds_set 2 sc__law_kinds.nd (de_callB (cd_max2 rfl) (by rfl) T.nb_max (da_cons (de_var 1) (da_cons (de_ix (xd_ix hr) (de_lf (da_cons de_int (da_cons de_int (da_cons de_int (da_cons de_int (da_cons de_int (da_cons de_int da_nil))))))) (de_c C__law_draw hr (da_cons (de_var 0) (da_cons de_int da_nil)))) da_nil))))
      (dss_cons (ds_set 3 sc__law_kinds.nd (de_c C__law_words hr (da_cons (de_var 0) (da_cons (de_var 2) (da_cons de_str da_nil)))))
      (dss_cons (ds_set 4 sc__law_kinds.nd (de_lst da_nil))
      (dss_cons (ds_for PassesOwn.never rfl (di_lf (de_var 3)) (dg_name 5 sc__law_kinds.nd) (dss_one (ds_expr (de_m PySem.F.plainAttrs_list PySem.F.slot_list_append PySem.F.type_list_append md_append (de_var 4) (da_cons (de_tup (da_cons (de_var 5) (da_cons (de_callTy cd_tuple (by rfl) T.nb_tuple (da_cons (de_c C__law_words hr (da_cons (de_var 0) (da_cons (de_c C__law_draw hr (da_cons (de_var 0) (da_cons de_int da_nil))) (da_cons de_str da_nil)))) da_nil)) da_nil))) da_nil)))))
      (dss_one (ds_ret (de_callTy cd_tuple (by rfl) T.nb_tuple (da_cons (de_var 4) da_nil)))))))), ?run⟩), F.binds (ps := ["deck", "fewest"]) fun _ _ _ _ _ _ us hl => match us, hl with | [_, _], _ => rfl, mf, F⟩
  case len => obtain ⟨p, a, n, rfl, _⟩ := h; rfl
  case run =>
    obtain ⟨p, a, n, rfl, h⟩ := h
    simp only [dVar, dC, dOp, dUn, dChain, dTr, dB, dAnd, dOr, dNot, dIf, dAndV, dOrV, dNotV, dNil, dCons, dTup, dLst, dLf, dNext, dSeq, dBreak, dCont, dDrop, dRet, dRetN, dIfS, gdName, gdNil, gdCons, gdTup, gdSub, dAsg, dPar, dCall, dCallK, dCB, dM0, dM, dGet1, dGet2, dDk, dDt, dPart, dNoPart, dSlice, dAug, dYes, dSort2, revD, iTupD, iLstD, iLf, iLw, iRange1, iRange2, iRange3, iEnumD, iZipD, iZipMD, iStrD, dGix, dDc, dIsi, dSortSet, dLenSet, dDlit, gdLst, dFor, dWhile, dLc, dLcM, dFld, dFldSet, dFldAdd, dMeth, dMake, dPar3, dDisp, dPrs, dFsi, dGget, dKgt, dKgtL, dDz, iEnumMD, dCut, dTcut, wipeD, bodyE, startD, List.map_cons, List.map_nil, List.length_cons, List.length_nil, List.replicate_succ, List.replicate_zero, List.cons_append, List.nil_append, Nat.reduceAdd, Nat.reduceSub, Nat.zero_add, List.getElem?_cons_zero, List.getElem?_cons_succ, List.set_cons_zero, List.set_cons_succ, Option.some.injEq, exists_eq_left', exists_eq_left, if_true, sizeLine_eq, Nat.reduceLeDiff, Nat.reduceLT, Nat.zero_le, true_and, and_true, Bool.false_eq_true, if_false]
    obtain ⟨sp, q⟩ := h
    refine ⟨p, a, n + 59, 6, rfl, by decide, by decide, sp, fun i S1 i0 i1 sp1 of1 => ?_⟩
    obtain ⟨j, rfl⟩ : ∃ j : Nat, i = j := ⟨i.toNat, by omega⟩
    obtain ⟨c, hc, c8⟩ : ∃ c : Nat, atI [D.int 2, .int 1, .int 3, .int 0, .int 2, .int 8] (j : Nat) = some (.int (c : Nat)) ∧ c ≤ 8 := by
      have : j = 0 ∨ j = 1 ∨ j = 2 ∨ j = 3 ∨ j = 4 ∨ j = 5 := by omega
      rcases this with rfl | rfl | rfl | rfl | rfl | rfl
      · exact ⟨2, at_n (i := 0) rfl, by decide⟩
      · exact ⟨1, at_n (i := 1) rfl, by decide⟩
      · exact ⟨3, at_n (i := 2) rfl, by decide⟩
      · exact ⟨0, at_n (i := 3) rfl, by decide⟩
      · exact ⟨2, at_n (i := 4) rfl, by decide⟩
      · exact ⟨8, at_n (i := 5) rfl, by decide⟩
    refine ix_sq rfl rfl hc ⟨_, _, rfl, ?_⟩
    rw [show (if (c : Int) > 0 then ((c : Nat) : Int) else 0) = ((c : Nat) : Int) by split <;> omega]
    refine ⟨p, a, n + 50, c, w8, _, rfl, split_w8, by decide +kernel, c8, by decide, sp1.mono (by omega), fun zs S2 zl zm znd sp2 of2 => ?_⟩
    intro F nF
    obtain ⟨fp, fa⟩ := sp2.ne nF
    have of2 := of1.trans of2
    refine ⟨_, rfl, fr_seq (fun i δ S' => ∃ (ks : List Hd) (r5 : Option D), δ = [some (.ref p), some (.int 0), some (.int (c : Nat)), some (.fl (zs.map D.str)), some (.ref F), r5] ∧ S' F = some (.lst (ks.map hdD)) ∧ ks.map (·.1) = zs.take i ∧ (∀ k ∈ ks, HdOk k) ∧ Spr S' p a (n + 5 * (9 - i)) ∧ ∀ b, b ≠ p → b ≠ a → b ≠ F → S' b = S2 b) ⟨[], none, rfl, up_same, rfl, (fun k hk => (nomatch hk)), (sp2.up fp fa).mono (by omega), fun b b1 b2 b3 => by rw [up_ne b3]⟩ ?_ ?_⟩
    · rintro i x δ S3 hx ⟨ks, r5, rfl, hF, hk, hok, sp3, of3⟩
      obtain ⟨z, hz, rfl⟩ := map_at hx
      have hlt := (List.getElem?_eq_some_iff.mp hz).1
      have lk : ks.length = i := by have := congrArg List.length hk; rw [List.length_map, List.length_take] at this; omega
      refine ⟨_, rfl, ty_l hF, _, rfl, _, rfl, _, rfl, p, a, n + 5 * (9 - (i + 1)) + 4, 5, rfl, by decide, by decide, sp3.mono (by omega), fun t S4 t0 t1 sp4 of4 => ?_⟩
      obtain ⟨t, rfl⟩ : ∃ j : Nat, t = j := ⟨t.toNat, by omega⟩
      refine ⟨p, a, n + 5 * (9 - (i + 1)), t, f8, _, rfl, split_f8, by decide +kernel, by show t ≤ 8; omega, by decide, sp4.mono (by omega), fun fs S5 fl fm fnd sp5 of5 => tpl_l rfl ?_⟩
      refine app_of (by rw [of5 F fp fa, of4 F fp fa]; exact hF) (by rw [List.length_map, sizeLine_eq]; omega) ⟨ks ++ [(z, fs)], _, rfl, by rw [up_same, List.map_append]; rfl, by rw [List.map_append, hk, tk1 hz]; rfl, fun k hk2 => ?_, (sp5.up fp fa).mono (Nat.le_refl _), fun b b1 b2 b3 => by rw [up_ne b3, of5 b b1 b2, of4 b b1 b2, of3 b b1 b2 b3]⟩
      rcases List.mem_append.mp hk2 with h | h
      · exact hok k h
      · rw [List.mem_singleton.mp h]
        have hz8 := zm z (List.mem_of_getElem? hz)
        exact ⟨sh_all z (by simp [hz8]), by show fs.length ≤ 4; omega, fnd nd_all.2.1, fun f hf => sh_all f (by simp [fm f hf])⟩
    · rintro i δ S3 hi ⟨ks, r5, rfl, hF, hk, hok, sp3, of3⟩
      rw [List.take_of_length_le (by simpa using hi)] at hk
      refine ⟨_, rfl, tpl_l (ls_l hF) (rt_sub sub_del (q ks _ ?_ ?_ hok ((sp3.mono (by omega)).del fp fa) fun b b1 b2 => ?_))⟩
      · have := congrArg List.length hk; rw [List.length_map] at this; omega
      · rw [hk]; exact znd nd_all.1
      · by_cases e : b = F
        · subst e; rw [del_same, ← of2 b fp fa, nF]
        · rw [del_ne e, of3 b b1 b2 e, of2 b b1 b2]
def sp__law_heads : SpD := fun ds S Q _ => ∃ (p a : Addr) (n : Nat), ds = [.ref p, .int 0] ∧ Spr S p a (n + 60) ∧ ∀ (hs : List Hd) S', hs.length ≤ 6 → (hs.map (·.1)).Nodup → hs.head? = some (("main" : Str), ([] : List Str)) → (∀ k ∈ hs, Sh k.1 ∧ k.2.length ≤ 4 ∧ ∀ f ∈ k.2, f ∈ a6) → Spr S' p a n → Off p a S S' → Q (.fl (hs.map hdD)) S'
theorem ok__law_heads {P : Program} {w : World} {K : PySem.W.Frag} {mg : Str → Option Value} {base : Heap} (T : Txt K w mg) (C__law_words : Cal P w K mg base 2 "_law_words" s__law_words ["deck", "count", "some"] sp__law_words) (C__law_draw : Cal P w K mg base 1 "_law_draw" s__law_draw ["deck", "many"] sp__law_draw) {ff : Addr} {fd : FuncData} (F : Fun K "_law_heads" "_law_heads" s__law_heads ff fd) (mf : mg "_law_heads" = some (.ref ff)) : Cal P w K mg base 3 "_law_heads" s__law_heads ["deck", "fewest"] sp__law_heads := by
  refine ⟨ff, fd, okD F sc__law_heads (fun ds S Q E h => ?len) (fun cdv A outer s H E ds S Q E' hcd hr h => ⟨_, (dss_cons (ds_set 2 sc__law_heads.nd (de_lst (da_cons (de_tup (da_cons de_str (da_cons (de_tup da_nil) da_nil))) da_nil)))
      (dss_cons (ds_set 3 sc__law_heads.nd (de_callB (cd_max2 rfl) (by rfl) T.nb_max (da_cons (de_var 1) (da_cons (de_ix (xd_ix hr) (de_lf (da_cons de_int (da_cons de_int (da_cons de_int (da_cons de_int (da_cons de_int (da_cons de_int da_nil))))))) (de_c C__law_draw hr (da_cons (de_var 0) (da_cons de_int da_nil)))) da_nil))))
      (dss_cons (ds_for PassesOwn.never rfl (di_lf (de_c C__law_words hr (da_cons (de_var 0) (da_cons (de_var 3) (da_cons de_str da_nil))))) (dg_name 4 sc__law_heads.nd) (dss_one (ds_expr (de_m PySem.F.plainAttrs_list PySem.F.slot_list_append PySem.F.type_list_append md_append (de_var 2) (da_cons (de_tup (da_cons (de_var 4) (da_cons (de_callTy cd_tuple (by rfl) T.nb_tuple (da_cons (de_c C__law_words hr (da_cons (de_var 0) (da_cons (de_c C__law_draw hr (da_cons (de_var 0) (da_cons de_int da_nil))) (da_cons de_str da_nil)))) da_nil)) da_nil))) da_nil)))))
      (dss_one (ds_ret (de_var 2)))))), ?run⟩), F.binds (ps := ["deck", "fewest"]) fun _ _ _ _ _ _ us hl => match us, hl with | [_, _], _ => rfl, mf, F⟩
  case len => obtain ⟨p, a, n, rfl, _⟩ := h; rfl
  case run =>
    obtain ⟨p, a, n, rfl, h⟩ := h
    simp only [dVar, dC, dOp, dUn, dChain, dTr, dB, dAnd, dOr, dNot, dIf, dAndV, dOrV, dNotV, dNil, dCons, dTup, dLst, dLf, dNext, dSeq, dBreak, dCont, dDrop, dRet, dRetN, dIfS, gdName, gdNil, gdCons, gdTup, gdSub, dAsg, dPar, dCall, dCallK, dCB, dM0, dM, dGet1, dGet2, dDk, dDt, dPart, dNoPart, dSlice, dAug, dYes, dSort2, revD, iTupD, iLstD, iLf, iLw, iRange1, iRange2, iRange3, iEnumD, iZipD, iZipMD, iStrD, dGix, dDc, dIsi, dSortSet, dLenSet, dDlit, gdLst, dFor, dWhile, dLc, dLcM, dFld, dFldSet, dFldAdd, dMeth, dMake, dPar3, dDisp, dPrs, dFsi, dGget, dKgt, dKgtL, dDz, iEnumMD, dCut, dTcut, wipeD, bodyE, startD, List.map_cons, List.map_nil, List.length_cons, List.length_nil, List.replicate_succ, List.replicate_zero, List.cons_append, List.nil_append, Nat.reduceAdd, Nat.reduceSub, Nat.zero_add, List.getElem?_cons_zero, List.getElem?_cons_succ, List.set_cons_zero, List.set_cons_succ, Option.some.injEq, exists_eq_left', exists_eq_left, if_true, sizeLine_eq, Nat.reduceLeDiff, Nat.reduceLT, Nat.zero_le, true_and, and_true, Bool.false_eq_true, if_false]
    obtain ⟨sp, q⟩ := h
    intro F nF
    obtain ⟨fp, fa⟩ := sp.ne nF
    refine ⟨p, a, n + 59, 6, rfl, by decide, by decide, sp.up fp fa, fun i S1 i0 i1 sp1 of1 => ?_⟩
    obtain ⟨j, rfl⟩ : ∃ j : Nat, i = j := ⟨i.toNat, by omega⟩
    obtain ⟨c, hc, c8⟩ : ∃ c : Nat, atI [D.int 1, .int 2, .int 0, .int 3, .int 1, .int 5] (j : Nat) = some (.int (c : Nat)) ∧ c ≤ 5 := by
      have : j = 0 ∨ j = 1 ∨ j = 2 ∨ j = 3 ∨ j = 4 ∨ j = 5 := by omega
      rcases this with rfl | rfl | rfl | rfl | rfl | rfl
      · exact ⟨1, at_n (i := 0) rfl, by decide⟩
      · exact ⟨2, at_n (i := 1) rfl, by decide⟩
      · exact ⟨0, at_n (i := 2) rfl, by decide⟩
      · exact ⟨3, at_n (i := 3) rfl, by decide⟩
      · exact ⟨1, at_n (i := 4) rfl, by decide⟩
      · exact ⟨5, at_n (i := 5) rfl, by decide⟩
    refine ix_sq rfl rfl hc ⟨_, _, rfl, ?_⟩
    rw [show (if (c : Int) > 0 then ((c : Nat) : Int) else 0) = ((c : Nat) : Int) by split <;> omega]
    refine ⟨p, a, n + 50, c, h7, _, rfl, split_h7, by decide +kernel, by show c ≤ 7; omega, by decide, sp1.mono (by omega), fun zs S2 zl zm znd sp2 of2 => ?_⟩
    have of2 := of1.trans of2
    refine ⟨_, rfl, fr_seq (fun i δ S' => ∃ (hs : List Hd) (r4 : Option D), δ = [some (.ref p), some (.int 0), some (.ref F), some (.int (c : Nat)), r4] ∧ S' F = some (.lst (hs.map hdD)) ∧ hs.map (·.1) = ("main" : Str) :: zs.take i ∧ hs.head? = some (("main" : Str), ([] : List Str)) ∧ (∀ k ∈ hs, Sh k.1 ∧ k.2.length ≤ 4 ∧ ∀ f ∈ k.2, f ∈ a6) ∧ Spr S' p a (n + 5 * (9 - i)) ∧ ∀ b, b ≠ p → b ≠ a → b ≠ F → S' b = S b) ⟨[("main", [])], none, rfl, by rw [of2 F fp fa, up_same]; rfl, rfl, rfl, ?_, sp2.mono (by omega), fun b b1 b2 b3 => by rw [of2 b b1 b2, up_ne b3]⟩ ?_ ?_⟩
    · intro k hk
      rw [List.mem_singleton.mp hk]
      exact ⟨sh_all "main" (by decide +kernel), Nat.zero_le _, fun f hf => (nomatch hf)⟩
    · rintro i x δ S3 hx ⟨ks, r5, rfl, hF, hk, hhd, hok, sp3, of3⟩
      obtain ⟨z, hz, rfl⟩ := map_at hx
      have hlt := (List.getElem?_eq_some_iff.mp hz).1
      have lk : ks.length = i + 1 := by have := congrArg List.length hk; rw [List.length_map, List.length_cons, List.length_take] at this; omega
      refine ⟨_, rfl, ty_l hF, _, rfl, _, rfl, _, rfl, p, a, n + 5 * (9 - (i + 1)) + 4, 4, rfl, by decide, by decide, sp3.mono (by omega), fun t S4 t0 t1 sp4 of4 => ?_⟩
      obtain ⟨t, rfl⟩ : ∃ j : Nat, t = j := ⟨t.toNat, by omega⟩
      refine ⟨p, a, n + 5 * (9 - (i + 1)), t, a6, _, rfl, split_a6, by decide +kernel, by show t ≤ 6; omega, by decide, sp4.mono (by omega), fun fs S5 fl fm fnd sp5 of5 => tpl_l rfl ?_⟩
      refine app_of (by rw [of5 F fp fa, of4 F fp fa]; exact hF) (by rw [List.length_map, sizeLine_eq]; omega) ⟨ks ++ [(z, fs)], _, rfl, by rw [up_same, List.map_append]; rfl, by rw [List.map_append, hk, tk1 hz]; rfl, ?_, fun k hk2 => ?_, (sp5.up fp fa).mono (Nat.le_refl _), fun b b1 b2 b3 => by rw [up_ne b3, of5 b b1 b2, of4 b b1 b2, of3 b b1 b2 b3]⟩
      · cases ks with
        | nil => cases hhd
        | cons k r => exact hhd
      · rcases List.mem_append.mp hk2 with h | h
        · exact hok k h
        · rw [List.mem_singleton.mp h]
          have hz8 := zm z (List.mem_of_getElem? hz)
          exact ⟨sh_all z (by simp [hz8]), by show fs.length ≤ 4; omega, fun f hf => fm f hf⟩
    · rintro i δ S3 hi ⟨ks, r5, rfl, hF, hk, hhd, hok, sp3, of3⟩
      rw [List.take_of_length_le (by simpa using hi)] at hk
      refine ⟨_, rfl, rt_fl hF (q ks _ ?_ ?_ hhd hok ((sp3.mono (by omega)).del fp fa) fun b b1 b2 => ?_)⟩
      · have := congrArg List.length hk; rw [List.length_map, List.length_cons] at this; omega
      · rw [hk]
        exact List.nodup_cons.mpr ⟨fun h => nd_all.2.2.2.2.2 (zm _ h), znd nd_all.2.2.1⟩
      · by_cases e : b = F
        · subst e; rw [del_same, nF]
        · rw [del_ne e, of3 b b1 b2 e]
def sp__law_row : SpD := fun ds S Q _ => ∃ (p a : Addr) (n : Nat) (ks hs : List Hd) (vs : List Str) (m : Nat) (w : Str), ds = [.ref p, .str w, .tup (ks.map hdD), .fl (hs.map hdD), .fl (vs.map D.str), .int (m : Nat)] ∧ w ∈ w18 ∧ (w = "make" → 0 < ks.length) ∧ (w = "call" → 1 < hs.length) ∧ ks.length ≤ 10 ∧ hs.length ≤ 10 ∧ (∀ k ∈ ks, k.2.length ≤ 4) ∧ (∀ k ∈ hs, k.2.length ≤ 4) ∧ 0 < vs.length ∧ vs.length ≤ 30 ∧ m ≤ 20 ∧ Spr S p a (n + 30) ∧ ∀ (r : Rw) S', r.Ok m (hs.map (·.1)) → (∀ x ∈ r.vs, x ∈ vs) → Spr S' p a n → Off p a S S' → Q r.d S'
theorem ok__law_row {P : Program} {w : World} {K : PySem.W.Frag} {mg : Str → Option Value} {base : Heap} (T : Txt K w mg) (C__law_pick : Cal P w K mg base 2 "_law_pick" s__law_pick ["deck", "some"] sp__law_pick) (C__law_draw : Cal P w K mg base 1 "_law_draw" s__law_draw ["deck", "many"] sp__law_draw) (C__law_number : Cal P w K mg base 2 "_law_number" s__law_number ["deck"] sp__law_number) {ff : Addr} {fd : FuncData} (F : Fun K "_law_row" "_law_row" s__law_row ff fd) (mf : mg "_law_row" = some (.ref ff)) : Cal P w K mg base 3 "_law_row" s__law_row ["deck", "word", "kinds", "heads", "some", "size"] sp__law_row := by
  refine ⟨ff, fd, okD F sc__law_row (fun ds S Q E h => ?len) (fun cdv A outer s H E ds S Q E' hcd hr h => ⟨_, (dss_cons (ds_par3 6 7 8 rfl sc__law_row.nd (da_cons (de_c C__law_pick hr (da_cons (de_var 0) (da_cons (de_var 4) da_nil))) (da_cons (de_c C__law_pick hr (da_cons (de_var 0) (da_cons (de_var 4) da_nil))) (da_cons (de_c C__law_pick hr (da_cons (de_var 0) (da_cons (de_var 4) da_nil))) da_nil))))
      (dss_cons (ds_par 9 10 rfl sc__law_row.nd (da_cons (de_c C__law_draw hr (da_cons (de_var 0) (da_cons (de_op (od_add false) (de_var 5) de_int) da_nil))) (da_cons (de_c C__law_pick hr (da_cons (de_var 0) (da_cons (de_m PySem.F.plainAttrs_str PySem.F.slot_str_split PySem.F.type_str_split (md_split false) de_str (da_cons de_str da_nil)) da_nil))) da_nil)))
      (dss_cons (ds_if (dt_cmp (od_eq hr) (de_var 1) de_str) (dss_cons (ds_set 11 sc__law_row.nd (de_c C__law_pick hr (da_cons (de_var 0) (da_cons (de_var 2) da_nil))))
      (dss_one (ds_ret (de_tup (da_cons (de_var 1) (da_cons (de_var 6) (da_cons (de_ix (xd_ix hr) (de_var 11) de_int) (da_cons (de_callTy cd_tuple (by rfl) T.nb_tuple (da_cons (de_lc [("one", 12)] rfl sc__law_row.nd (di_tup (de_ix (xd_ix hr) (de_var 11) de_int)) (blkOk_by (N := ["deck", "word", "kinds", "heads", "some", "size", "x", "y", "z", "k", "field", "kind", "one", "head", "what", "table"]) (sc := defScope s__law_row) (by decide +kernel)) (fun _ _ _ _ _ => (pg_name (i := 12) sc__law_row.nd rfl (Or.inl rfl) (Or.inr rfl))) (fun N => (tg_name (vs := [12]) (i := 12) (by decide))) (fun _ _ _ _ _ => dts_nil) (fun _ _ _ _ _ => (de_c C__law_pick hr (da_cons (de_var 0) (da_cons (de_var 4) da_nil))))) da_nil)) da_nil)))))))) dss_nil)
      (dss_cons (ds_if (dt_cmp (od_eq hr) (de_var 1) de_str) (dss_cons (ds_set 13 sc__law_row.nd (de_c C__law_pick hr (da_cons (de_var 0) (da_cons (de_slice (xd_slice false) (de_var 3) (do_some de_int) do_none) da_nil))))
      (dss_one (ds_ret (de_tup (da_cons (de_var 1) (da_cons (de_c C__law_pick hr (da_cons (de_var 0) (da_cons (de_lf (da_cons (de_var 6) (da_cons (de_var 6) (da_cons de_non da_nil)))) da_nil))) (da_cons (de_ix (xd_ix hr) (de_var 13) de_int) (da_cons (de_callTy cd_tuple (by rfl) T.nb_tuple (da_cons (de_lc [("one", 12)] rfl sc__law_row.nd (di_tup (de_ix (xd_ix hr) (de_var 13) de_int)) (blkOk_by (N := ["deck", "word", "kinds", "heads", "some", "size", "x", "y", "z", "k", "field", "kind", "one", "head", "what", "table"]) (sc := defScope s__law_row) (by decide +kernel)) (fun _ _ _ _ _ => (pg_name (i := 12) sc__law_row.nd rfl (Or.inl rfl) (Or.inr rfl))) (fun N => (tg_name (vs := [12]) (i := 12) (by decide))) (fun _ _ _ _ _ => dts_nil) (fun _ _ _ _ _ => (de_c C__law_pick hr (da_cons (de_var 0) (da_cons (de_var 4) da_nil))))) da_nil)) da_nil)))))))) dss_nil)
      (dss_cons (ds_if (dt_cmp (od_in hr) (de_var 1) (de_tup (da_cons de_str (da_cons de_str (da_cons de_str da_nil))))) (dss_one (ds_ret (de_tup (da_cons (de_var 1) (da_cons (de_var 6) (da_cons (de_var 7) (da_cons (de_var 8) da_nil))))))) dss_nil)
      (dss_cons (ds_if (dt_cmp (od_in hr) (de_var 1) (de_tup (da_cons de_str (da_cons de_str da_nil)))) (dss_one (ds_ret (de_tup (da_cons (de_var 1) (da_cons (de_var 7) (da_cons (de_var 8) (da_cons (de_var 9) da_nil))))))) dss_nil)
      (dss_cons (ds_set 14 sc__law_row.nd (de_c C__law_pick hr (da_cons (de_var 0) (da_cons (de_op (od_add false) (de_lf (da_cons de_str (da_cons de_str da_nil))) (de_lc [("kind", 11)] rfl sc__law_row.nd (di_tup (de_var 2)) (blkOk_by (N := ["deck", "word", "kinds", "heads", "some", "size", "x", "y", "z", "k", "field", "kind", "one", "head", "what", "table"]) (sc := defScope s__law_row) (by decide +kernel)) (fun _ _ _ _ _ => (pg_name (i := 11) sc__law_row.nd rfl (Or.inl rfl) (Or.inr rfl))) (fun N => (tg_name (vs := [11]) (i := 11) (by decide))) (fun _ _ _ _ _ => dts_nil) (fun _ _ _ _ _ => (de_ix (xd_ix hr) (de_var 11) de_int)))) da_nil))))
      (dss_cons (ds_set 15 sc__law_row.nd (de_disp [(.inr "copy", _), (.inr "none", _), (.inr "number", _), (.inr "read", _), (.inr "tell", _)] (pps_cons pe_str (de_tup (da_cons (de_var 6) (da_cons (de_var 7) da_nil))) (pps_cons pe_str (de_tup (da_cons (de_var 6) da_nil)) (pps_cons pe_str (de_tup (da_cons (de_var 6) (da_cons (de_c C__law_number hr (da_cons (de_var 0) da_nil)) da_nil))) (pps_cons pe_str (de_tup (da_cons (de_var 6) (da_cons (de_var 7) (da_cons (de_var 10) da_nil)))) (pps_cons pe_str (de_tup (da_cons (de_var 7) da_nil)) pps_nil)))))))
      (dss_cons (ds_asg (de_tup (da_cons (de_c C__law_pick hr (da_cons (de_var 0) (da_cons (de_lf (da_cons (de_var 6) (da_cons (de_var 6) (da_cons de_non da_nil)))) da_nil))) da_nil)) (dg_sub hr (de_var 15) de_str))
      (dss_cons (ds_asg (de_tup (da_cons (de_tup (da_cons (de_var 7) da_nil)) (da_cons (de_tup (da_cons (de_var 9) da_nil)) (da_cons (de_tup (da_cons (de_var 7) (da_cons (de_var 14) (da_cons (de_var 9) da_nil)))) da_nil)))) (dg_tup (n := 3) rfl (dgs_cons (dg_sub hr (de_var 15) de_str) (dgs_cons (dg_sub hr (de_var 15) de_str) (dgs_cons (dg_sub hr (de_var 15) de_str) dgs_nil)))))
      (dss_one (ds_ret (de_op (od_add false) (de_tup (da_cons (de_var 1) da_nil)) (de_ix (xd_ix hr) (de_var 15) (de_var 1))))))))))))))), ?run⟩), F.binds (ps := ["deck", "word", "kinds", "heads", "some", "size"]) fun _ _ _ _ _ _ us hl => match us, hl with | [_, _, _, _, _, _], _ => rfl, mf, F⟩
  case len => obtain ⟨p, a, n, ks, hs, vs, m, w, rfl, _⟩ := h; rfl
  case run =>
    obtain ⟨p, a, n, ks, hs, vs, m, w, rfl, h⟩ := h
    simp only [dVar, dC, dOp, dUn, dChain, dTr, dB, dAnd, dOr, dNot, dIf, dAndV, dOrV, dNotV, dNil, dCons, dTup, dLst, dLf, dNext, dSeq, dBreak, dCont, dDrop, dRet, dRetN, dIfS, gdName, gdNil, gdCons, gdTup, gdSub, dAsg, dPar, dCall, dCallK, dCB, dM0, dM, dGet1, dGet2, dDk, dDt, dPart, dNoPart, dSlice, dAug, dYes, dSort2, revD, iTupD, iLstD, iLf, iLw, iRange1, iRange2, iRange3, iEnumD, iZipD, iZipMD, iStrD, dGix, dDc, dIsi, dSortSet, dLenSet, dDlit, gdLst, dFor, dWhile, dLc, dLcM, dFld, dFldSet, dFldAdd, dMeth, dMake, dPar3, dDisp, dPrs, dFsi, dGget, dKgt, dKgtL, dDz, iEnumMD, dCut, dTcut, wipeD, bodyE, startD, List.map_cons, List.map_nil, List.length_cons, List.length_nil, List.replicate_succ, List.replicate_zero, List.cons_append, List.nil_append, Nat.reduceAdd, Nat.reduceSub, Nat.zero_add, List.getElem?_cons_zero, List.getElem?_cons_succ, List.set_cons_zero, List.set_cons_succ, Option.some.injEq, exists_eq_left', exists_eq_left, if_true, sizeLine_eq, Nat.reduceLeDiff, Nat.reduceLT, Nat.zero_le, true_and, and_true, Bool.false_eq_true, if_false]
    obtain ⟨hw, hmk, hcl, k10, h10, kp, hp4, v0, v30, m20, sp, q⟩ := h
    refine pick_s (n := n + 29) v0 v30 sp fun x S1 hx sp1 of1 => pick_s (n := n + 28) v0 v30 sp1 fun y S2 hy sp2 of2 => pick_s (n := n + 27) v0 v30 sp2 fun z S3 hz sp3 of3 => ⟨_, _, _, rfl, add_i ⟨p, a, n + 26, _, rfl, by omega, by omega, sp3, fun k S4 k0 k1 sp4 of4 => ⟨rfl, _, _, rfl, rfl, by decide +kernel, Nat.le_of_ble_eq_true (by decide +kernel), brF rfl ?_⟩⟩⟩
    rw [split_f9]
    obtain ⟨k, rfl⟩ : ∃ j : Nat, k = j := ⟨k.toNat, by omega⟩
    refine pick_s (n := n + 25) (by decide) (by decide) sp4 fun f S5 hf sp5 of5 => ⟨_, _, rfl, eq_ss ⟨_, rfl, br2 (fun hM => ?_) fun hM => eq_ss ⟨_, rfl, br2 (fun hC => ?_) fun hC => ?_⟩⟩⟩
    · have hM : w = "make" := of_xt hM
      subst hM
      refine ⟨p, a, n + 24, _, _, rfl, .inr (.inl rfl), by rw [List.length_map]; exact hmk rfl, by rw [List.length_map]; omega, sp5, fun d S6 hd sp6 of6 => ?_⟩
      obtain ⟨kd, hkd, rfl⟩ := List.mem_map.mp hd
      have k4 := kp kd hkd
      refine ix_sq rfl rfl at_0 (ix_sq rfl rfl (at_n (i := 1) rfl) ⟨_, .inl rfl, ?_⟩)
      refine seq_s (c := kd.2.length) (n := n) (by rw [List.length_map]) (by omega) v0 v30 (sp6.mono (by omega)) fun ys S7 yl yv sp7 of7 => tpl_l rfl (rt_of (q (.make x kd.1 ys) S7 (by show ys.length ≤ 4; omega) (fun u hu => ?_) sp7 (((((of1.trans of2).trans of3).trans of4).trans of5).trans of6 |>.trans of7)))
      rcases List.mem_cons.mp hu with rfl | h
      · exact hx
      · exact yv u h
    · have hC : w = "call" := of_xt hC
      subst hC
      refine ⟨1, rfl, sl_f rfl ?_⟩
      rw [show DL.cutD (hs.map hdD) (some 1) none = (hs.map hdD).drop 1 from cut_drop _ 1, ← List.map_drop]
      have h1 := hcl rfl
      refine ⟨p, a, n + 24, _, _, rfl, .inl rfl, by rw [List.length_map, List.length_drop]; omega, by rw [List.length_map, List.length_drop]; omega, sp5, fun d S6 hd sp6 of6 => ?_⟩
      obtain ⟨kd, hkd, rfl⟩ := List.mem_map.mp hd
      have hkm := List.mem_of_mem_drop hkd
      have k4 := hp4 kd hkm
      refine ⟨p, a, n + 23, _, _, rfl, .inl rfl, by simp, by simp, sp6, fun d S7 hd sp7 of7 => ?_⟩
      obtain ⟨o, rfl, ho⟩ : ∃ o : Option Str, d = oD o ∧ ∀ u ∈ o.toList, u = x := by
        simp only [List.mem_cons, List.not_mem_nil, or_false] at hd
        rcases hd with rfl | rfl | rfl
        · exact ⟨some x, rfl, by simp⟩
        · exact ⟨some x, rfl, by simp⟩
        · exact ⟨none, rfl, by simp⟩
      refine ix_sq rfl rfl at_0 (ix_sq rfl rfl (at_n (i := 1) rfl) ⟨_, .inl rfl, ?_⟩)
      refine seq_s (c := kd.2.length) (n := n) (by rw [List.length_map]) (by omega) v0 v30 (sp7.mono (by omega)) fun ys S8 yl yv sp8 of8 => tpl_l rfl (rt_of (q (.call o kd.1 ys) S8 ⟨List.mem_map_of_mem hkm, by omega⟩ (fun u hu => ?_) sp8 ((((((of1.trans of2).trans of3).trans of4).trans of5).trans of6 |>.trans of7).trans of8)))
      rcases List.mem_append.mp hu with h | h
      · rw [ho u h]; exact hx
      · exact yv u h
    · have hM : w ≠ "make" := of_xf hM
      have hC : w ≠ "call" := of_xf hC
      have hwk : PyData.strOk w = true := w18_ok w hw
      have off5 := (((of1.trans of2).trans of3).trans of4).trans of5
      refine in_ws (ws := sums) rfl (fun z e => nomatch e) hwk (by decide +kernel) ⟨_, rfl, br2 (fun hP => ?_) fun hP => in_ws (ws := ["less", "same"]) rfl (fun z e => nomatch e) hwk (by decide +kernel) ⟨_, rfl, br2 (fun hT => ?_) fun hT => ?_⟩⟩
      · have hP : w ∈ sums := of_xt hP
        refine rt_of (q (.sum w x y z) S5 hP (fun u hu => ?_) (sp5.mono (by omega)) off5)
        simp only [Rw.vs, List.mem_cons, List.not_mem_nil, or_false] at hu
        rcases hu with rfl | rfl | rfl <;> assumption
      · have hT : w ∈ (["less", "same"] : List Str) := of_xt hT
        refine rt_of (q (.test w y z k) S5 ⟨by simpa using hT, by omega⟩ (fun u hu => ?_) (sp5.mono (by omega)) off5)
        simp only [Rw.vs, List.mem_cons, List.not_mem_nil, or_false] at hu
        rcases hu with rfl | rfl <;> assumption
      have hP : w ∉ sums := of_xf hP
      have hT : w ∉ (["less", "same"] : List Str) := of_xf hT
      refine ⟨_, .inl rfl, lc_mp nmD (by rw [List.length_map]; omega) (fun W i d acc hd w => ?_) ?_⟩
      · obtain ⟨kd, hkd, rfl⟩ := map_at hd
        exact ix_sq rfl rfl at_0 w
      have en : (ks.map hdD).map nmD = (ks.map (·.1)).map D.str := by rw [List.map_map, List.map_map]; rfl
      rw [en]
      refine add_f rfl rfl (by rw [sizeLine_eq, List.length_map, List.length_map]; simp; omega) ?_
      obtain ⟨whs, ewh⟩ : ∃ whs : List Str, whs = ([("none" : Str), "number"] : List Str) ++ ks.map (fun k => k.1) := ⟨_, rfl⟩
      have whl : whs.length = 2 + ks.length := by rw [ewh, List.length_append, List.length_map]; rfl
      have en2 : [D.str "none", D.str "number"] ++ (ks.map (fun k => k.1)).map D.str = whs.map D.str := by rw [ewh, List.map_append]; rfl
      rw [en2]
      refine pick_s (n := n + 24) (by omega) (by omega) sp5 fun wh S6 hwh sp6 of6 => ?_
      intro T nT
      obtain ⟨tp, ta⟩ := sp6.ne nT
      refine ⟨p, a, n + 22, rfl, sp6.up tp ta, fun c S7 c0 c1 sp7 of7 => ⟨by rw [of7 T tp ta, up_same], ?_⟩⟩
      refine ⟨p, a, n + 21, _, _, rfl, .inl rfl, by simp, by simp, sp7.up tp ta, fun d S8 hd sp8 of8 => ?_⟩
      obtain ⟨o, rfl, ho⟩ : ∃ o : Option Str, d = oD o ∧ ∀ u ∈ o.toList, u = x := by
        simp only [List.mem_cons, List.not_mem_nil, or_false] at hd
        rcases hd with rfl | rfl | rfl
        · exact ⟨some x, rfl, by simp⟩
        · exact ⟨some x, rfl, by simp⟩
        · exact ⟨none, rfl, by simp⟩
      have hT8 : S8 T = some (.dk (ks5.zip [.tup [.str x, .str y], .tup [.str x], .tup [.str x, .int c], .tup [.str x, .str y, .str f], .tup [.str y]])) := by rw [of8 T tp ta, up_same]; rfl
      have k4 : ∀ {l : List (Key × D)}, l.length ≤ 9 → l.length < sizeLine := fun h => by rw [sizeLine_eq]; omega
      refine ⟨T, rfl, .inr (.inl ⟨_, .inr "input", hT8, rfl, k4 (by simp [ks5]), ?_⟩)⟩
      rw [put_new (ks := ks5) rfl kn1]
      refine ⟨_, rfl, rfl, _, _, rfl, T, rfl, .inr (.inl ⟨_, .inr "return", up_same, rfl, k4 (by simp [ks5]), ?_⟩)⟩
      rw [put_new (ks := ks5 ++ [Sum.inr (Str.ofString "input")]) rfl kn2, up_up]
      refine ⟨_, _, rfl, T, rfl, .inr (.inl ⟨_, .inr "jump", up_same, rfl, k4 (by simp [ks5]), ?_⟩)⟩
      rw [put_new (ks := ks5 ++ [Sum.inr (Str.ofString "input"), Sum.inr (Str.ofString "return")]) rfl kn3, up_up]
      refine ⟨_, _, rfl, T, rfl, .inr (.inl ⟨_, .inr "is", up_same, rfl, k4 (by simp [ks5]), ?_⟩)⟩
      rw [put_new (ks := ks5 ++ [Sum.inr (Str.ofString "input"), Sum.inr (Str.ofString "return"), Sum.inr (Str.ofString "jump")]) rfl kn4, up_up]
      refine ⟨rfl, ?_⟩
      obtain ⟨vs9, ev9⟩ : ∃ l : List D, l = [.tup [.str x, .str y], .tup [.str x], .tup [.str x, .int c], .tup [.str x, .str y, .str f], .tup [.str y], .tup [oD o], .tup [.str y], .tup [.int (k : Nat)], .tup [.str y, .str wh, .int (k : Nat)]] := ⟨_, rfl⟩
      have et : (((ks5.zip [D.tup [.str x, .str y], .tup [.str x], .tup [.str x, .int c], .tup [.str x, .str y, .str f], .tup [.str y]] ++ [((.inr "input" : Key), D.tup [oD o])]) ++ [((.inr "return" : Key), D.tup [.str y])]) ++ [((.inr "jump" : Key), D.tup [.int (k : Nat)])]) ++ [((.inr "is" : Key), D.tup [.str y, .str wh, .int (k : Nat)])] = ks9.zip vs9 := by rw [ev9]; rfl
      rw [et]
      have l9 : ks9.length = vs9.length := by rw [ev9]; rfl
      have nT8 : S T = none := by rw [← off5 T tp ta, ← of6 T tp ta]; exact nT
      have fin : ∀ (i : Nat) (r : Rw), ks9[i]? = some (.inr w) → vs9[i]? = some (.tup r.ps) → r.h = w → r.ps.length ≤ 3 → r.Ok m (hs.map (·.1)) → (∀ x ∈ r.vs, x ∈ vs) → ixD (.ref T) (.str w) (up S8 T (.dk (ks9.zip vs9))) fun y S2 => addD false (.tup [.str w]) y S2 fun d S' => ∃ d1 S1, VW d S' d1 S1 ∧ Q d1 S1 := fun i r h1 h2 h3 h4 h5 h6 => by
        refine ix_at (d := .tup r.ps) (by rw [at_dk up_same (κ := .inr w) rfl, val_zip nd9 h1 l9, h2]) (add_t (by rw [sizeLine_eq]; simp; omega) ?_)
        have sub : DL.Sub (del S8 T) (up S8 T (.dk (ks9.zip vs9))) := fun b o' e => by
          by_cases hb : b = T
          · subst hb; rw [del_same] at e; cases e
          · rw [del_ne hb] at e; rw [up_ne hb]; exact e
        have e : D.tup ([D.str w] ++ r.ps) = r.d := by unfold Rw.d; rw [h3]; rfl
        rw [e]
        refine rt_sub sub (q r _ h5 h6 ((sp8.mono (by omega)).del tp ta) fun b b1 b2 => ?_)
        by_cases hb : b = T
        · subst hb; rw [del_same, nT8]
        · rw [del_ne hb, of8 b b1 b2, up_ne hb, of7 b b1 b2, up_ne hb, of6 b b1 b2, off5 b b1 b2]
      have one : ∀ {u v : Str}, v ∈ vs → u ∈ [v] → u ∈ vs := fun hv hu => by rw [List.mem_singleton.mp hu]; exact hv
      have two : ∀ {u v v' : Str}, v ∈ vs → v' ∈ vs → u ∈ [v, v'] → u ∈ vs := fun hv hv' hu => by
        simp only [List.mem_cons, List.not_mem_nil, or_false] at hu
        rcases hu with rfl | rfl <;> assumption
      simp only [w18, List.mem_cons, List.not_mem_nil, or_false] at hw
      rcases hw with rfl | rfl | rfl | rfl | rfl | rfl | rfl | rfl | rfl | rfl | rfl | rfl | rfl | rfl | rfl | rfl
      · exact fin 0 (.copy x y) rfl (by rw [ev9]; rfl) rfl (Nat.le_of_ble_eq_true rfl) trivial fun u hu => two hx hy hu
      · exact fin 1 (.none x) rfl (by rw [ev9]; rfl) rfl (Nat.le_of_ble_eq_true rfl) trivial fun u hu => one hx hu
      · exact fin 2 (.num x c) rfl (by rw [ev9]; rfl) rfl (Nat.le_of_ble_eq_true rfl) trivial fun u hu => one hx hu
      · exact absurd (by decide +kernel) hP
      · exact absurd (by decide +kernel) hP
      · exact absurd (by decide +kernel) hP
      · exact absurd rfl hM
      · exact fin 3 (.read x y f) rfl (by rw [ev9]; rfl) rfl (Nat.le_of_ble_eq_true rfl) trivial fun u hu => two hx hy hu
      · exact fin 5 (.inp o) rfl (by rw [ev9]; rfl) rfl (Nat.le_of_ble_eq_true rfl) trivial fun u hu => by rw [ho u hu]; exact hx
      · exact fin 4 (.tell y) rfl (by rw [ev9]; rfl) rfl (Nat.le_of_ble_eq_true rfl) trivial fun u hu => one hy hu
      · exact absurd rfl hC
      · exact fin 6 (.ret y) rfl (by rw [ev9]; rfl) rfl (Nat.le_of_ble_eq_true rfl) trivial fun u hu => one hy hu
      · exact fin 7 (.jump k) rfl (by rw [ev9]; rfl) rfl (Nat.le_of_ble_eq_true rfl) (by show k ≤ m; omega) fun u hu => (nomatch hu)
      · exact absurd (by decide +kernel) hT
      · exact absurd (by decide +kernel) hT
      · exact fin 8 (.isk y wh k) rfl (by rw [ev9]; rfl) rfl (Nat.le_of_ble_eq_true rfl) (by show k ≤ m; omega) fun u hu => one hy hu
end K10

namespace K10
open PySem L2 PyProof.Rows DL
/-! ### how deep a value is -/
mutual
def dep : D → Nat
  | .at _ => 0
  | .tup l => deps l + 1
  | .fl l => deps l + 1
  | .wt l => deps l + 1
def deps : List D → Nat
  | [] => 0
  | d :: ds => max (dep d) (deps ds)
end
theorem deps_le {m : Nat} : ∀ {ds : List D}, deps ds ≤ m ↔ ∀ d ∈ ds, dep d ≤ m
  | [] => by unfold deps; simp
  | d :: ds => by
    unfold deps
    rw [Nat.max_le, deps_le]
    simp
theorem dep_tup {m : Nat} {ds : List D} : dep (.tup ds) ≤ m + 1 ↔ ∀ d ∈ ds, dep d ≤ m := by
  have e : dep (.tup ds) = deps ds + 1 := by conv => lhs; unfold dep
  rw [e, ← deps_le]
  omega
theorem dep_fl {m : Nat} {ds : List D} : dep (.fl ds) ≤ m + 1 ↔ ∀ d ∈ ds, dep d ≤ m := by
  have e : dep (.fl ds) = deps ds + 1 := by conv => lhs; unfold dep
  rw [e, ← deps_le]
  omega
theorem dep_at {v : V} : dep (.at v) = 0 := by unfold dep; rfl
/-! ### drawn states, in plain Lean -/
/-- a drawn value -/
inductive Vl (ns : List Int) : D → Prop
  | non : Vl ns .non
  | num (i : Int) (h0 : 0 ≤ i) (h1 : i ≤ 1000002) : Vl ns (.int i)
  | cell (i : Int) (h : i ∈ ns) : Vl ns (.tup [.str "cell", .int i])
theorem Vl.f {ns : List Int} {d : D} (h : Vl ns d) : valF ns d = true := by
  cases h with
  | non => rfl
  | num i h0 h1 =>
    show (decide (0 ≤ i) && decide (i < 1000003)) = true
    rw [decide_eq_true h0, decide_eq_true (by omega)]; rfl
  | cell i h => rw [val_cell, decide_eq_true h]
theorem Vl.dep {ns : List Int} {d : D} (h : Vl ns d) : K10.dep d ≤ 1 := by
  cases h with
  | non => rw [dep_at]; exact Nat.zero_le _
  | num i h0 h1 => rw [dep_at]; exact Nat.zero_le _
  | cell i h =>
    refine dep_tup.mpr fun d hd => ?_
    simp only [List.mem_cons, List.not_mem_nil, or_false] at hd
    rcases hd with rfl | rfl <;> rw [dep_at] <;> exact Nat.le_refl _
theorem cell_ok : PyData.strOk ("cell" : Str) = true ∧ ("cell" : Str).length ≤ 20 := by decide +kernel
theorem Vl.g {ns : List Int} {d : D} (h : Vl ns d) (hn : ∀ i ∈ ns, i.natAbs ≤ 10 ^ 9) (S : Sto) : gv S 0 d := by
  cases h with
  | non => exact gv_non
  | num i h0 h1 => exact gv_int.mpr (by omega)
  | cell i h =>
    refine gv_tup.mpr ⟨by simp, fun d hd => ?_⟩
    simp only [List.mem_cons, List.not_mem_nil, or_false] at hd
    rcases hd with rfl | rfl
    · exact gv_str.mpr ⟨cell_ok.1, by have := cell_ok.2; omega⟩
    · exact gv_int.mpr (by have := hn i h; omega)
/-- pairs of names and values -/
def pairD (q : Str × D) : D := .tup [.str q.1, q.2]
theorem prs_pairs {ns : List Int} : ∀ {qs : List (Str × D)}, (∀ q ∈ qs, Vl ns q.2) → prs ns (qs.map pairD) = some (qs.map (·.1))
  | [], _ => rfl
  | q :: qs, h => by
    rw [List.map_cons]
    unfold prs
    have e : pr1 ns (pairD q) = some q.1 := by
      show (if valF ns q.2 = true then some q.1 else none) = _
      rw [if_pos (h q List.mem_cons_self).f]
    rw [e, prs_pairs fun x hx => h x (List.mem_cons_of_mem _ hx)]
    rfl
theorem pairs_g {ns : List Int} {qs : List (Str × D)} (S : Sto) (h : ∀ q ∈ qs, Vl ns q.2) (hs : ∀ q ∈ qs, PyData.strOk q.1 = true ∧ q.1.length ≤ 40) (hl : qs.length ≤ 100) (hn : ∀ i ∈ ns, i.natAbs ≤ 10 ^ 9) : gv S 0 (.tup (qs.map pairD)) := by
  refine gv_tup.mpr ⟨by rw [List.length_map]; omega, fun d hd => ?_⟩
  obtain ⟨q, hq, rfl⟩ := List.mem_map.mp hd
  refine gv_tup.mpr ⟨by simp, fun d hd => ?_⟩
  simp only [List.mem_cons, List.not_mem_nil, or_false] at hd
  rcases hd with rfl | rfl
  · exact gv_str.mpr ⟨(hs q hq).1, by have := (hs q hq).2; omega⟩
  · exact (h q hq).g hn S
theorem pairs_dep {ns : List Int} {qs : List (Str × D)} (h : ∀ q ∈ qs, Vl ns q.2) : dep (.tup (qs.map pairD)) ≤ 3 := by
  refine dep_tup.mpr fun d hd => ?_
  obtain ⟨q, hq, rfl⟩ := List.mem_map.mp hd
  refine dep_tup.mpr fun d hd => ?_
  simp only [List.mem_cons, List.not_mem_nil, or_false] at hd
  rcases hd with rfl | rfl
  · rw [dep_at]; exact Nat.zero_le _
  · exact (h q hq).dep
theorem three_dep {a b c : D} (ha : dep a ≤ 3) (hb : dep b ≤ 3) (hc : dep c ≤ 3) : dep (.tup [a, b, c]) ≤ 4 := by
  refine dep_tup.mpr fun d hd => ?_
  simp only [List.mem_cons, List.not_mem_nil, or_false] at hd
  rcases hd with rfl | rfl | rfl <;> assumption
theorem at3 {v : V} : dep (.at v) ≤ 3 := by rw [dep_at]; exact Nat.zero_le _
theorem sub_filter {zs l : List Str} (h : zs.Sublist l) (nd : l.Nodup) : zs = l.filter fun f => decide (f ∈ zs) := by
  induction h with
  | slnil => rfl
  | @cons l1 l2 a h ih =>
    obtain ⟨h1, h2⟩ := List.nodup_cons.mp nd
    rw [List.filter_cons, if_neg (by simpa using fun z => h1 (h.subset z))]
    exact ih h2
  | @cons_cons l1 l2 a h ih =>
    obtain ⟨h1, h2⟩ := List.nodup_cons.mp nd
    rw [List.filter_cons, if_pos (by simp)]
    refine congrArg (a :: ·) ((ih h2).trans (List.filter_congr fun x hx => ?_))
    have : x ≠ a := fun e => h1 (e ▸ hx)
    rw [decide_eq_decide]
    simp [this]
theorem kOf_of {ks : List Hd} {k : Hd} (nd : (ks.map (·.1)).Nodup) (h : k ∈ ks) : kOf ks k.1 = some k := by
  unfold kOf
  induction ks with
  | nil => cases h
  | cons c ks ih =>
    obtain ⟨h1, h2⟩ := List.nodup_cons.mp nd
    rcases List.mem_cons.mp h with rfl | h
    · rw [List.filter_cons, if_pos (by simp)]; rfl
    · have : c.1 ≠ k.1 := fun e => h1 (by show c.1 ∈ _; rw [e]; exact List.mem_map_of_mem h)
      rw [List.filter_cons, if_neg (by simpa using this)]
      exact ih h2 h
/-- a drawn cell -/
def clD (i : Int) (k : Str) (qs : List (Str × D)) : D := .tup [.int i, .str k, .tup (qs.map pairD)]
theorem cl_n {ks : List Hd} {ns : List Int} {i : Int} {k : Hd} {qs : List (Str × D)} (nd : (ks.map (·.1)).Nodup) (hk : k ∈ ks) (knd : k.2.Nodup) (h : ∀ q ∈ qs, Vl ns q.2) (hs : (qs.map (·.1)).Sublist k.2) : cellN ks ns (clD i k.1 qs) = some i := by
  show cellN ks ns (.tup [.int i, .str k.1, .tup (qs.map pairD)]) = _
  have e : prsD ns (.tup (qs.map pairD)) = some (qs.map (·.1)) := prs_pairs h
  rw [cellN_of (kOf_of nd hk), e, prsD_names e, if_pos (congrArg some (sub_filter hs knd))]
/-- drawn cells: their numbers, the last one -/
structure ClOk (ks : List Hd) (cs : List D) (ns : List Int) (last : Int) : Prop where
  f : ∀ made cs', last < made → cellsF ks made (cs ++ cs') [] (-1) = cellsF ks made cs' ns last
  g : ∀ S, ∀ d ∈ cs, gv S 0 d
  n : ∀ i ∈ ns, 0 ≤ i ∧ i ≤ last
  l : ns.length = cs.length
  lo : -1 ≤ last
  nm : cs.map nmD = ns.map D.int
  dp : ∀ d ∈ cs, dep d ≤ 4
  z : (cs = [] ∧ last = -1) ∨ ∃ cs' b c, cs = cs' ++ [.tup [.int last, b, c]]
theorem ClOk.nil {ks : List Hd} : ClOk ks [] [] (-1) := ⟨fun made cs' _ => rfl, fun _ _ h => (nomatch h), fun _ h => (nomatch h), rfl, by decide, rfl, (fun _ h => (nomatch h)), .inl ⟨rfl, rfl⟩⟩
theorem ClOk.snoc {ks : List Hd} {cs : List D} {ns : List Int} {last j : Int} {k : Hd} {qs : List (Str × D)} (h : ClOk ks cs ns last) (nd : (ks.map (·.1)).Nodup) (hk : k ∈ ks) (knd : k.2.Nodup) (hv : ∀ q ∈ qs, Vl ns q.2) (hs : (qs.map (·.1)).Sublist k.2) (hj : last < j) (hj9 : j ≤ 10 ^ 9) (k4 : k.2.length ≤ 4) (ksh : Sh k.1) (fsh : ∀ f ∈ k.2, Sh f) : ClOk ks (cs ++ [clD j k.1 qs]) (ns ++ [j]) j := by
  have n9 : ∀ i ∈ ns, i.natAbs ≤ 10 ^ 9 := fun i hi => by have := h.n i hi; omega
  have lo := h.lo
  refine ⟨fun made cs' hm => ?_, fun S d hd => ?_, fun i hi => ?_, by rw [List.length_append, List.length_append, h.l]; rfl, by omega, by rw [List.map_append, List.map_append, h.nm]; rfl, fun d hd => (List.mem_append.mp hd).elim (h.dp d) fun e => by rw [List.mem_singleton.mp e]; exact three_dep at3 at3 (pairs_dep hv), .inr ⟨cs, _, _, rfl⟩⟩
  · rw [List.append_assoc, h.f made _ (by omega)]
    show cellsF ks made (clD j k.1 qs :: cs') ns last = _
    conv => lhs; unfold cellsF
    rw [cl_n nd hk knd hv hs]
    dsimp only
    rw [if_pos ⟨hj, hm⟩]
  · rcases List.mem_append.mp hd with hd | hd
    · exact h.g S d hd
    · rw [List.mem_singleton.mp hd]
      have ql : qs.length ≤ 4 := by have := hs.length_le; rw [List.length_map] at this; omega
      refine gv_tup.mpr ⟨by simp, fun d hd => ?_⟩
      simp only [List.mem_cons, List.not_mem_nil, or_false] at hd
      rcases hd with rfl | rfl | rfl
      · exact gv_int.mpr (by omega)
      · exact gv_str.mpr ⟨ksh.1, by have := ksh.2; omega⟩
      · exact pairs_g S hv (fun q hq => fsh _ (hs.subset (List.mem_map_of_mem hq))) (by omega) n9
  · rcases List.mem_append.mp hi with hi | hi
    · have := h.n i hi; omega
    · rw [List.mem_singleton.mp hi]; omega
theorem ClOk.d {ks : List Hd} {cs : List D} {ns : List Int} {last made : Int} (h : ClOk ks cs ns last) (hm : last < made) : cellsD ks made (.tup cs) = some ns := by
  have := h.f made [] hm
  rw [List.append_nil] at this
  exact this
/-- frames that wait, and the one on top -/
inductive Ch (ps : List Pc) : List (Str × Nat) → Str → Prop
  | nil : Ch ps [] "main"
  | snoc {l : List (Str × Nat)} {x y : Str} {i : Nat} {r : Rw} (h : Ch ps l x) (hr : (rowsOf ps x)[i]? = some r) (hc : r.calls = some y) : Ch ps (l ++ [(x, i)]) y
theorem rowsOf_in {ps : List Pc} {x : Str} {i : Nat} {r : Rw} (h : (rowsOf ps x)[i]? = some r) : x ∈ ps.map (·.1) := by
  unfold rowsOf at h
  cases e : pcOf ps x with
  | none => rw [e] at h; simp at h
  | some p =>
    unfold pcOf at e
    have hm : p ∈ ps.filter fun q => decide (q.1 = x) := List.mem_of_getElem? e
    obtain ⟨h1, h2⟩ := List.mem_filter.mp hm
    rw [← of_decide_eq_true h2]
    exact List.mem_map_of_mem h1
theorem Ch.top {ks : List Hd} {ps : List Pc} (ok : PrOk ks ps) {l : List (Str × Nat)} {x : Str} (h : Ch ps l x) : x ∈ ps.map (·.1) := by
  cases h with
  | nil => exact ok.m
  | snoc h hr hc =>
    obtain ⟨p, h1, h2, h3⟩ := rowsOf_ok ok (rowsOf_in hr)
    rw [h2] at hr
    rcases rw_call (h3.ok _ (List.mem_of_getElem? hr)) with ⟨q, ds, e1, _, _, e4, _⟩ | ⟨e, _⟩
    · rw [hc] at e1; cases e1; exact e4
    · rw [hc] at e; cases e
def sptD (q : Str × Nat) : D := .tup [.str q.1, .int (q.2 : Nat)]
/-- all spots, with the one on top: where each one stands -/
structure Sps (ps : List Pc) (qs : List (Str × Nat)) : Prop where
  m : ∀ q, qs[0]? = some q → q.1 = ("main" : Str)
  r : ∀ q ∈ qs, q.1 ∈ ps.map (·.1) ∧ q.2 ≤ (rowsOf ps q.1).length
  c : ∀ (j : Nat) q q', qs[j]? = some q → qs[j + 1]? = some q' → ∃ r, (rowsOf ps q.1)[q.2]? = some r ∧ r.calls = some q'.1
theorem Ch.sps {ks : List Hd} {ps : List Pc} (ok : PrOk ks ps) {l : List (Str × Nat)} {x : Str} (h : Ch ps l x) : ∀ {i : Nat}, i ≤ (rowsOf ps x).length → Sps ps (l ++ [(x, i)]) := by
  induction h with
  | nil =>
    intro i hi
    refine ⟨fun q e => by cases e; rfl, fun q hq => by rw [List.mem_singleton.mp hq]; exact ⟨ok.m, hi⟩, fun j q q' _ e => ?_⟩
    cases j <;> cases e
  | @snoc l x y i r h hr hc ih =>
    intro k hk
    have hi := (List.getElem?_eq_some_iff.mp hr).1
    have s := ih (i := i) (by omega)
    refine ⟨fun q e => ?_, fun q hq => ?_, fun j q q' e e' => ?_⟩
    · rw [List.getElem?_append_left (by simp)] at e
      exact s.m q e
    · rcases List.mem_append.mp hq with hq | hq
      · exact s.r q hq
      · rw [List.mem_singleton.mp hq]
        exact ⟨(Ch.snoc h hr hc).top ok, hk⟩
    · by_cases hj : j + 1 < (l ++ [(x, i)]).length
      · rw [List.getElem?_append_left (by omega)] at e
        rw [List.getElem?_append_left hj] at e'
        exact s.c j q q' e e'
      · have hl : (l ++ [(x, i)]).length = l.length + 1 := by simp
        have hj2 := (List.getElem?_eq_some_iff.mp e').1
        rw [List.length_append, List.length_singleton] at hj2
        obtain rfl : j = l.length := by omega
        rw [List.getElem?_append_left (by omega), List.getElem?_append_right (Nat.le_refl _), Nat.sub_self] at e
        rw [List.getElem?_append_right (by omega), hl, Nat.sub_self] at e'
        cases e
        cases e'
        exact ⟨r, hr, hc⟩
/-- a drawn frame at a spot -/
def FrG (ps : List Pc) (ns : List Int) (q : Str × Nat) (d : D) : Prop := ∃ qs : List (Str × D), d = .tup [.str q.1, .int (q.2 : Nat), .tup (qs.map pairD)] ∧ IsSd (varsOf ps q.1) (qs.map (·.1)) ∧ ∀ x ∈ qs, Vl ns x.2
theorem frs_ok {ps : List Pc} {ns : List Int} {sq : List (Str × Nat)} {fs : List D} (sp : Sps ps sq) (hl : fs.length = sq.length) (h : ∀ (j : Nat) (q : Str × Nat) (d : D), sq[j]? = some q → fs[j]? = some d → FrG ps ns q d) : FrsP ps ns fs := by
  have get : ∀ (j : Nat) f, fs[j]? = some f → ∃ q, sq[j]? = some q ∧ FrG ps ns q f := fun j f e => by
    have hj := (List.getElem?_eq_some_iff.mp e).1
    have e2 : sq[j]? = some (sq[j]'(by omega)) := List.getElem?_eq_getElem (by omega)
    exact ⟨_, e2, h j _ f e2 e⟩
  refine ⟨fun j f e => ?_, fun f e => ?_, fun j f g e1 e2 => ?_⟩
  · obtain ⟨q, hq, qs, rfl, h1, h2⟩ := get j f e
    obtain ⟨r1, r2⟩ := sp.r q (List.mem_of_getElem? hq)
    exact ⟨q.1, _, _, _, rfl, r1, by omega, by omega, prs_pairs h2, h1⟩
  · obtain ⟨q, hq, qs, rfl, h1, h2⟩ := get 0 f e
    rw [sp.m q hq]
    show decide (D.str ("main" : Str) = .str "main") = true
    exact decide_eq_true rfl
  · obtain ⟨q, hq, qs, rfl, h1, h2⟩ := get j f e1
    obtain ⟨q', hq', qs', rfl, h1', h2'⟩ := get (j + 1) g e2
    obtain ⟨r, hr, hc⟩ := sp.c j q q' hq hq'
    show (match (rowsOf ps q.1)[((q.2 : Nat) : Int).toNat]? with
      | some w => decide (w.calls = some q'.1)
      | none => false) = true
    rw [Int.toNat_natCast, hr]
    exact decide_eq_true hc
theorem fr_g {ks : List Hd} {ps : List Pc} {ns : List Int} {q : Str × Nat} {d : D} (ok : PrOk ks ps) (sh : q.1.length ≤ 40) (hq : q.1 ∈ ps.map (·.1) ∧ q.2 ≤ (rowsOf ps q.1).length) (h : FrG ps ns q d) (hn : ∀ i ∈ ns, i.natAbs ≤ 10 ^ 9) (S : Sto) : gv S 0 d := by
  obtain ⟨qs, rfl, h1, h2⟩ := h
  obtain ⟨p, e1, e2, e3⟩ := rowsOf_ok ok hq.1
  have hv : varsOf ps q.1 = vars p.2.1 p.2.2 := by unfold varsOf; rw [e1]; rfl
  have hm : ∀ z ∈ qs.map (·.1), z ∈ nm14 := fun z hz => e3.nm z (by rw [← hv]; exact (h1.2.2 z).mp hz)
  refine gv_tup.mpr ⟨by simp, fun d hd => ?_⟩
  simp only [List.mem_cons, List.not_mem_nil, or_false] at hd
  rcases hd with rfl | rfl | rfl
  · exact gv_str.mpr ⟨(ok.sh _ hq.1).1, by have := (ok.sh _ hq.1).2; omega⟩
  · have := e3.rl
    rw [e2] at hq
    exact gv_int.mpr (by omega)
  · refine pairs_g S h2 (fun x hx => ?_) ?_ hn
    · have := hm x.1 (List.mem_map_of_mem hx)
      exact nm_sh _ this
    · have := nd_len (qs.map (·.1)) nm14 h1.2.1 hm
      rw [List.length_map] at this
      have e : nm14.length = 13 := rfl
      omega
theorem fr_dep {ps : List Pc} {ns : List Int} {q : Str × Nat} {d : D} (h : FrG ps ns q d) : dep d ≤ 4 := by
  obtain ⟨qs, rfl, h1, h2⟩ := h
  exact three_dep at3 at3 (pairs_dep h2)
theorem st_dep {fs cs : List D} {m : Int} (h1 : ∀ d ∈ fs, dep d ≤ 4) (h2 : ∀ d ∈ cs, dep d ≤ 4) : dep (.tup [.tup fs, .tup cs, .int m]) ≤ 6 := by
  refine dep_tup.mpr fun d hd => ?_
  simp only [List.mem_cons, List.not_mem_nil, or_false] at hd
  rcases hd with rfl | rfl | rfl
  · exact dep_tup.mpr h1
  · exact dep_tup.mpr h2
  · rw [dep_at]; exact Nat.zero_le _
theorem st_g {fs cs : List D} {m : Int} {S : Sto} (l1 : fs.length ≤ 100) (l2 : cs.length ≤ 100) (hm : m.natAbs ≤ 10 ^ 30) (h1 : ∀ d ∈ fs, gv S 0 d) (h2 : ∀ d ∈ cs, gv S 0 d) : gv S 0 (.tup [.tup fs, .tup cs, .int m]) := by
  refine gv_tup.mpr ⟨by simp, fun d hd => ?_⟩
  simp only [List.mem_cons, List.not_mem_nil, or_false] at hd
  rcases hd with rfl | rfl | rfl
  · exact gv_tup.mpr ⟨by omega, h1⟩
  · exact gv_tup.mpr ⟨by omega, h2⟩
  · exact gv_int.mpr (by omega)
end K10


namespace K10
open PySem L2 PyProof.Rows DL
def fineB (ks hs : List Hd) (w : Str) : Bool := (!decide (w = ("make" : Str)) || !ks.isEmpty) && (!decide (w = ("call" : Str)) || decide (1 < hs.length))
def sp__law_program : SpD := fun ds S Q _ => ∃ (p a : Addr) (n : Nat) (ws : List Str), ds = [.ref p, .int 0, .fl (ws.map D.str)] ∧ (∀ w ∈ ws, w ∈ w18) ∧ ("copy" : Str) ∈ ws ∧ ws.length ≤ 30 ∧ Spr S p a (n + 4000) ∧ ∀ ks ps S', PrOk ks ps → Spr S' p a n → Ofx p a S S' → Q (prD (.tup (ks.map hdD)) ps) S'
theorem ok__law_program {P : Program} {w : World} {K : PySem.W.Frag} {mg : Str → Option Value} {base : Heap} (T : Txt K w mg) (C__law_kinds : Cal P w K mg base 3 "_law_kinds" s__law_kinds ["deck", "fewest"] sp__law_kinds) (C__law_heads : Cal P w K mg base 3 "_law_heads" s__law_heads ["deck", "fewest"] sp__law_heads) (C__law_words : Cal P w K mg base 2 "_law_words" s__law_words ["deck", "count", "some"] sp__law_words) (C__law_draw : Cal P w K mg base 1 "_law_draw" s__law_draw ["deck", "many"] sp__law_draw) (C__law_row : Cal P w K mg base 3 "_law_row" s__law_row ["deck", "word", "kinds", "heads", "some", "size"] sp__law_row) (C__law_pick : Cal P w K mg base 2 "_law_pick" s__law_pick ["deck", "some"] sp__law_pick) {ff : Addr} {fd : FuncData} (F : Fun K "_law_program" "_law_program" s__law_program ff fd) (mf : mg "_law_program" = some (.ref ff)) : Cal P w K mg base 4 "_law_program" s__law_program ["deck", "fewest", "words"] sp__law_program := by
  refine ⟨ff, fd, okD F sc__law_program (fun ds S Q E h => ?len) (fun cdv A outer s H E ds S Q E' hcd hr h => ⟨_, (dss_cons (ds_asg (de_tup (da_cons (de_c C__law_kinds hr (da_cons (de_var 0) (da_cons (de_var 1) da_nil))) (da_cons (de_c C__law_heads hr (da_cons (de_var 0) (da_cons (de_var 1) da_nil))) (da_cons (de_lst da_nil) da_nil)))) (dg_tup (n := 3) rfl (dgs_cons (dg_name 3 sc__law_program.nd) (dgs_cons (dg_name 4 sc__law_program.nd) (dgs_cons (dg_name 5 sc__law_program.nd) dgs_nil)))))
      (dss_cons (ds_setLc 6 [("word", 7)] rfl sc__law_program.nd (di_lf (de_var 2)) (blkOk_by (N := ["deck", "fewest", "words", "kinds", "heads", "found", "fine", "word", "name", "parameters", "some", "size", "rows", "k"]) (sc := defScope s__law_program) (by decide +kernel)) (fun _ _ _ _ _ => (pg_name (i := 7) sc__law_program.nd rfl (Or.inl rfl) (Or.inr rfl))) (fun N => (tg_name (vs := [7]) (i := 7) (by decide))) (fun _ _ _ _ _ => pts_one (dw_and (dw_or (dt_cmp (od_ne hr) (de_var 7) de_str) (dw_or1 (dt_cmp (od_ne0 hr) (de_var 3) (de_tup da_nil)))).pt (dw_and1 (dw_or (dt_cmp (od_ne hr) (de_var 7) de_str) (dw_or1 (dt_cmp od_gt (de_callB cd_len (by rfl) T.nb_len (da_cons (de_var 4) da_nil)) de_int))).pt)).pt) (fun _ _ _ _ _ => (de_var 7)))
      (dss_cons (ds_for PassesOwn.never rfl (di_lf (de_var 4)) (dg_tup (n := 2) rfl (dgs_cons (dg_name 8 sc__law_program.nd) (dgs_cons (dg_name 9 sc__law_program.nd) dgs_nil))) (dss_cons (ds_set 10 sc__law_program.nd (de_op (od_add false) (de_callTy (cd_list false) (by rfl) T.nb_list (da_cons (de_var 9) da_nil)) (de_c C__law_words hr (da_cons (de_var 0) (da_cons (de_op (od_add false) de_int (de_c C__law_draw hr (da_cons (de_var 0) (da_cons de_int da_nil)))) (da_cons de_str da_nil))))))
      (dss_cons (ds_par 11 12 rfl sc__law_program.nd (da_cons (de_c C__law_draw hr (da_cons (de_var 0) (da_cons de_int da_nil))) (da_cons (de_lst da_nil) da_nil)))
      (dss_cons (ds_for PassesOwn.never rfl (di_range1 (by rfl) T.nb_range (da_cons (de_var 11) da_nil)) (dg_name 13 sc__law_program.nd) (dss_one (ds_expr (de_m PySem.F.plainAttrs_list PySem.F.slot_list_append PySem.F.type_list_append md_append (de_var 12) (da_cons (de_c C__law_row hr (da_cons (de_var 0) (da_cons (de_c C__law_pick hr (da_cons (de_var 0) (da_cons (de_var 6) da_nil))) (da_cons (de_var 3) (da_cons (de_var 4) (da_cons (de_var 10) (da_cons (de_var 11) da_nil))))))) da_nil)))))
      (dss_one (ds_expr (de_m PySem.F.plainAttrs_list PySem.F.slot_list_append PySem.F.type_list_append md_append (de_var 5) (da_cons (de_tup (da_cons (de_var 8) (da_cons (de_var 9) (da_cons (de_callTy cd_tuple (by rfl) T.nb_tuple (da_cons (de_var 12) da_nil)) da_nil)))) da_nil))))))))
      (dss_one (ds_ret (de_tup (da_cons (de_var 3) (da_cons (de_callTy cd_tuple (by rfl) T.nb_tuple (da_cons (de_var 5) da_nil)) da_nil)))))))), ?run⟩), F.binds (ps := ["deck", "fewest", "words"]) fun _ _ _ _ _ _ us hl => match us, hl with | [_, _, _], _ => rfl, mf, F⟩
  case len => obtain ⟨p, a, n, ws, rfl, _⟩ := h; rfl
  case run =>
    obtain ⟨p, a, n, ws, rfl, h⟩ := h
    simp only [dVar, dC, dOp, dUn, dChain, dTr, dB, dAnd, dOr, dNot, dIf, dAndV, dOrV, dNotV, dNil, dCons, dTup, dLst, dLf, dNext, dSeq, dBreak, dCont, dDrop, dRet, dRetN, dIfS, gdName, gdNil, gdCons, gdTup, gdSub, dAsg, dPar, dCall, dCallK, dCB, dM0, dM, dGet1, dGet2, dDk, dDt, dPart, dNoPart, dSlice, dAug, dYes, dSort2, revD, iTupD, iLstD, iLf, iLw, iRange1, iRange2, iRange3, iEnumD, iZipD, iZipMD, iStrD, dGix, dDc, dIsi, dSortSet, dLenSet, dDlit, gdLst, dFor, dWhile, dLc, dLcM, dFld, dFldSet, dFldAdd, dMeth, dMake, dPar3, dDisp, dPrs, dFsi, dGget, dKgt, dKgtL, dDz, iEnumMD, dCut, dTcut, wipeD, bodyE, startD, List.map_cons, List.map_nil, List.length_cons, List.length_nil, List.replicate_succ, List.replicate_zero, List.cons_append, List.nil_append, Nat.reduceAdd, Nat.reduceSub, Nat.zero_add, List.getElem?_cons_zero, List.getElem?_cons_succ, List.set_cons_zero, List.set_cons_succ, Option.some.injEq, exists_eq_left', exists_eq_left, if_true, sizeLine_eq, Nat.reduceLeDiff, Nat.reduceLT, Nat.zero_le, true_and, and_true, Bool.false_eq_true, if_false]
    obtain ⟨hw, hcp, w30, sp, q⟩ := h
    refine ⟨p, a, n + 3900, rfl, sp.mono (by omega), fun ks S1 k8 knd kok sp1 of1 => ⟨p, a, n + 3800, rfl, sp1.mono (by omega), fun hs S2 h6 hnd hhd hok sp2 of2 => ?_⟩⟩
    show ∀ F, S2 F = none → _
    intro F nF
    obtain ⟨fp, fa⟩ := sp2.ne nF
    refine ⟨_, rfl, rfl, _, _, rfl, _, _, rfl, _, _, rfl, rfl, _, rfl, ?_⟩
    refine lc_fs (fineB ks hs) (by omega) (fun W i w acc hx w1 w2 => ?_) ?_
    · have ec : w ≠ "call" → w ≠ "make" → fineB ks hs w = true := fun h1 h2 => by unfold fineB; rw [decide_eq_false h1, decide_eq_false h2]; rfl
      have em : w = "make" → ks ≠ [] → fineB ks hs w = true := fun h1 h2 => by
        subst h1
        unfold fineB
        rw [decide_eq_false (show ¬ (("make" : Str) = "call") by decide +kernel)]
        cases ks with
        | nil => exact absurd rfl h2
        | cons k ks => simp
      have en : w = "make" → ks = [] → fineB ks hs w = false := fun h1 h2 => by
        subst h1 h2
        unfold fineB
        simp
      have e1 : w = "call" → fineB ks hs w = decide (1 < hs.length) := fun h1 => by
        subst h1
        unfold fineB
        rw [decide_eq_false (show ¬ (("call" : Str) = "make") by decide +kernel)]
        simp
      refine eq_ss ⟨_, rfl, br2 (fun h => eq_ss ⟨_, rfl, br2 (fun h2 => w1 (ec (of_nxt h2) (of_nxt h))) fun h2 => len_sq rfl (it_of trivial ⟨_, rfl, br2 (fun h3 => w1 ?_) fun h3 => w2 ?_⟩)⟩) fun h => e0_t ⟨_, rfl, br2 (fun h4 => eq_ss ⟨_, rfl, br2 (fun h2 => w1 ?_) fun h2 => ?_⟩) fun h4 => w2 ?_⟩⟩
      · by_cases hc : w = "call"
        · rw [e1 hc]; exact decide_eq_true (by have := of_decide_eq_true h3; rw [List.length_map] at this; omega)
        · exact absurd (of_nxf h2) hc
      · rw [e1 (of_nxf h2)]; exact decide_eq_false (by have := of_decide_eq_false h3; rw [List.length_map] at this; omega)
      · exact em (of_nxf h) (fun e => by subst e; cases h4)
      · exact absurd ((of_nxf h).symm.trans (of_nxf h2)) (by decide +kernel)
      · exact en (of_nxf h) (by cases ks with | nil => rfl | cons k ks => cases h4)
    obtain ⟨fw, hfw⟩ : ∃ fw, fw = ws.filter (fineB ks hs) := ⟨_, rfl⟩
    have fw1 : ∀ w ∈ fw, w ∈ w18 ∧ (w = "make" → 0 < ks.length) ∧ (w = "call" → 1 < hs.length) := fun w h => by
      rw [hfw] at h
      obtain ⟨h1, h2⟩ := List.mem_filter.mp h
      unfold fineB at h2
      rw [Bool.and_eq_true] at h2
      refine ⟨hw w h1, fun e => ?_, fun e => ?_⟩
      · obtain ⟨h2, _⟩ := h2
        subst e
        cases ks with
        | nil => simp at h2
        | cons k ks => simp
      · obtain ⟨_, h2⟩ := h2
        subst e
        simpa using h2
    have fw0 : 0 < fw.length := by
      rw [hfw]
      refine List.length_pos_of_mem (a := ("copy" : Str)) (List.mem_filter.mpr ⟨hcp, ?_⟩)
      unfold fineB
      rw [decide_eq_false (show ¬ (("copy" : Str) = "make") by decide +kernel), decide_eq_false (show ¬ (("copy" : Str) = "call") by decide +kernel)]
      rfl
    have fw30 : fw.length ≤ 30 := by rw [hfw]; exact Nat.le_trans (List.length_filter_le _ _) w30
    rw [← hfw]
    clear hfw hw hcp w30
    have off2 := of1.trans of2
    refine ⟨_, rfl, fr_seq (fun i δ S' => ∃ (ps : List Pc) (r7 r8 r9 r10 r11 r12 r13 : Option D), δ = [some (.ref p), some (.int 0), some (.fl (ws.map D.str)), some (.tup (ks.map hdD)), some (.fl (hs.map hdD)), some (.ref F), some (.fl (fw.map D.str)), r7, r8, r9, r10, r11, r12, r13] ∧ i ≤ hs.length ∧ S' F = some (.lst (ps.map pcD)) ∧ ps.map (fun q => (q.1, q.2.1)) = hs.take i ∧ (∀ q ∈ ps, PcOk (hs.map (·.1)) q) ∧ Spr S' p a (n + 3700 - 400 * i) ∧ Ofx p a S2 S') ⟨[], _, _, _, _, _, _, _, rfl, Nat.zero_le _, up_same, rfl, fun q hq => (nomatch hq), (sp2.up fp fa).mono (by omega), Ofx.refl.up nF⟩ ?_ ?_⟩
    · rintro i x δ S3 hx ⟨ps, r7, r8, r9, r10, r11, r12, r13, rfl, hi, hF, hps, hok2, sp3, of3⟩
      obtain ⟨k, hk, rfl⟩ := map_at hx
      have hlt := (List.getElem?_eq_some_iff.mp hk).1
      obtain ⟨hk1, hk2, hk3⟩ := hok k (List.mem_of_getElem? hk)
      have lps : ps.length = i := by have := congrArg List.length hps; rw [List.length_map, List.length_take] at this; omega
      refine ⟨_, rfl, rfl, _, _, rfl, _, _, rfl, rfl, ?_⟩
      simp only [dVar, dC, dOp, dUn, dChain, dTr, dB, dAnd, dOr, dNot, dIf, dAndV, dOrV, dNotV, dNil, dCons, dTup, dLst, dLf, dNext, dSeq, dBreak, dCont, dDrop, dRet, dRetN, dIfS, gdName, gdNil, gdCons, gdTup, gdSub, dAsg, dPar, dCall, dCallK, dCB, dM0, dM, dGet1, dGet2, dDk, dDt, dPart, dNoPart, dSlice, dAug, dYes, dSort2, revD, iTupD, iLstD, iLf, iLw, iRange1, iRange2, iRange3, iEnumD, iZipD, iZipMD, iStrD, dGix, dDc, dIsi, dSortSet, dLenSet, dDlit, gdLst, dFor, dWhile, dLc, dLcM, dFld, dFldSet, dFldAdd, dMeth, dMake, dPar3, dDisp, dPrs, dFsi, dGget, dKgt, dKgtL, dDz, iEnumMD, dCut, dTcut, wipeD, bodyE, startD, List.map_cons, List.map_nil, List.length_cons, List.length_nil, List.replicate_succ, List.replicate_zero, List.cons_append, List.nil_append, Nat.reduceAdd, Nat.reduceSub, Nat.zero_add, List.getElem?_cons_zero, List.getElem?_cons_succ, List.set_cons_zero, List.set_cons_succ, Option.some.injEq, exists_eq_left', exists_eq_left, if_true, sizeLine_eq, Nat.reduceLeDiff, Nat.reduceLT, Nat.zero_le, true_and, and_true, Bool.false_eq_true, if_false]
      refine ⟨_, k.2.map D.str, rfl, rfl, brF rfl ⟨p, a, n + 3700 - 400 * i - 1, 4, rfl, by decide, by decide, sp3.mono (by omega), fun f S4 f0 f1 sp4 of4 => add_i ?_⟩⟩
      obtain ⟨f, rfl⟩ : ∃ j : Nat, f = j := ⟨f.toNat, by omega⟩
      refine ⟨p, a, n + 3700 - 400 * i - 10, 1 + f, v7, _, by rw [Int.natCast_add]; rfl, split_v7, by decide +kernel, by show 1 + f ≤ 7; omega, by decide, sp4.mono (by omega), fun zs S5 zl zm znd sp5 of5 => add_f rfl rfl (by rw [List.length_map, List.length_map, sizeLine_eq]; omega) ?_⟩
      rw [← List.map_append]
      obtain ⟨vs, hvs⟩ : ∃ vs, vs = k.2 ++ zs := ⟨_, rfl⟩
      have v0 : 0 < vs.length := by rw [hvs, List.length_append]; omega
      have v30 : vs.length ≤ 30 := by rw [hvs, List.length_append]; omega
      have vnm : ∀ z ∈ vs, z ∈ nm14 := fun z hz => by
        rw [hvs] at hz
        exact nm_all z (List.mem_append.mpr ((List.mem_append.mp hz).imp (hk3 z) (zm z)))
      rw [← hvs]
      refine ⟨p, a, n + 3700 - 400 * i - 11, 10, rfl, by decide, by decide, sp5.mono (by omega), fun m S6 m0 m1 sp6 of6 => ?_⟩
      obtain ⟨m, rfl⟩ : ∃ j : Nat, m = j := ⟨m.toNat, by omega⟩
      have of6 := (of4.trans of5).trans of6
      intro R nR
      obtain ⟨rp, ra⟩ := sp6.ne nR
      have hF6 : S6 F = some (.lst (ps.map pcD)) := by rw [of6 F fp fa]; exact hF
      have rF : F ≠ R := sne hF6 nR
      refine ⟨_, _, rfl, _, rfl, by omega, by omega, ?_⟩
      rw [Int.toNat_natCast]
      refine fr_rng (fun j δ S' => ∃ (rs : List Rw) (r7 r13 : Option D), δ = [some (.ref p), some (.int 0), some (.fl (ws.map D.str)), some (.tup (ks.map hdD)), some (.fl (hs.map hdD)), some (.ref F), some (.fl (fw.map D.str)), r7, some (.str k.1), some (ysD k.2), some (.fl (vs.map D.str)), some (.int (m : Nat)), some (.ref R), r13] ∧ j ≤ m ∧ S' R = some (.lst (rs.map Rw.d)) ∧ rs.length = j ∧ (∀ r ∈ rs, r.Ok m (hs.map (·.1)) ∧ ∀ x ∈ r.vs, x ∈ vs) ∧ Spr S' p a (n + 3700 - 400 * i - 15 - 35 * j) ∧ Off p a (up S6 R (.lst (rs.map Rw.d))) S') ⟨[], _, _, rfl, Nat.zero_le _, up_same, rfl, fun q hq => (nomatch hq), (sp6.up rp ra).mono (by omega), .refl⟩ ?_ ?_
      · rintro j δ S7 hj ⟨rs, r7, r13, rfl, hjm, hR, rl, rok, sp7, of7⟩
        simp only [dVar, dC, dOp, dUn, dChain, dTr, dB, dAnd, dOr, dNot, dIf, dAndV, dOrV, dNotV, dNil, dCons, dTup, dLst, dLf, dNext, dSeq, dBreak, dCont, dDrop, dRet, dRetN, dIfS, gdName, gdNil, gdCons, gdTup, gdSub, dAsg, dPar, dCall, dCallK, dCB, dM0, dM, dGet1, dGet2, dDk, dDt, dPart, dNoPart, dSlice, dAug, dYes, dSort2, revD, iTupD, iLstD, iLf, iLw, iRange1, iRange2, iRange3, iEnumD, iZipD, iZipMD, iStrD, dGix, dDc, dIsi, dSortSet, dLenSet, dDlit, gdLst, dFor, dWhile, dLc, dLcM, dFld, dFldSet, dFldAdd, dMeth, dMake, dPar3, dDisp, dPrs, dFsi, dGget, dKgt, dKgtL, dDz, iEnumMD, dCut, dTcut, wipeD, bodyE, startD, List.map_cons, List.map_nil, List.length_cons, List.length_nil, List.replicate_succ, List.replicate_zero, List.cons_append, List.nil_append, Nat.reduceAdd, Nat.reduceSub, Nat.zero_add, List.getElem?_cons_zero, List.getElem?_cons_succ, List.set_cons_zero, List.set_cons_succ, Option.some.injEq, exists_eq_left', exists_eq_left, if_true, sizeLine_eq, Nat.reduceLeDiff, Nat.reduceLT, Nat.zero_le, true_and, and_true, Bool.false_eq_true, if_false]
        refine ⟨ty_l hR, pick_s (n := n + 3700 - 400 * i - 15 - 35 * j - 1) fw0 fw30 (sp7.mono (by omega)) fun w S8 hw8 sp8 of8 => ?_⟩
        obtain ⟨w1, w2, w3⟩ := fw1 w hw8
        refine ⟨p, a, n + 3700 - 400 * i - 15 - 35 * (j + 1), ks, hs, vs, m, w, rfl, w1, w2, w3, by omega, by omega, fun k hk => (kok k hk).2.1, fun k hk => (hok k hk).2.1, v0, v30, by omega, sp8.mono (by omega), fun r S9 r1 r2 sp9 of9 => ?_⟩
        have hR9 : S9 R = some (.lst (rs.map Rw.d)) := by rw [of9 R rp ra, of8 R rp ra]; exact hR
        refine app_of hR9 (by rw [List.length_map, sizeLine_eq]; omega) ⟨rs ++ [r], _, _, rfl, hj, by rw [up_same, List.map_append]; rfl, by rw [List.length_append, rl]; rfl, fun q hq => ?_, sp9.up rp ra, fun b b1 b2 => ?_⟩
        · rcases List.mem_append.mp hq with h | h
          · exact rok q h
          · rw [List.mem_singleton.mp h]; exact ⟨r1, r2⟩
        · by_cases e : b = R
          · subst e; rw [up_same, up_same, List.map_append]; rfl
          · rw [up_ne e, of9 b b1 b2, of8 b b1 b2, of7 b b1 b2, up_ne e, up_ne e]
      · rintro j δ S7 hj ⟨rs, r7, r13, rfl, hjm, hR, rl, rok, sp7, of7⟩
        obtain rfl : j = m := by omega
        simp only [dVar, dC, dOp, dUn, dChain, dTr, dB, dAnd, dOr, dNot, dIf, dAndV, dOrV, dNotV, dNil, dCons, dTup, dLst, dLf, dNext, dSeq, dBreak, dCont, dDrop, dRet, dRetN, dIfS, gdName, gdNil, gdCons, gdTup, gdSub, dAsg, dPar, dCall, dCallK, dCB, dM0, dM, dGet1, dGet2, dDk, dDt, dPart, dNoPart, dSlice, dAug, dYes, dSort2, revD, iTupD, iLstD, iLf, iLw, iRange1, iRange2, iRange3, iEnumD, iZipD, iZipMD, iStrD, dGix, dDc, dIsi, dSortSet, dLenSet, dDlit, gdLst, dFor, dWhile, dLc, dLcM, dFld, dFldSet, dFldAdd, dMeth, dMake, dPar3, dDisp, dPrs, dFsi, dGget, dKgt, dKgtL, dDz, iEnumMD, dCut, dTcut, wipeD, bodyE, startD, List.map_cons, List.map_nil, List.length_cons, List.length_nil, List.replicate_succ, List.replicate_zero, List.cons_append, List.nil_append, Nat.reduceAdd, Nat.reduceSub, Nat.zero_add, List.getElem?_cons_zero, List.getElem?_cons_succ, List.set_cons_zero, List.set_cons_succ, Option.some.injEq, exists_eq_left', exists_eq_left, if_true, sizeLine_eq, Nat.reduceLeDiff, Nat.reduceLT, Nat.zero_le, true_and, and_true, Bool.false_eq_true, if_false]
        have hF7 : S7 F = some (.lst (ps.map pcD)) := by rw [of7 F fp fa, up_ne rF]; exact hF6
        refine ⟨ty_l hF7, tpl_l (ls_l hR) (app_of hF7 (by rw [List.length_map, sizeLine_eq]; omega) ?_)⟩
        refine ⟨ps ++ [(k.1, k.2, rs)], _, _, _, _, _, _, _, rfl, hlt, by rw [up_same, List.map_append]; rfl, by rw [List.map_append, hps, tk1 hk]; rfl, fun q hq => ?_, (sp7.up fp fa).mono (by omega), ?_⟩
        · rcases List.mem_append.mp hq with h | h
          · exact hok2 q h
          · rw [List.mem_singleton.mp h]
            refine ⟨hk2, by show rs.length ≤ 20; omega, fun r hr => by show r.Ok rs.length _; rw [rl]; exact (rok r hr).1, fun x hx => ?_⟩
            have hx : x ∈ vars k.2 rs := hx
            unfold vars at hx
            refine vnm x ?_
            rcases List.mem_append.mp hx with h | h
            · rw [hvs]; exact List.mem_append_left _ h
            · obtain ⟨r, hr, hv⟩ := List.mem_flatMap.mp h
              exact (rok r hr).2 x hv
        · intro b o b1 b2 e
          have e3 := of3 b o b1 b2 e
          have bF : b ≠ F := fun z => by subst z; rw [nF] at e; cases e
          have e6 : S6 b = some o := by rw [of6 b b1 b2]; exact e3
          have bR : b ≠ R := fun z => by subst z; rw [nR] at e6; cases e6
          rw [up_ne bF, of7 b b1 b2, up_ne bR]
          exact e6
    · rintro i δ S3 hi ⟨ps, r7, r8, r9, r10, r11, r12, r13, rfl, hi2, hF, hps, hok2, sp3, of3⟩
      rw [List.length_map] at hi
      rw [List.take_of_length_le hi] at hps
      have en : ps.map (·.1) = hs.map (·.1) := by rw [← hps, List.map_map]; rfl
      have hl : ps.length = hs.length := by have := congrArg List.length hps; rwa [List.length_map] at this
      have hmain : ("main" : Str) ∈ hs.map (·.1) := by
        cases hs with
        | nil => cases hhd
        | cons k r => cases hhd; exact List.mem_cons_self
      refine ⟨_, rfl, _, rfl, tpl_l (ls_l hF) (rt_of (q ks ps S3 ⟨by omega, by rw [en]; exact hmain, fun x hx => ?_, fun q hq => by rw [en]; exact hok2 q hq, fun q hq => ?_, by omega, fun k hk => ⟨(kok k hk).1, (kok k hk).2.1, (kok k hk).2.2.2⟩, knd, fun k hk => (kok k hk).2.2.1⟩ (sp3.mono (by omega)) (off2.x.trans of3)))⟩
      · rw [en] at hx
        obtain ⟨k, hk, rfl⟩ := List.mem_map.mp hx
        exact (hok k hk).1
      · cases hs with
        | nil => cases hhd
        | cons k r =>
          cases ps with
          | nil => cases hl
          | cons c cs =>
            cases hhd
            rw [List.map_cons] at hps
            have h1 := (List.cons.inj hps).1
            have e1 : c.1 = ("main" : Str) := congrArg Prod.fst h1
            have e2 : c.2.1 = [] := congrArg Prod.snd h1
            unfold pcOf at hq
            rw [List.filter_cons, if_pos (by simpa using e1)] at hq
            cases hq
            exact e2
end K10


namespace K10
open PySem L2 PyProof.Rows DL
def sp__law_value : SpD := fun ds S Q _ => ∃ (p a : Addr) (n : Nat) (y : D) (ns : List Int), ds = [.ref p, y] ∧ (y = .fl (ns.map D.int) ∨ ∃ b, y = .ref b ∧ b ≠ p ∧ b ≠ a ∧ S b = some (.lst (ns.map D.int))) ∧ ns.length < 1000000 ∧ Spr S p a (n + 4) ∧ ∀ d S', Vl ns d → Spr S' p a n → Off p a S S' → Q d S'
theorem ok__law_value {P : Program} {w : World} {K : PySem.W.Frag} {mg : Str → Option Value} {base : Heap} (T : Txt K w mg) (C__law_draw : Cal P w K mg base 1 "_law_draw" s__law_draw ["deck", "many"] sp__law_draw) (C__law_number : Cal P w K mg base 2 "_law_number" s__law_number ["deck"] sp__law_number) (C__law_pick : Cal P w K mg base 2 "_law_pick" s__law_pick ["deck", "some"] sp__law_pick) {ff : Addr} {fd : FuncData} (F : Fun K "_law_value" "_law_value" s__law_value ff fd) (mf : mg "_law_value" = some (.ref ff)) : Cal P w K mg base 3 "_law_value" s__law_value ["deck", "numbers"] sp__law_value := by
  refine ⟨ff, fd, okD F sc__law_value (fun ds S Q E h => ?len) (fun cdv A outer s H E ds S Q E' hcd hr h => ⟨_, (dss_cons (ds_set 2 sc__law_value.nd (de_c C__law_draw hr (da_cons (de_var 0) (da_cons de_int da_nil))))
      (dss_cons (ds_if (dw_and (dt_cmp od_gt (de_var 2) de_int) (dw_and1 (dt_cmp (od_ne0 hr) (de_var 1) (de_lf da_nil)))).pt (dss_one (ds_ret (de_tup (da_cons de_str (da_cons (de_c C__law_pick hr (da_cons (de_var 0) (da_cons (de_var 1) da_nil))) da_nil))))) dss_nil)
      (dss_one (ds_ret (de_ifExp (dt_cmp (od_eq hr) (de_var 2) de_int) de_non (de_c C__law_number hr (da_cons (de_var 0) da_nil))))))), ?run⟩), F.binds (ps := ["deck", "numbers"]) fun _ _ _ _ _ _ us hl => match us, hl with | [_, _], _ => rfl, mf, F⟩
  case len => obtain ⟨p, a, n, y, ns, rfl, _⟩ := h; rfl
  case run =>
    obtain ⟨p, a, n, y, ns, rfl, h⟩ := h
    simp only [dVar, dC, dOp, dUn, dChain, dTr, dB, dAnd, dOr, dNot, dIf, dAndV, dOrV, dNotV, dNil, dCons, dTup, dLst, dLf, dNext, dSeq, dBreak, dCont, dDrop, dRet, dRetN, dIfS, gdName, gdNil, gdCons, gdTup, gdSub, dAsg, dPar, dCall, dCallK, dCB, dM0, dM, dGet1, dGet2, dDk, dDt, dPart, dNoPart, dSlice, dAug, dYes, dSort2, revD, iTupD, iLstD, iLf, iLw, iRange1, iRange2, iRange3, iEnumD, iZipD, iZipMD, iStrD, dGix, dDc, dIsi, dSortSet, dLenSet, dDlit, gdLst, dFor, dWhile, dLc, dLcM, dFld, dFldSet, dFldAdd, dMeth, dMake, dPar3, dDisp, dPrs, dFsi, dGget, dKgt, dKgtL, dDz, iEnumMD, dCut, dTcut, wipeD, bodyE, startD, List.map_cons, List.map_nil, List.length_cons, List.length_nil, List.replicate_succ, List.replicate_zero, List.cons_append, List.nil_append, Nat.reduceAdd, Nat.reduceSub, Nat.zero_add, List.getElem?_cons_zero, List.getElem?_cons_succ, List.set_cons_zero, List.set_cons_succ, Option.some.injEq, exists_eq_left', exists_eq_left, if_true, sizeLine_eq, Nat.reduceLeDiff, Nat.reduceLT, Nat.zero_le, true_and, and_true, Bool.false_eq_true, if_false]
    obtain ⟨hy, nl, sp, q⟩ := h
    refine ⟨p, a, n + 3, 5, rfl, by decide, by decide, sp, fun w S1 w0 w1 sp1 of1 => ?_⟩
    have hy1 : ∀ S', Off p a S S' → lsOf S' y = some (ns.map D.int) := fun S' o => by
      rcases hy with rfl | ⟨b, rfl, b1, b2, hb⟩
      · rfl
      · exact ls_l (by rw [o b b1 b2]; exact hb)
    have two : ∃ x, D.int w = D.int x := ⟨w, rfl⟩
    have last : eqD false (.int w) (.int 0) S1 fun x S1 => ∃ c, x = D.bl c ∧ if c = true then ∃ d1 S1_1, VW D.non S1 d1 S1_1 ∧ Q d1 S1_1 else sp__law_number [.ref p] S1 (fun d S' => ∃ d1 S1, VW d S' d1 S1 ∧ Q d1 S1) X0 := ⟨_, rfl, br2 (fun _ => rt_of (q .non S1 .non (sp1.mono (by omega)) of1)) fun _ => ⟨p, a, n, rfl, sp1.mono (by omega), fun i S2 i0 i1 sp2 of2 => rt_of (q (.int i) S2 (.num i i0 i1) sp2 (of1.trans of2))⟩⟩
    refine it_of trivial ⟨_, rfl, br2 (fun h => e0_l (hy1 S1 of1) ⟨_, rfl, br2 (fun h2 => ?_) fun h2 => last⟩) fun h => last⟩
    have h0 : 0 < ns.length := by
      cases ns with
      | nil => cases h2
      | cons x r => simp
    refine ⟨p, a, n, y, ns.map D.int, rfl, ?_, by simpa using h0, by rw [List.length_map]; exact nl, sp1.mono (by omega), fun d S2 hd sp2 of2 => ?_⟩
    · rcases hy with rfl | ⟨b, rfl, b1, b2, hb⟩
      · exact .inl rfl
      · exact .inr (.inr ⟨b, rfl, b1, b2, by rw [of1 b b1 b2]; exact hb⟩)
    · obtain ⟨i, hi, rfl⟩ := List.mem_map.mp hd
      exact rt_of (q _ S2 (.cell i hi) sp2 (of1.trans of2))
def sp__law_cells : SpD := fun ds S Q _ => ∃ (p a : Addr) (n : Nat) (ks : List Hd), ds = [.ref p, .tup (ks.map hdD)] ∧ ks.length ≤ 10 ∧ (ks.map (·.1)).Nodup ∧ (∀ k ∈ ks, HdOk k) ∧ Spr S p a (n + 300) ∧ ∀ cs ns last S', ClOk ks cs ns last → cs.length ≤ 6 → last ≤ 100 → Spr S' p a n → Ofx p a S S' → Q (.tup cs) S'
theorem ok__law_cells {P : Program} {w : World} {K : PySem.W.Frag} {mg : Str → Option Value} {base : Heap} (T : Txt K w mg) (C__law_draw : Cal P w K mg base 1 "_law_draw" s__law_draw ["deck", "many"] sp__law_draw) (C__law_pick : Cal P w K mg base 2 "_law_pick" s__law_pick ["deck", "some"] sp__law_pick) (C__law_value : Cal P w K mg base 3 "_law_value" s__law_value ["deck", "numbers"] sp__law_value) {ff : Addr} {fd : FuncData} (F : Fun K "_law_cells" "_law_cells" s__law_cells ff fd) (mf : mg "_law_cells" = some (.ref ff)) : Cal P w K mg base 4 "_law_cells" s__law_cells ["deck", "kinds"] sp__law_cells := by
  refine ⟨ff, fd, okD F sc__law_cells (fun ds S Q E h => ?len) (fun cdv A outer s H E ds S Q E' hcd hr h => ⟨_, (dss_cons (ds_par3 2 3 4 rfl sc__law_cells.nd (da_cons (de_lst da_nil) (da_cons (de_lst da_nil) (da_cons (de_un ud_neg de_int) da_nil))))
      (dss_cons (ds_for PassesOwn.never rfl (di_range1 (by rfl) T.nb_range (da_cons (de_op od_mul (de_c C__law_draw hr (da_cons (de_var 0) (da_cons de_int da_nil))) (de_callTy cd_int1 (by rfl) T.nb_int (da_cons (de_cmp (od_ne0 hr) (de_var 1) (de_tup da_nil)) da_nil))) da_nil)) (dg_name 5 sc__law_cells.nd) (dss_cons (ds_par 6 7 rfl sc__law_cells.nd (da_cons (de_c C__law_pick hr (da_cons (de_var 0) (da_cons (de_var 1) da_nil))) (da_cons (de_lst da_nil) da_nil)))
      (dss_cons (ds_for PassesOwn.never rfl (di_tup (de_ix (xd_ix hr) (de_var 6) de_int)) (dg_name 8 sc__law_cells.nd) (dss_one (ds_if (dt_cmp od_gt (de_c C__law_draw hr (da_cons (de_var 0) (da_cons de_int da_nil))) de_int) (dss_one (ds_expr (de_m PySem.F.plainAttrs_list PySem.F.slot_list_append PySem.F.type_list_append md_append (de_var 7) (da_cons (de_tup (da_cons (de_var 8) (da_cons (de_c C__law_value hr (da_cons (de_var 0) (da_cons (de_var 3) da_nil))) da_nil))) da_nil)))) dss_nil)))
      (dss_cons (ds_set 4 sc__law_cells.nd (de_op (od_add false) (de_op (od_add false) (de_var 4) de_int) (de_ix (xd_ix hr) (de_lf (da_cons de_int (da_cons de_int (da_cons de_int (da_cons de_int da_nil))))) (de_c C__law_draw hr (da_cons (de_var 0) (da_cons de_int da_nil))))))
      (dss_cons (ds_expr (de_m PySem.F.plainAttrs_list PySem.F.slot_list_append PySem.F.type_list_append md_append (de_var 3) (da_cons (de_var 4) da_nil)))
      (dss_one (ds_expr (de_m PySem.F.plainAttrs_list PySem.F.slot_list_append PySem.F.type_list_append md_append (de_var 2) (da_cons (de_tup (da_cons (de_var 4) (da_cons (de_ix (xd_ix hr) (de_var 6) de_int) (da_cons (de_callTy cd_tuple (by rfl) T.nb_tuple (da_cons (de_var 7) da_nil)) da_nil)))) da_nil)))))))))
      (dss_one (ds_ret (de_callTy cd_tuple (by rfl) T.nb_tuple (da_cons (de_var 2) da_nil)))))), ?run⟩), F.binds (ps := ["deck", "kinds"]) fun _ _ _ _ _ _ us hl => match us, hl with | [_, _], _ => rfl, mf, F⟩
  case len => obtain ⟨p, a, n, ks, rfl, _⟩ := h; rfl
  case run =>
    obtain ⟨p, a, n, ks, rfl, h⟩ := h
    simp only [dVar, dC, dOp, dUn, dChain, dTr, dB, dAnd, dOr, dNot, dIf, dAndV, dOrV, dNotV, dNil, dCons, dTup, dLst, dLf, dNext, dSeq, dBreak, dCont, dDrop, dRet, dRetN, dIfS, gdName, gdNil, gdCons, gdTup, gdSub, dAsg, dPar, dCall, dCallK, dCB, dM0, dM, dGet1, dGet2, dDk, dDt, dPart, dNoPart, dSlice, dAug, dYes, dSort2, revD, iTupD, iLstD, iLf, iLw, iRange1, iRange2, iRange3, iEnumD, iZipD, iZipMD, iStrD, dGix, dDc, dIsi, dSortSet, dLenSet, dDlit, gdLst, dFor, dWhile, dLc, dLcM, dFld, dFldSet, dFldAdd, dMeth, dMake, dPar3, dDisp, dPrs, dFsi, dGget, dKgt, dKgtL, dDz, iEnumMD, dCut, dTcut, wipeD, bodyE, startD, List.map_cons, List.map_nil, List.length_cons, List.length_nil, List.replicate_succ, List.replicate_zero, List.cons_append, List.nil_append, Nat.reduceAdd, Nat.reduceSub, Nat.zero_add, List.getElem?_cons_zero, List.getElem?_cons_succ, List.set_cons_zero, List.set_cons_succ, Option.some.injEq, exists_eq_left', exists_eq_left, if_true, sizeLine_eq, Nat.reduceLeDiff, Nat.reduceLT, Nat.zero_le, true_and, and_true, Bool.false_eq_true, if_false]
    obtain ⟨kl, knd, kok, sp, q⟩ := h
    intro F nF N nN
    obtain ⟨fp, fa⟩ := sp.ne nF
    obtain ⟨nF', nN'⟩ := up_non nN
    obtain ⟨np, na⟩ := sp.ne nN'
    refine neg_i ⟨_, _, _, rfl, p, a, n + 290, 7, rfl, by decide, by decide, ((sp.up fp fa).up np na).mono (by omega), fun j S1 j0 j1 sp1 of1 => e0_t ?_⟩
    obtain ⟨j, rfl⟩ : ∃ j' : Nat, j = j' := ⟨j.toNat, by omega⟩
    obtain ⟨u, hu, hu0⟩ : ∃ u : Nat, (if (true ^^ (List.map hdD ks).isEmpty) = true then (1 : Int) else 0) = (u : Nat) ∧ (0 < u → 0 < ks.length) ∧ u ≤ 1 := by
      cases ks with
      | nil => exact ⟨0, rfl, fun h => absurd h (by decide), by decide⟩
      | cons k r => exact ⟨1, rfl, fun _ => by simp, by decide⟩
    refine .inl ⟨_, rfl, ?_⟩
    rw [hu]
    obtain ⟨m, hm, hm6, hm0⟩ : ∃ m : Nat, (j : Int) * (u : Nat) = (m : Nat) ∧ m ≤ 6 ∧ (0 < m → 0 < ks.length) := by
      have : u = 0 ∨ u = 1 := by omega
      rcases this with rfl | rfl
      · exact ⟨0, by simp, by decide, fun h => absurd h (by decide)⟩
      · exact ⟨j, by simp, by omega, fun _ => hu0.1 (by decide)⟩
    refine it_of (cmul1 (by omega) (by omega)) ⟨_, rfl, by omega, by omega, ?_⟩
    rw [hm, Int.toNat_natCast]
    have of0 : Ofx p a S S1 := ((Ofx.refl.up nF).up nN).trans of1.x
    refine fr_rng (fun i δ S' => ∃ (cs : List D) (ns : List Int) (last : Int) (r5 r6 r7 r8 : Option D), δ = [some (.ref p), some (.tup (ks.map hdD)), some (.ref F), some (.ref N), some (.int last), r5, r6, r7, r8] ∧ i ≤ m ∧ S' F = some (.lst cs) ∧ S' N = some (.lst (ns.map D.int)) ∧ ClOk ks cs ns last ∧ cs.length = i ∧ last ≤ 6 * (i : Nat) ∧ Spr S' p a (n + 250 - 35 * i) ∧ Ofx p a S S') ⟨[], [], -1, _, _, _, _, rfl, Nat.zero_le _, by rw [of1 F fp fa, up_ne nF'.symm, up_same], by rw [of1 N np na, up_same]; rfl, ClOk.nil, rfl, by decide, sp1.mono (by omega), of0⟩ ?_ ?_
    · rintro i δ S2 hi ⟨cs, ns, last, r5, r6, r7, r8, rfl, _, hF, hN, cl, csl, ll, sp2, of2⟩
      simp only [dVar, dC, dOp, dUn, dChain, dTr, dB, dAnd, dOr, dNot, dIf, dAndV, dOrV, dNotV, dNil, dCons, dTup, dLst, dLf, dNext, dSeq, dBreak, dCont, dDrop, dRet, dRetN, dIfS, gdName, gdNil, gdCons, gdTup, gdSub, dAsg, dPar, dCall, dCallK, dCB, dM0, dM, dGet1, dGet2, dDk, dDt, dPart, dNoPart, dSlice, dAug, dYes, dSort2, revD, iTupD, iLstD, iLf, iLw, iRange1, iRange2, iRange3, iEnumD, iZipD, iZipMD, iStrD, dGix, dDc, dIsi, dSortSet, dLenSet, dDlit, gdLst, dFor, dWhile, dLc, dLcM, dFld, dFldSet, dFldAdd, dMeth, dMake, dPar3, dDisp, dPrs, dFsi, dGget, dKgt, dKgtL, dDz, iEnumMD, dCut, dTcut, wipeD, bodyE, startD, List.map_cons, List.map_nil, List.length_cons, List.length_nil, List.replicate_succ, List.replicate_zero, List.cons_append, List.nil_append, Nat.reduceAdd, Nat.reduceSub, Nat.zero_add, List.getElem?_cons_zero, List.getElem?_cons_succ, List.set_cons_zero, List.set_cons_succ, Option.some.injEq, exists_eq_left', exists_eq_left, if_true, sizeLine_eq, Nat.reduceLeDiff, Nat.reduceLT, Nat.zero_le, true_and, and_true, Bool.false_eq_true, if_false]
      refine ⟨p, a, n + 250 - 35 * i - 1, _, _, rfl, .inr (.inl rfl), by rw [List.length_map]; exact hm0 (by omega), by rw [List.length_map]; omega, sp2.mono (by omega), fun d S3 hd sp3 of3 => ?_⟩
      obtain ⟨k, hk, rfl⟩ := List.mem_map.mp hd
      obtain ⟨ksh, k4, knd2, fsh⟩ := kok k hk
      intro P nP
      obtain ⟨pp, pa⟩ := sp3.ne nP
      have hF3 : S3 F = some (.lst cs) := by rw [of3 F fp fa]; exact hF
      have hN3 : S3 N = some (.lst (ns.map D.int)) := by rw [of3 N np na]; exact hN
      have fP : F ≠ P := sne hF3 nP
      have nP2 : N ≠ P := sne hN3 nP
      refine ⟨_, _, rfl, ix_sq rfl rfl (at_n (i := 1) rfl) ⟨_, .inl rfl, ?_⟩⟩
      have nl : ns.length < 1000000 := by rw [cl.l]; omega
      refine fr_seq (fun j δ S' => ∃ (qs : List (Str × D)) (r8 : Option D), δ = [some (.ref p), some (.tup (ks.map hdD)), some (.ref F), some (.ref N), some (.int last), some (.int (0 + (i : Nat))), some (hdD k), some (.ref P), r8] ∧ j ≤ k.2.length ∧ S' P = some (.lst (qs.map pairD)) ∧ (∀ q ∈ qs, Vl ns q.2) ∧ (qs.map (·.1)).Sublist (k.2.take j) ∧ Spr S' p a (n + 250 - 35 * i - 2 - 5 * j) ∧ Off p a (up S3 P (.lst (qs.map pairD))) S') ⟨[], _, rfl, Nat.zero_le _, up_same, (fun q hq => nomatch hq), List.nil_sublist _, (sp3.up pp pa).mono (by omega), .refl⟩ ?_ ?_
      · rintro j x δ S4 hx ⟨qs, r8, rfl, _, hP, hv, hs, sp4, of4⟩
        obtain ⟨f, hf, rfl⟩ := map_at hx
        have hlt := (List.getElem?_eq_some_iff.mp hf).1
        simp only [dVar, dC, dOp, dUn, dChain, dTr, dB, dAnd, dOr, dNot, dIf, dAndV, dOrV, dNotV, dNil, dCons, dTup, dLst, dLf, dNext, dSeq, dBreak, dCont, dDrop, dRet, dRetN, dIfS, gdName, gdNil, gdCons, gdTup, gdSub, dAsg, dPar, dCall, dCallK, dCB, dM0, dM, dGet1, dGet2, dDk, dDt, dPart, dNoPart, dSlice, dAug, dYes, dSort2, revD, iTupD, iLstD, iLf, iLw, iRange1, iRange2, iRange3, iEnumD, iZipD, iZipMD, iStrD, dGix, dDc, dIsi, dSortSet, dLenSet, dDlit, gdLst, dFor, dWhile, dLc, dLcM, dFld, dFldSet, dFldAdd, dMeth, dMake, dPar3, dDisp, dPrs, dFsi, dGget, dKgt, dKgtL, dDz, iEnumMD, dCut, dTcut, wipeD, bodyE, startD, List.map_cons, List.map_nil, List.length_cons, List.length_nil, List.replicate_succ, List.replicate_zero, List.cons_append, List.nil_append, Nat.reduceAdd, Nat.reduceSub, Nat.zero_add, List.getElem?_cons_zero, List.getElem?_cons_succ, List.set_cons_zero, List.set_cons_succ, Option.some.injEq, exists_eq_left', exists_eq_left, if_true, sizeLine_eq, Nat.reduceLeDiff, Nat.reduceLT, Nat.zero_le, true_and, and_true, Bool.false_eq_true, if_false]
        have tk : k.2.take (j + 1) = k.2.take j ++ [f] := tk1 hf
        refine ⟨p, a, n + 250 - 35 * i - 2 - 5 * j - 1, 4, rfl, by decide, by decide, sp4.mono (by omega), fun w S5 w0 w1 sp5 of5 => it_of trivial ⟨_, rfl, br2 (fun _ => ?_) fun _ => ?_⟩⟩
        · have hP5 : S5 P = some (.lst (qs.map pairD)) := by rw [of5 P pp pa]; exact hP
          have hN5 : S5 N = some (.lst (ns.map D.int)) := by rw [of5 N np na, of4 N np na, up_ne nP2]; exact hN3
          refine ⟨ty_l hP5, p, a, n + 250 - 35 * i - 2 - 5 * (j + 1), _, ns, rfl, .inr ⟨N, rfl, np, na, hN5⟩, nl, sp5.mono (by omega), fun d S6 hd sp6 of6 => ?_⟩
          have ql : qs.length ≤ 4 := by have := hs.length_le; rw [List.length_map, List.length_take] at this; omega
          refine app_of (by rw [of6 P pp pa]; exact hP5) (by rw [List.length_map, sizeLine_eq]; omega) ⟨qs ++ [(f, d)], _, rfl, hlt, by rw [up_same, List.map_append]; rfl, fun q hq => ?_, ?_, sp6.up pp pa, fun b b1 b2 => ?_⟩
          · rcases List.mem_append.mp hq with h | h
            · exact hv q h
            · rw [List.mem_singleton.mp h]; exact hd
          · rw [tk, List.map_append]; exact hs.append (List.Sublist.refl _)
          · by_cases e : b = P
            · subst e; rw [up_same, up_same, List.map_append]; rfl
            · rw [up_ne e, of6 b b1 b2, of5 b b1 b2, of4 b b1 b2, up_ne e, up_ne e]
        · exact ⟨qs, _, rfl, hlt, by rw [of5 P pp pa]; exact hP, hv, by rw [tk]; exact hs.trans (List.sublist_append_left _ _), sp5.mono (by omega), of4.trans of5⟩
      · rintro j δ S4 hj ⟨qs, r8, rfl, hjl, hP, hv, hs, sp4, of4⟩
        rw [List.length_map] at hj
        rw [List.take_of_length_le hj] at hs
        simp only [dVar, dC, dOp, dUn, dChain, dTr, dB, dAnd, dOr, dNot, dIf, dAndV, dOrV, dNotV, dNil, dCons, dTup, dLst, dLf, dNext, dSeq, dBreak, dCont, dDrop, dRet, dRetN, dIfS, gdName, gdNil, gdCons, gdTup, gdSub, dAsg, dPar, dCall, dCallK, dCB, dM0, dM, dGet1, dGet2, dDk, dDt, dPart, dNoPart, dSlice, dAug, dYes, dSort2, revD, iTupD, iLstD, iLf, iLw, iRange1, iRange2, iRange3, iEnumD, iZipD, iZipMD, iStrD, dGix, dDc, dIsi, dSortSet, dLenSet, dDlit, gdLst, dFor, dWhile, dLc, dLcM, dFld, dFldSet, dFldAdd, dMeth, dMake, dPar3, dDisp, dPrs, dFsi, dGget, dKgt, dKgtL, dDz, iEnumMD, dCut, dTcut, wipeD, bodyE, startD, List.map_cons, List.map_nil, List.length_cons, List.length_nil, List.replicate_succ, List.replicate_zero, List.cons_append, List.nil_append, Nat.reduceAdd, Nat.reduceSub, Nat.zero_add, List.getElem?_cons_zero, List.getElem?_cons_succ, List.set_cons_zero, List.set_cons_succ, Option.some.injEq, exists_eq_left', exists_eq_left, if_true, sizeLine_eq, Nat.reduceLeDiff, Nat.reduceLT, Nat.zero_le, true_and, and_true, Bool.false_eq_true, if_false]
        refine add_i ⟨p, a, n + 250 - 35 * (i + 1), 4, rfl, by decide, by decide, sp4.mono (by omega), fun w S5 w0 w1 sp5 of5 => ?_⟩
        obtain ⟨w, rfl⟩ : ∃ j' : Nat, w = j' := ⟨w.toNat, by omega⟩
        obtain ⟨g, hg, g5⟩ : ∃ g : Nat, atI [D.int 0, .int 0, .int 1, .int 5] (w : Nat) = some (.int (g : Nat)) ∧ g ≤ 5 := by
          have : w = 0 ∨ w = 1 ∨ w = 2 ∨ w = 3 := by omega
          rcases this with rfl | rfl | rfl | rfl
          · exact ⟨0, at_n (i := 0) rfl, by decide⟩
          · exact ⟨0, at_n (i := 1) rfl, by decide⟩
          · exact ⟨1, at_n (i := 2) rfl, by decide⟩
          · exact ⟨5, at_n (i := 3) rfl, by decide⟩
        have h5 : ∀ b o, b ≠ p → b ≠ a → b ≠ P → S2 b = some o → S5 b = some o := fun b o b1 b2 b3 e => by
          rw [of5 b b1 b2, of4 b b1 b2, up_ne b3, of3 b b1 b2]; exact e
        have hN5 := h5 N _ np na nP2 hN
        refine ix_sq rfl rfl hg (add_i ⟨ty_l hN5, app_of hN5 (by rw [List.length_map, sizeLine_eq]; omega) ⟨ty_l (by rw [up_ne nF'.symm]; exact h5 F _ fp fa fP hF), ix_sq rfl rfl at_0 (tpl_l (ls_l (by rw [up_ne nP2.symm, of5 P pp pa]; exact hP)) (app_of (by rw [up_ne nF'.symm]; exact h5 F _ fp fa fP hF) (by rw [sizeLine_eq]; omega) ?_))⟩⟩)
        have lo := cl.lo
        refine ⟨cs ++ [clD (last + 1 + (g : Nat)) k.1 qs], ns ++ [last + 1 + (g : Nat)], _, _, _, _, _, rfl, hi, up_same, by rw [up_ne nF', up_same, List.map_append]; rfl, cl.snoc knd hk knd2 hv hs (by omega) (by omega) k4 ksh fsh, by rw [List.length_append, csl]; rfl, by omega, (sp5.up np na).up fp fa, ?_⟩
        intro b o b1 b2 e
        have e2 := of2 b o b1 b2 e
        have e3 : S3 b = some o := by rw [of3 b b1 b2]; exact e2
        have bP : b ≠ P := sne e3 nP
        have bF : b ≠ F := sne e nF
        have bN : b ≠ N := sne e nN'
        rw [up_ne bF, up_ne bN]
        exact h5 b o b1 b2 bP e2
    · rintro i δ S2 hi ⟨cs, ns, last, r5, r6, r7, r8, rfl, him, hF, hN, cl, csl, ll, sp2, of2⟩
      exact ⟨_, rfl, tpl_l (ls_l hF) (rt_of (q cs ns last S2 cl (by omega) (by omega) (sp2.mono (by omega)) of2))⟩
end K10


namespace K10
open PySem L2 PyProof.Rows DL
theorem rwsD_len {rs : List Rw} : (List.map Rw.d rs).length = rs.length := List.length_map ..
def sp__law_chain : SpD := fun ds S Q _ => ∃ (p a : Addr) (n : Nat) (ks : List Hd) (ps : List Pc), ds = [.ref p, prD (.tup (ks.map hdD)) ps] ∧ PrOk ks ps ∧ Spr S p a (n + 20) ∧ ∀ l x F S', Ch ps l x → l.length ≤ 6 → S F = none → S' F = some (.lst (l.map sptD)) → F ≠ p → F ≠ a → Spr S' p a n → Ofx p a S S' → Q (.tup [.ref F, .str x]) S'
theorem ok__law_chain {P : Program} {w : World} {K : PySem.W.Frag} {mg : Str → Option Value} {base : Heap} (T : Txt K w mg) (C__law_draw : Cal P w K mg base 1 "_law_draw" s__law_draw ["deck", "many"] sp__law_draw) (C__law_rows : Cal P w K mg base 1 "_law_rows" s__law_rows ["code", "name"] sp__law_rows) (C__law_pick : Cal P w K mg base 2 "_law_pick" s__law_pick ["deck", "some"] sp__law_pick) {ff : Addr} {fd : FuncData} (F : Fun K "_law_chain" "_law_chain" s__law_chain ff fd) (mf : mg "_law_chain" = some (.ref ff)) : Cal P w K mg base 3 "_law_chain" s__law_chain ["deck", "code"] sp__law_chain := by
  refine ⟨ff, fd, okD F sc__law_chain (fun ds S Q E h => ?len) (fun cdv A outer s H E ds S Q E' hcd hr h => ⟨_, (dss_cons (ds_par 2 3 rfl sc__law_chain.nd (da_cons (de_lst da_nil) (da_cons de_str da_nil)))
      (dss_cons (ds_for PassesOwn.never rfl (di_range1 (by rfl) T.nb_range (da_cons (de_c C__law_draw hr (da_cons (de_var 0) (da_cons de_int da_nil))) da_nil)) (dg_name 4 sc__law_chain.nd) (dss_cons (ds_set 5 sc__law_chain.nd (de_c C__law_rows hr (da_cons (de_var 1) (da_cons (de_var 3) da_nil))))
      (dss_cons (ds_setLc 6 [("index", 7)] rfl sc__law_chain.nd (di_range1 (by rfl) T.nb_range (da_cons (de_callB cd_len (by rfl) T.nb_len (da_cons (de_var 5) da_nil)) da_nil)) (blkOk_by (N := ["deck", "code", "found", "name", "k", "rows", "calls", "index"]) (sc := defScope s__law_chain) (by decide +kernel)) (fun _ _ _ _ _ => (pg_name (i := 7) sc__law_chain.nd rfl (Or.inl rfl) (Or.inr rfl))) (fun N => (tg_name (vs := [7]) (i := 7) (by decide))) (fun _ _ _ _ _ => pts_one (dt_cmp (od_eq hr) (de_ix (xd_ix hr) (de_ix (xd_ix hr) (de_var 5) (de_var 7)) de_int) de_str)) (fun _ _ _ _ _ => (de_var 7)))
      (dss_one (ds_if (dt_cmp (od_ne0 hr) (de_var 6) (de_lf da_nil)) (dss_cons (ds_set 7 sc__law_chain.nd (de_c C__law_pick hr (da_cons (de_var 0) (da_cons (de_var 6) da_nil))))
      (dss_cons (ds_expr (de_m PySem.F.plainAttrs_list PySem.F.slot_list_append PySem.F.type_list_append md_append (de_var 2) (da_cons (de_tup (da_cons (de_var 3) (da_cons (de_var 7) da_nil))) da_nil)))
      (dss_one (ds_set 3 sc__law_chain.nd (de_ix (xd_ix hr) (de_ix (xd_ix hr) (de_var 5) (de_var 7)) de_int))))) dss_nil)))))
      (dss_one (ds_ret (de_tup (da_cons (de_var 2) (da_cons (de_var 3) da_nil))))))), ?run⟩), F.binds (ps := ["deck", "code"]) fun _ _ _ _ _ _ us hl => match us, hl with | [_, _], _ => rfl, mf, F⟩
  case len => obtain ⟨p, a, n, ks, ps, rfl, _⟩ := h; rfl
  case run =>
    obtain ⟨p, a, n, ks, ps, rfl, h⟩ := h
    simp only [dVar, dC, dOp, dUn, dChain, dTr, dB, dAnd, dOr, dNot, dIf, dAndV, dOrV, dNotV, dNil, dCons, dTup, dLst, dLf, dNext, dSeq, dBreak, dCont, dDrop, dRet, dRetN, dIfS, gdName, gdNil, gdCons, gdTup, gdSub, dAsg, dPar, dCall, dCallK, dCB, dM0, dM, dGet1, dGet2, dDk, dDt, dPart, dNoPart, dSlice, dAug, dYes, dSort2, revD, iTupD, iLstD, iLf, iLw, iRange1, iRange2, iRange3, iEnumD, iZipD, iZipMD, iStrD, dGix, dDc, dIsi, dSortSet, dLenSet, dDlit, gdLst, dFor, dWhile, dLc, dLcM, dFld, dFldSet, dFldAdd, dMeth, dMake, dPar3, dDisp, dPrs, dFsi, dGget, dKgt, dKgtL, dDz, iEnumMD, dCut, dTcut, wipeD, bodyE, startD, List.map_cons, List.map_nil, List.length_cons, List.length_nil, List.replicate_succ, List.replicate_zero, List.cons_append, List.nil_append, Nat.reduceAdd, Nat.reduceSub, Nat.zero_add, List.getElem?_cons_zero, List.getElem?_cons_succ, List.set_cons_zero, List.set_cons_succ, Option.some.injEq, exists_eq_left', exists_eq_left, if_true, sizeLine_eq, Nat.reduceLeDiff, Nat.reduceLT, Nat.zero_le, true_and, and_true, Bool.false_eq_true, if_false]
    obtain ⟨ok, sp, q⟩ := h
    intro F nF
    obtain ⟨fp, fa⟩ := sp.ne nF
    refine ⟨_, _, rfl, p, a, n + 19, 6, rfl, by decide, by decide, (sp.up fp fa).mono (by omega), fun m S1 m0 m1 sp1 of1 => ⟨_, rfl, by omega, by omega, ?_⟩⟩
    obtain ⟨m, rfl⟩ : ∃ j : Nat, m = j := ⟨m.toNat, by omega⟩
    rw [Int.toNat_natCast]
    refine fr_rng (fun i δ S' => ∃ (l : List (Str × Nat)) (x : Str) (r4 r5 r6 r7 : Option D), δ = [some (.ref p), some (prD (.tup (ks.map hdD)) ps), some (.ref F), some (.str x), r4, r5, r6, r7] ∧ i ≤ m ∧ S' F = some (.lst (l.map sptD)) ∧ Ch ps l x ∧ l.length ≤ i ∧ Spr S' p a (n + 19 - i) ∧ Ofx p a S S') ⟨[], "main", _, _, _, _, rfl, Nat.zero_le _, by rw [of1 F fp fa, up_same]; rfl, .nil, Nat.le_refl _, sp1.mono (by omega), (Ofx.refl.up nF).trans of1.x⟩ ?_ ?_
    · rintro i δ S2 hi ⟨l, x, r4, r5, r6, r7, rfl, _, hF, ch, ll, sp2, of2⟩
      simp only [dVar, dC, dOp, dUn, dChain, dTr, dB, dAnd, dOr, dNot, dIf, dAndV, dOrV, dNotV, dNil, dCons, dTup, dLst, dLf, dNext, dSeq, dBreak, dCont, dDrop, dRet, dRetN, dIfS, gdName, gdNil, gdCons, gdTup, gdSub, dAsg, dPar, dCall, dCallK, dCB, dM0, dM, dGet1, dGet2, dDk, dDt, dPart, dNoPart, dSlice, dAug, dYes, dSort2, revD, iTupD, iLstD, iLf, iLw, iRange1, iRange2, iRange3, iEnumD, iZipD, iZipMD, iStrD, dGix, dDc, dIsi, dSortSet, dLenSet, dDlit, gdLst, dFor, dWhile, dLc, dLcM, dFld, dFldSet, dFldAdd, dMeth, dMake, dPar3, dDisp, dPrs, dFsi, dGget, dKgt, dKgtL, dDz, iEnumMD, dCut, dTcut, wipeD, bodyE, startD, List.map_cons, List.map_nil, List.length_cons, List.length_nil, List.replicate_succ, List.replicate_zero, List.cons_append, List.nil_append, Nat.reduceAdd, Nat.reduceSub, Nat.zero_add, List.getElem?_cons_zero, List.getElem?_cons_succ, List.set_cons_zero, List.set_cons_succ, Option.some.injEq, exists_eq_left', exists_eq_left, if_true, sizeLine_eq, Nat.reduceLeDiff, Nat.reduceLT, Nat.zero_le, true_and, and_true, Bool.false_eq_true, if_false]
      have hx := ch.top ok
      obtain ⟨P, hP1, hP2, hP3⟩ := rowsOf_ok ok hx
      have rl := hP3.rl
      rw [← hP2] at rl
      refine ⟨x, ks, ps, rfl, ok, hx, len_sq rfl ⟨_, rfl, by rw [rwsD_len]; omega, by rw [rwsD_len]; omega, ?_⟩⟩
      rw [rwsD_len, Int.toNat_natCast]
      refine lc_rng (fun j acc S' => S' = S2 ∧ ∃ is : List Nat, acc = is.map (fun i : Nat => D.int (i : Nat)) ∧ is.length ≤ j ∧ j ≤ (rowsOf ps x).length ∧ ∀ i ∈ is, ∃ r, (rowsOf ps x)[i]? = some r ∧ r.h = "call") ⟨rfl, [], rfl, Nat.le_refl _, Nat.zero_le _, fun i hi => (nomatch hi)⟩ ?_ ?_
      · rintro j acc S3 hj ⟨rfl, is, rfl, il, _, his⟩
        have hr := List.getElem?_eq_getElem hj
        generalize (rowsOf ps x)[j] = r at hr
        have okr := hP3.ok r (by rw [← hP2]; exact List.mem_of_getElem? hr)
        refine ⟨by rw [List.length_map, sizeLine_eq]; omega, ix_sq (d := r.d) rfl rfl (by rw [Int.zero_add]; exact at_n (by rw [List.getElem?_map, hr]; rfl)) (ix_sq rfl rfl at_0 (eq_ss ⟨_, rfl, br2 (fun h => ⟨rfl, is ++ [j], ?_, by rw [List.length_append, List.length_singleton]; omega, hj, fun i hi => ?_⟩) fun h => ⟨rfl, is, rfl, by omega, hj, his⟩⟩))⟩
        · rw [List.map_append, Int.zero_add]; rfl
        · rcases List.mem_append.mp hi with h | h2
          · exact his i h
          · rw [List.mem_singleton.mp h2]; exact ⟨r, hr, of_xt h⟩
      · rintro j acc S3 hj ⟨rfl, is, rfl, il, hjl, his⟩
        refine e0_f ⟨_, rfl, br2 (fun h => ?_) fun h => ⟨l, x, _, _, _, _, rfl, hi, hF, ch, by omega, sp2.mono (by omega), of2⟩⟩
        have h0 : 0 < is.length := by
          cases is with
          | nil => cases h
          | cons a r => simp
        refine ⟨p, a, n + 19 - (i + 1), _, _, rfl, .inl rfl, by rw [List.length_map]; exact h0, by rw [List.length_map]; omega, sp2.mono (by omega), fun d S4 hd sp4 of4 => ?_⟩
        obtain ⟨k, hk, rfl⟩ := List.mem_map.mp hd
        obtain ⟨r, hr, hc⟩ := his k hk
        have okr := hP3.ok r (by rw [← hP2]; exact List.mem_of_getElem? hr)
        rcases rw_call okr with ⟨y, ds, c1, c2, c3, c4, _⟩ | ⟨_, c2⟩
        rotate_left
        · exact absurd hc c2
        have hF4 : S4 F = some (.lst (l.map sptD)) := by rw [of4 F fp fa]; exact hF
        refine ⟨ty_l hF4, app_of hF4 (by rw [List.length_map, sizeLine_eq]; omega) (ix_sq (d := r.d) rfl rfl (at_n (by rw [List.getElem?_map, hr]; rfl)) (ix_sq rfl rfl (at_n (i := 2) (by rw [List.getElem?_cons_succ, c3])) ⟨l ++ [(x, k)], y, _, _, _, _, rfl, hi, by rw [up_same, List.map_append]; rfl, ch.snoc hr c1, by rw [List.length_append, List.length_singleton]; omega, sp4.up fp fa, ?_⟩))⟩
        intro b o b1 b2 e
        have e2 := of2 b o b1 b2 e
        rw [up_ne (sne e nF), of4 b b1 b2]
        exact e2
    · rintro i δ S2 hi ⟨l, x, r4, r5, r6, r7, rfl, him, hF, ch, ll, sp2, of2⟩
      simp only [dVar, dC, dOp, dUn, dChain, dTr, dB, dAnd, dOr, dNot, dIf, dAndV, dOrV, dNotV, dNil, dCons, dTup, dLst, dLf, dNext, dSeq, dBreak, dCont, dDrop, dRet, dRetN, dIfS, gdName, gdNil, gdCons, gdTup, gdSub, dAsg, dPar, dCall, dCallK, dCB, dM0, dM, dGet1, dGet2, dDk, dDt, dPart, dNoPart, dSlice, dAug, dYes, dSort2, revD, iTupD, iLstD, iLf, iLw, iRange1, iRange2, iRange3, iEnumD, iZipD, iZipMD, iStrD, dGix, dDc, dIsi, dSortSet, dLenSet, dDlit, gdLst, dFor, dWhile, dLc, dLcM, dFld, dFldSet, dFldAdd, dMeth, dMake, dPar3, dDisp, dPrs, dFsi, dGget, dKgt, dKgtL, dDz, iEnumMD, dCut, dTcut, wipeD, bodyE, startD, List.map_cons, List.map_nil, List.length_cons, List.length_nil, List.replicate_succ, List.replicate_zero, List.cons_append, List.nil_append, Nat.reduceAdd, Nat.reduceSub, Nat.zero_add, List.getElem?_cons_zero, List.getElem?_cons_succ, List.set_cons_zero, List.set_cons_succ, Option.some.injEq, exists_eq_left', exists_eq_left, if_true, sizeLine_eq, Nat.reduceLeDiff, Nat.reduceLT, Nat.zero_le, true_and, and_true, Bool.false_eq_true, if_false]
      exact rt_of (q l x F S2 ch (by omega) nF hF fp fa (sp2.mono (by omega)) of2)
def sp__law_frames : SpD := fun ds S Q _ => ∃ (p a : Addr) (n : Nat) (ks : List Hd) (ps : List Pc) (sq : List (Str × Nat)) (cs : List D) (ns : List Int) (last : Int), ds = [.ref p, prD (.tup (ks.map hdD)) ps, .fl (sq.map sptD), .tup cs] ∧ PrOk ks ps ∧ Sps ps sq ∧ sq.length ≤ 8 ∧ ClOk ks cs ns last ∧ cs.length ≤ 6 ∧ Spr S p a (n + 800) ∧ ∀ fs S', fs.length = sq.length → (∀ (j : Nat) (q : Str × Nat) (d : D), sq[j]? = some q → fs[j]? = some d → FrG ps ns q d) → Spr S' p a n → Ofx p a S S' → Q (.tup fs) S'
theorem ok__law_frames {P : Program} {w : World} {K : PySem.W.Frag} {mg : Str → Option Value} {base : Heap} (T : Txt K w mg) (C__law_value : Cal P w K mg base 3 "_law_value" s__law_value ["deck", "numbers"] sp__law_value) (C__law_variables : Cal P w K mg base 1 "_law_variables" s__law_variables ["code", "name"] sp__law_variables) {ff : Addr} {fd : FuncData} (F : Fun K "_law_frames" "_law_frames" s__law_frames ff fd) (mf : mg "_law_frames" = some (.ref ff)) : Cal P w K mg base 4 "_law_frames" s__law_frames ["deck", "code", "spots", "cells"] sp__law_frames := by
  refine ⟨ff, fd, okD F sc__law_frames (fun ds S Q E h => ?len) (fun cdv A outer s H E ds S Q E' hcd hr h => ⟨_, (dss_cons (ds_asg (de_tup (da_cons (de_lst da_nil) (da_cons (de_lc [("cell", 6)] rfl sc__law_frames.nd (di_tup (de_var 3)) (blkOk_by (N := ["deck", "code", "spots", "cells", "found", "numbers", "cell", "name", "row", "pairs", "one"]) (sc := defScope s__law_frames) (by decide +kernel)) (fun _ _ _ _ _ => (pg_name (i := 6) sc__law_frames.nd rfl (Or.inl rfl) (Or.inr rfl))) (fun N => (tg_name (vs := [6]) (i := 6) (by decide))) (fun _ _ _ _ _ => dts_nil) (fun _ _ _ _ _ => (de_ix (xd_ix hr) (de_var 6) de_int))) da_nil))) (dg_tup (n := 2) rfl (dgs_cons (dg_name 4 sc__law_frames.nd) (dgs_cons (dg_name 5 sc__law_frames.nd) dgs_nil))))
      (dss_cons (ds_for PassesOwn.never rfl (di_lf (de_var 2)) (dg_tup (n := 2) rfl (dgs_cons (dg_name 7 sc__law_frames.nd) (dgs_cons (dg_name 8 sc__law_frames.nd) dgs_nil))) (dss_cons (ds_setLc 9 [("one", 10)] rfl sc__law_frames.nd (di_lf (de_c C__law_variables hr (da_cons (de_var 1) (da_cons (de_var 7) da_nil)))) (blkOk_by (N := ["deck", "code", "spots", "cells", "found", "numbers", "cell", "name", "row", "pairs", "one"]) (sc := defScope s__law_frames) (by decide +kernel)) (fun _ _ _ _ _ => (pg_name (i := 10) sc__law_frames.nd rfl (Or.inl rfl) (Or.inr rfl))) (fun N => (tg_name (vs := [10]) (i := 10) (by decide))) (fun _ _ _ _ _ => dts_nil) (fun _ _ _ _ _ => (de_tup (da_cons (de_var 10) (da_cons (de_c C__law_value hr (da_cons (de_var 0) (da_cons (de_var 5) da_nil))) da_nil)))))
      (dss_one (ds_expr (de_m PySem.F.plainAttrs_list PySem.F.slot_list_append PySem.F.type_list_append md_append (de_var 4) (da_cons (de_tup (da_cons (de_var 7) (da_cons (de_var 8) (da_cons (de_callTy cd_tuple (by rfl) T.nb_tuple (da_cons (de_var 9) da_nil)) da_nil)))) da_nil))))))
      (dss_one (ds_ret (de_callTy cd_tuple (by rfl) T.nb_tuple (da_cons (de_var 4) da_nil)))))), ?run⟩), F.binds (ps := ["deck", "code", "spots", "cells"]) fun _ _ _ _ _ _ us hl => match us, hl with | [_, _, _, _], _ => rfl, mf, F⟩
  case len => obtain ⟨p, a, n, ks, ps, sq, cs, ns, last, rfl, _⟩ := h; rfl
  case run =>
    obtain ⟨p, a, n, ks, ps, sq, cs, ns, last, rfl, h⟩ := h
    simp only [dVar, dC, dOp, dUn, dChain, dTr, dB, dAnd, dOr, dNot, dIf, dAndV, dOrV, dNotV, dNil, dCons, dTup, dLst, dLf, dNext, dSeq, dBreak, dCont, dDrop, dRet, dRetN, dIfS, gdName, gdNil, gdCons, gdTup, gdSub, dAsg, dPar, dCall, dCallK, dCB, dM0, dM, dGet1, dGet2, dDk, dDt, dPart, dNoPart, dSlice, dAug, dYes, dSort2, revD, iTupD, iLstD, iLf, iLw, iRange1, iRange2, iRange3, iEnumD, iZipD, iZipMD, iStrD, dGix, dDc, dIsi, dSortSet, dLenSet, dDlit, gdLst, dFor, dWhile, dLc, dLcM, dFld, dFldSet, dFldAdd, dMeth, dMake, dPar3, dDisp, dPrs, dFsi, dGget, dKgt, dKgtL, dDz, iEnumMD, dCut, dTcut, wipeD, bodyE, startD, List.map_cons, List.map_nil, List.length_cons, List.length_nil, List.replicate_succ, List.replicate_zero, List.cons_append, List.nil_append, Nat.reduceAdd, Nat.reduceSub, Nat.zero_add, List.getElem?_cons_zero, List.getElem?_cons_succ, List.set_cons_zero, List.set_cons_succ, Option.some.injEq, exists_eq_left', exists_eq_left, if_true, sizeLine_eq, Nat.reduceLeDiff, Nat.reduceLT, Nat.zero_le, true_and, and_true, Bool.false_eq_true, if_false]
    obtain ⟨ok, sps, sl, cl, c6, sp, q⟩ := h
    intro F nF
    obtain ⟨fp, fa⟩ := sp.ne nF
    have cn : ∀ (j : Nat) d, cs[j]? = some d → ∃ (i : Int) (r : List D), d = .tup (.int i :: r) := fun j d hd => by
      have hj := (List.getElem?_eq_some_iff.mp hd).1
      have h1 : (cs.map nmD)[j]? = some (nmD d) := by rw [List.getElem?_map, hd]; rfl
      rw [cl.nm, List.getElem?_map, List.getElem?_eq_getElem (by rw [cl.l]; exact hj)] at h1
      have h2 : nmD d = .int _ := (Option.some.inj h1).symm
      unfold nmD at h2
      split at h2
      · rename_i a r
        exact ⟨_, r, by rw [h2]⟩
      · cases h2
    refine ⟨_, .inl rfl, lc_mp nmD (by omega) (fun W j d acc hd w => ?_) ?_⟩
    · obtain ⟨i, r, rfl⟩ := cn j d hd
      exact ix_sq rfl rfl at_0 w
    rw [cl.nm]
    refine ⟨_, rfl, rfl, _, _, rfl, _, _, rfl, rfl, _, rfl, ?_⟩
    have nl : ns.length < 1000000 := by rw [cl.l]; omega
    refine fr_seq (fun i δ S' => ∃ (fs : List D) (r6 r7 r8 r9 r10 : Option D), δ = [some (.ref p), some (prD (.tup (ks.map hdD)) ps), some (.fl (sq.map sptD)), some (.tup cs), some (.ref F), some (.fl (ns.map D.int)), r6, r7, r8, r9, r10] ∧ i ≤ sq.length ∧ S' F = some (.lst fs) ∧ fs.length = i ∧ (∀ (j : Nat) (q : Str × Nat) (d : D), sq[j]? = some q → fs[j]? = some d → FrG ps ns q d) ∧ Spr S' p a (n + 800 - 60 * i) ∧ Ofx p a S S') ⟨[], _, _, _, _, _, rfl, Nat.zero_le _, up_same, rfl, fun j q d _ h => (by simp at h), (sp.up fp fa).mono (by omega), Ofx.refl.up nF⟩ ?_ ?_
    · rintro i x δ S2 hx ⟨fs, r6, r7, r8, r9, r10, rfl, _, hF, fl, hfs, sp2, of2⟩
      obtain ⟨q0, hq0, rfl⟩ := map_at hx
      have hlt := (List.getElem?_eq_some_iff.mp hq0).1
      obtain ⟨hq1, hq2⟩ := sps.r q0 (List.mem_of_getElem? hq0)
      refine ⟨_, rfl, rfl, _, _, rfl, _, _, rfl, rfl, ?_⟩
      simp only [dVar, dC, dOp, dUn, dChain, dTr, dB, dAnd, dOr, dNot, dIf, dAndV, dOrV, dNotV, dNil, dCons, dTup, dLst, dLf, dNext, dSeq, dBreak, dCont, dDrop, dRet, dRetN, dIfS, gdName, gdNil, gdCons, gdTup, gdSub, dAsg, dPar, dCall, dCallK, dCB, dM0, dM, dGet1, dGet2, dDk, dDt, dPart, dNoPart, dSlice, dAug, dYes, dSort2, revD, iTupD, iLstD, iLf, iLw, iRange1, iRange2, iRange3, iEnumD, iZipD, iZipMD, iStrD, dGix, dDc, dIsi, dSortSet, dLenSet, dDlit, gdLst, dFor, dWhile, dLc, dLcM, dFld, dFldSet, dFldAdd, dMeth, dMake, dPar3, dDisp, dPrs, dFsi, dGget, dKgt, dKgtL, dDz, iEnumMD, dCut, dTcut, wipeD, bodyE, startD, List.map_cons, List.map_nil, List.length_cons, List.length_nil, List.replicate_succ, List.replicate_zero, List.cons_append, List.nil_append, Nat.reduceAdd, Nat.reduceSub, Nat.zero_add, List.getElem?_cons_zero, List.getElem?_cons_succ, List.set_cons_zero, List.set_cons_succ, Option.some.injEq, exists_eq_left', exists_eq_left, if_true, sizeLine_eq, Nat.reduceLeDiff, Nat.reduceLT, Nat.zero_le, true_and, and_true, Bool.false_eq_true, if_false]
      refine ⟨q0.1, ks, ps, rfl, ok, hq1, fun ys hs => ⟨_, rfl, ?_⟩⟩
      obtain ⟨P, hP1, hP2, hP3⟩ := rowsOf_ok ok hq1
      have yl : ys.length ≤ 13 := by
        have hn : ∀ y ∈ ys, y ∈ nm14 := fun y hy => by
          have := (hs.2.2 y).mp hy
          unfold varsOf at this
          rw [hP1] at this
          exact hP3.nm y this
        exact nd_len ys nm14 hs.2.1 hn
      refine lc_seq (fun j acc S' => ∃ qs : List (Str × D), acc = qs.map pairD ∧ qs.map (·.1) = ys.take j ∧ j ≤ ys.length ∧ (∀ q ∈ qs, Vl ns q.2) ∧ Spr S' p a (n + 800 - 60 * i - 4 * j) ∧ Off p a S2 S') ⟨[], rfl, rfl, Nat.zero_le _, (fun q hq => nomatch hq), sp2, .refl⟩ ?_ ?_
      · rintro j x acc S3 hx ⟨qs, rfl, hqs, _, hv, sp3, of3⟩
        obtain ⟨y, hy, rfl⟩ := map_at hx
        have hlt := (List.getElem?_eq_some_iff.mp hy).1
        have ql : qs.length = j := by have := congrArg List.length hqs; rw [List.length_map, List.length_take] at this; omega
        refine ⟨by rw [List.length_map, sizeLine_eq]; omega, p, a, n + 800 - 60 * i - 4 * (j + 1), _, ns, rfl, .inl rfl, nl, sp3.mono (by omega), fun d S4 hd sp4 of4 => ⟨qs ++ [(y, d)], by rw [List.map_append]; rfl, by rw [List.map_append, hqs, tk1 hy]; rfl, hlt, fun q hq => ?_, sp4, of3.trans of4⟩⟩
        rcases List.mem_append.mp hq with h | h
        · exact hv q h
        · rw [List.mem_singleton.mp h]; exact hd
      · rintro j acc S3 hj ⟨qs, rfl, hqs, hjl, hv, sp3, of3⟩
        rw [List.length_map] at hj
        rw [List.take_of_length_le hj] at hqs
        have hF3 : S3 F = some (.lst fs) := by rw [of3 F fp fa]; exact hF
        refine ⟨ty_l hF3, tpl_l rfl (app_of hF3 (by rw [sizeLine_eq]; omega) ⟨fs ++ [_], _, _, _, _, _, rfl, hlt, up_same, by rw [List.length_append, fl]; rfl, fun j q d h1 h2 => ?_, (sp3.up fp fa).mono (by omega), fun b o b1 b2 e => ?_⟩)⟩
        · by_cases hj : j < fs.length
          · rw [List.getElem?_append_left hj] at h2
            exact hfs j q d h1 h2
          · have hj2 := (List.getElem?_eq_some_iff.mp h2).1
            rw [List.length_append, List.length_singleton] at hj2
            obtain rfl : j = i := by omega
            rw [List.getElem?_append_right (by omega), fl, Nat.sub_self] at h2
            rw [hq0] at h1
            cases h1
            cases h2
            exact ⟨qs, rfl, by rw [hqs]; exact hs, hv⟩
        · have e2 := of2 b o b1 b2 e
          rw [up_ne (sne e nF), of3 b b1 b2]
          exact e2
    · rintro i δ S2 hi ⟨fs, r6, r7, r8, r9, r10, rfl, hil, hF, fl, hfs, sp2, of2⟩
      rw [List.length_map] at hi
      exact ⟨_, rfl, tpl_l (ls_l hF) (rt_of (q fs S2 (by omega) hfs (sp2.mono (by omega)) of2))⟩
def sp__law_made : SpD := fun ds S Q _ => ∃ (p a : Addr) (n : Nat) (ks : List Hd) (cs : List D) (ns : List Int) (last : Int), ds = [.ref p, .tup cs] ∧ ClOk ks cs ns last ∧ Spr S p a (n + 1) ∧ ∀ m S', last < m → m ≤ last + 10000000 → Spr S' p a n → Off p a S S' → Q (.int m) S'
theorem ok__law_made {P : Program} {w : World} {K : PySem.W.Frag} {mg : Str → Option Value} {base : Heap} (T : Txt K w mg) (C__law_draw : Cal P w K mg base 1 "_law_draw" s__law_draw ["deck", "many"] sp__law_draw) {ff : Addr} {fd : FuncData} (F : Fun K "_law_made" "_law_made" s__law_made ff fd) (mf : mg "_law_made" = some (.ref ff)) : Cal P w K mg base 2 "_law_made" s__law_made ["deck", "cells"] sp__law_made := by
  refine ⟨ff, fd, okD F sc__law_made (fun ds S Q E h => ?len) (fun cdv A outer s H E ds S Q E' hcd hr h => ⟨_, (dss_cons (ds_set 2 sc__law_made.nd (de_ifExp (dt_cmp (od_eq0 hr) (de_var 1) (de_tup da_nil)) de_int (de_op (od_add false) (de_ix (xd_ix hr) (de_ix (xd_ix hr) (de_var 1) (de_un ud_neg de_int)) de_int) de_int)))
      (dss_one (ds_ret (de_op (od_add false) (de_var 2) (de_ix (xd_ix hr) (de_lf (da_cons de_int (da_cons de_int (da_cons de_int (da_cons de_int da_nil))))) (de_c C__law_draw hr (da_cons (de_var 0) (da_cons de_int da_nil)))))))), ?run⟩), F.binds (ps := ["deck", "cells"]) fun _ _ _ _ _ _ us hl => match us, hl with | [_, _], _ => rfl, mf, F⟩
  case len => obtain ⟨p, a, n, ks, cs, ns, last, rfl, _⟩ := h; rfl
  case run =>
    obtain ⟨p, a, n, ks, cs, ns, last, rfl, h⟩ := h
    simp only [dVar, dC, dOp, dUn, dChain, dTr, dB, dAnd, dOr, dNot, dIf, dAndV, dOrV, dNotV, dNil, dCons, dTup, dLst, dLf, dNext, dSeq, dBreak, dCont, dDrop, dRet, dRetN, dIfS, gdName, gdNil, gdCons, gdTup, gdSub, dAsg, dPar, dCall, dCallK, dCB, dM0, dM, dGet1, dGet2, dDk, dDt, dPart, dNoPart, dSlice, dAug, dYes, dSort2, revD, iTupD, iLstD, iLf, iLw, iRange1, iRange2, iRange3, iEnumD, iZipD, iZipMD, iStrD, dGix, dDc, dIsi, dSortSet, dLenSet, dDlit, gdLst, dFor, dWhile, dLc, dLcM, dFld, dFldSet, dFldAdd, dMeth, dMake, dPar3, dDisp, dPrs, dFsi, dGget, dKgt, dKgtL, dDz, iEnumMD, dCut, dTcut, wipeD, bodyE, startD, List.map_cons, List.map_nil, List.length_cons, List.length_nil, List.replicate_succ, List.replicate_zero, List.cons_append, List.nil_append, Nat.reduceAdd, Nat.reduceSub, Nat.zero_add, List.getElem?_cons_zero, List.getElem?_cons_succ, List.set_cons_zero, List.set_cons_succ, Option.some.injEq, exists_eq_left', exists_eq_left, if_true, sizeLine_eq, Nat.reduceLeDiff, Nat.reduceLT, Nat.zero_le, true_and, and_true, Bool.false_eq_true, if_false]
    obtain ⟨cl, sp, q⟩ := h
    have dr : ∀ (S1 : Sto) (x : Int), S1 = S → x = last + 1 → sp__law_draw [D.ref p, D.int 4] S1 (fun y S2 => ixD (D.fl [D.int 0, D.int 0, D.int 1, D.int 9000000]) y S2 fun y S2 => addD false (D.int x) y S2 fun d S' => ∃ d1 S1, VW d S' d1 S1 ∧ Q d1 S1) X0 := fun S1 x e1 e2 => by
      subst e1 e2
      refine ⟨p, a, n, 4, rfl, by decide, by decide, sp, fun w S2 w0 w1 sp2 of2 => ?_⟩
      obtain ⟨w, rfl⟩ : ∃ j' : Nat, w = j' := ⟨w.toNat, by omega⟩
      obtain ⟨g, hg, g5⟩ : ∃ g : Nat, atI [D.int 0, .int 0, .int 1, .int 9000000] (w : Nat) = some (.int (g : Nat)) ∧ g ≤ 9000000 := by
        have : w = 0 ∨ w = 1 ∨ w = 2 ∨ w = 3 := by omega
        rcases this with rfl | rfl | rfl | rfl
        · exact ⟨0, at_n (i := 0) rfl, by decide⟩
        · exact ⟨0, at_n (i := 1) rfl, by decide⟩
        · exact ⟨1, at_n (i := 2) rfl, by decide⟩
        · exact ⟨9000000, at_n (i := 3) rfl, by decide⟩
      exact ix_sq rfl rfl hg (add_i (rt_of (q _ S2 (by omega) (by omega) sp2 of2)))
    rcases cl.z with ⟨rfl, e⟩ | ⟨cs', b, c, rfl⟩
    · exact e0_t ⟨_, rfl, brT rfl (dr S 0 rfl (by omega))⟩
    · refine e0_t ⟨_, rfl, brF (by simp) (neg_i (ix_sq rfl rfl at_z (ix_sq rfl rfl at_0 (add_i (dr S _ rfl rfl)))))⟩
end K10


namespace K10
open PySem L2 PyProof.Rows DL
theorem len_app (x y : Str) : (x ++ y).length = x.length + y.length := by
  show (x.cps ++ y.cps).size = _
  rw [Array.size_append]; rfl
theorem ok_app {x y : Str} (hx : PyData.strOk x = true) (hy : PyData.strOk y = true) : PyData.strOk (x ++ y) = true := by
  unfold PyData.strOk at hx hy ⊢
  show (x.cps ++ y.cps).all _ = true
  rw [Array.all_append, hx, hy]; rfl
theorem ok_cut {x : Str} {lo hi : Option Int} (hx : PyData.strOk x = true) : PyData.strOk (cutS x lo hi) = true ∧ (cutS x lo hi).length ≤ x.length := by
  unfold cutS
  have hs : ∀ l : List Nat, (∀ c ∈ l, c ∈ x.cps.toList) → PyData.strOk ⟨l.toArray⟩ = true := fun l h => by
    unfold PyData.strOk at hx ⊢
    rw [List.all_toArray, List.all_eq_true]
    rw [← Array.all_toList, List.all_eq_true] at hx
    exact fun c hc => hx c (h c hc)
  refine ⟨hs _ fun c hc => List.mem_of_mem_drop (List.mem_of_mem_take hc), ?_⟩
  show (List.take _ _).toArray.size ≤ x.cps.size
  rw [List.size_toArray, List.length_take, List.length_drop, Array.length_toList]
  omega
def sp__law_odd : SpD := fun ds S Q _ => ∃ (p a : Addr) (n m : Nat) (d : D) (ks : List Hd) (ps : List Pc), ds = [.ref p, d, prD (.tup (ks.map hdD)) ps] ∧ PrOk ks ps ∧ gv S m d ∧ m ≤ 9 ∧ Spr S p a (n + 6) ∧ ∀ d' S', gv S' (m + 1) d' → dep d' ≤ 1 → Spr S' p a n → Ofx p a S S' → Q d' S'
theorem ok__law_odd {P : Program} {w : World} {K : PySem.W.Frag} {mg : Str → Option Value} {base : Heap} (T : Txt K w mg) (C__law_pick : Cal P w K mg base 2 "_law_pick" s__law_pick ["deck", "some"] sp__law_pick) (C__law_draw : Cal P w K mg base 1 "_law_draw" s__law_draw ["deck", "many"] sp__law_draw) {ff : Addr} {fd : FuncData} (F : Fun K "_law_odd" "_law_odd" s__law_odd ff fd) (mf : mg "_law_odd" = some (.ref ff)) : Cal P w K mg base 3 "_law_odd" s__law_odd ["deck", "given", "code"] sp__law_odd := by
  refine ⟨ff, fd, okD F sc__law_odd (fun ds S Q E h => ?len) (fun cdv A outer s H E ds S Q E' hcd hr h => ⟨_, (dss_cons (ds_set 3 sc__law_odd.nd (de_op (od_add false) (de_op (od_add false) (de_lc [("one", 4)] rfl sc__law_odd.nd (di_tup (de_ix (xd_ix hr) (de_var 2) de_int)) (blkOk_by (N := ["deck", "given", "code", "names", "one", "kind", "some"]) (sc := defScope s__law_odd) (by decide +kernel)) (fun _ _ _ _ _ => (pg_name (i := 4) sc__law_odd.nd rfl (Or.inl rfl) (Or.inr rfl))) (fun N => (tg_name (vs := [4]) (i := 4) (by decide))) (fun _ _ _ _ _ => dts_nil) (fun _ _ _ _ _ => (de_ix (xd_ix hr) (de_var 4) de_int))) (de_lc [("kind", 5)] rfl sc__law_odd.nd (di_tup (de_ix (xd_ix hr) (de_var 2) de_int)) (blkOk_by (N := ["deck", "given", "code", "names", "one", "kind", "some"]) (sc := defScope s__law_odd) (by decide +kernel)) (fun _ _ _ _ _ => (pg_name (i := 5) sc__law_odd.nd rfl (Or.inl rfl) (Or.inr rfl))) (fun N => (tg_name (vs := [5]) (i := 5) (by decide))) (fun _ _ _ _ _ => dts_nil) (fun _ _ _ _ _ => (de_ix (xd_ix hr) (de_var 5) de_int)))) (de_lf (da_cons de_str (da_cons de_str (da_cons de_str (da_cons de_str (da_cons de_str da_nil))))))))
      (dss_cons (ds_set 6 sc__law_odd.nd (de_lf (da_cons de_non (da_cons de_bl (da_cons de_bl (da_cons de_int (da_cons de_int (da_cons de_int (da_cons de_int (da_cons de_int (da_cons (de_op od_pow de_int de_int) (da_cons (de_tup da_nil) (da_cons (de_lf da_nil) (da_cons de_dk (da_cons (de_c C__law_pick hr (da_cons (de_var 0) (da_cons (de_var 3) da_nil))) da_nil)))))))))))))))
      (dss_cons (ds_set 6 sc__law_odd.nd (de_op (od_add false) (de_var 6) (de_lf (da_cons (de_tup (da_cons de_str (da_cons de_int da_nil))) (da_cons (de_tup (da_cons de_str (da_cons de_bl da_nil))) (da_cons (de_lf (da_cons de_str (da_cons de_int da_nil))) (da_cons (de_tup (da_cons de_str da_nil)) (da_cons (de_tup (da_cons de_str (da_cons de_int (da_cons de_int da_nil)))) (da_cons (de_tup (da_cons de_str (da_cons de_int da_nil))) (da_cons (de_tup (da_cons de_str (da_cons (de_op od_pow de_int de_int) da_nil))) da_nil))))))))))
      (dss_cons (ds_if (dw_and (dt_tr td_tru (de_isi (tn := "int") (by rfl) T.nb_isinstance (by rfl) T.nb_int (de_var 1))) (dw_and1 (dt_cmp od_gt (de_c C__law_draw hr (da_cons (de_var 0) (da_cons de_int da_nil))) de_int))).pt (dss_one (ds_ret (de_op (od_add false) (de_callTy cd_int1 (by rfl) T.nb_int (da_cons (de_var 1) da_nil)) (de_ix (xd_ix hr) (de_lf (da_cons de_int (da_cons (de_un ud_neg de_int) da_nil))) (de_c C__law_draw hr (da_cons (de_var 0) (da_cons de_int da_nil))))))) dss_nil)
      (dss_cons (ds_if (dw_and (dt_tr td_tru (de_isi (tn := "str") (by rfl) T.nb_isinstance (by rfl) T.nb_str (de_var 1))) (dw_and1 (dt_cmp od_gt (de_c C__law_draw hr (da_cons (de_var 0) (da_cons de_int da_nil))) de_int))).pt (dss_one (ds_ret (de_ix (xd_ix hr) (de_lf (da_cons (de_c C__law_pick hr (da_cons (de_var 0) (da_cons (de_var 3) da_nil))) (da_cons (de_op (od_add false) (de_var 1) de_str) (da_cons (de_slice (xd_slice false) (de_var 1) do_none (do_some (de_un ud_neg de_int))) da_nil)))) (de_c C__law_draw hr (da_cons (de_var 0) (da_cons de_int da_nil)))))) dss_nil)
      (dss_one (ds_ret (de_c C__law_pick hr (da_cons (de_var 0) (da_cons (de_var 6) da_nil)))))))))), ?run⟩), F.binds (ps := ["deck", "given", "code"]) fun _ _ _ _ _ _ us hl => match us, hl with | [_, _, _], _ => rfl, mf, F⟩
  case len => obtain ⟨p, a, n, m, d, ks, ps, rfl, _⟩ := h; rfl
  case run =>
    obtain ⟨p, a, n, m, d, ks, ps, rfl, h⟩ := h
    simp only [dVar, dC, dOp, dUn, dChain, dTr, dB, dAnd, dOr, dNot, dIf, dAndV, dOrV, dNotV, dNil, dCons, dTup, dLst, dLf, dNext, dSeq, dBreak, dCont, dDrop, dRet, dRetN, dIfS, gdName, gdNil, gdCons, gdTup, gdSub, dAsg, dPar, dCall, dCallK, dCB, dM0, dM, dGet1, dGet2, dDk, dDt, dPart, dNoPart, dSlice, dAug, dYes, dSort2, revD, iTupD, iLstD, iLf, iLw, iRange1, iRange2, iRange3, iEnumD, iZipD, iZipMD, iStrD, dGix, dDc, dIsi, dSortSet, dLenSet, dDlit, gdLst, dFor, dWhile, dLc, dLcM, dFld, dFldSet, dFldAdd, dMeth, dMake, dPar3, dDisp, dPrs, dFsi, dGget, dKgt, dKgtL, dDz, iEnumMD, dCut, dTcut, wipeD, bodyE, startD, List.map_cons, List.map_nil, List.length_cons, List.length_nil, List.replicate_succ, List.replicate_zero, List.cons_append, List.nil_append, Nat.reduceAdd, Nat.reduceSub, Nat.zero_add, List.getElem?_cons_zero, List.getElem?_cons_succ, List.set_cons_zero, List.set_cons_succ, Option.some.injEq, exists_eq_left', exists_eq_left, if_true, sizeLine_eq, Nat.reduceLeDiff, Nat.reduceLT, Nat.zero_le, true_and, and_true, Bool.false_eq_true, if_false]
    obtain ⟨ok, hd, hm, sp, q⟩ := h
    refine ix_sq rfl rfl (at_n (i := 1) rfl) ⟨_, .inl rfl, ?_⟩
    have k10 := ok.kl
    have p6 := ok.l
    refine lc_mp nmD (by rw [List.length_map]; omega) (fun W i d acc hd w => ?_) ?_
    · obtain ⟨p, hp, rfl⟩ := map_at hd
      exact ix_sq rfl rfl at_0 w
    refine ix_sq rfl rfl (at_n (i := 0) rfl) ⟨_, .inl rfl, ?_⟩
    refine lc_mp nmD (by rw [List.length_map]; omega) (fun W i d acc hd w => ?_) ?_
    · obtain ⟨p, hp, rfl⟩ := map_at hd
      exact ix_sq rfl rfl at_0 w
    have en : (ks.map hdD).map nmD = (ks.map (·.1)).map D.str := by rw [List.map_map, List.map_map]; rfl
    rw [en, nmD_pc]
    refine add_f rfl rfl (by rw [List.length_map, List.length_map, List.length_map, List.length_map, sizeLine_eq]; omega) ?_
    rw [← List.map_append]
    refine add_f rfl rfl (by rw [List.length_map, List.length_append, List.length_map, List.length_map, sizeLine_eq]; simp; omega) ?_
    obtain ⟨ws, hws⟩ : ∃ ws : List Str, ws = (ps.map (·.1) ++ ks.map (·.1)) ++ (["main", "cell", "x", "head", ""] : List Str) := ⟨_, rfl⟩
    have ew : List.map D.str (ps.map (·.1) ++ ks.map (·.1)) ++ [D.str "main", D.str "cell", D.str "x", D.str "head", D.str ""] = ws.map D.str := by rw [hws]; simp only [List.map_append]; rfl
    rw [ew]
    have w0 : 0 < ws.length := by rw [hws, List.length_append]; simp
    have w30 : ws.length ≤ 30 := by rw [hws, List.length_append, List.length_append, List.length_map, List.length_map]; simp; omega
    have s5 : ∀ z ∈ (["main", "cell", "x", "head", "", "cells", "a"] : List Str), PyData.strOk z = true ∧ z.length ≤ 40 := by decide +kernel
    have wok : ∀ z ∈ ws, PyData.strOk z = true ∧ z.length ≤ 40 := fun z hz => by
      rw [hws] at hz
      rcases List.mem_append.mp hz with h | h
      · rcases List.mem_append.mp h with h | h
        · exact ok.sh z h
        · obtain ⟨k, hk, rfl⟩ := List.mem_map.mp h
          exact (ok.kok k hk).1
      · exact s5 z (List.mem_append_left (["cells", "a"] : List Str) h)
    refine it_of ⟨by decide, by decide, by decide⟩ ?_
    intro P nP
    obtain ⟨pp, pa⟩ := sp.ne nP
    have kp : Kp S (up S P (.dk [])) := Kp.up' nP
    refine pick_s (n := n + 5) w0 w30 (sp.up pp pa) fun w S1 hw sp1 of1 => it_of ⟨by decide, by decide, by decide⟩ (add_f rfl rfl (by rw [sizeLine_eq]; exact Nat.le_of_ble_eq_true rfl) ?_)
    obtain ⟨v20, hsome⟩ : ∃ vs20 : List D, vs20 = [D.non, .bl true, .bl false, .int 0, .int 1, .int 3, .int 1000002, .int 1000003, .int (10 ^ (30 : Int).toNat), .tup [], .fl [], .ref P, .str w] ++ [.tup [.str "cell", .int 0], .tup [.str "cell", .bl true], .fl [.str "cell", .int 0], .tup [.str "cell"], .tup [.str "cell", .int 0, .int 0], .tup [.str "cells", .int 0], .tup [.str "cell", .int (10 ^ (9 : Int).toNat)]] := ⟨_, rfl⟩
    rw [← hsome]
    have gtup : ∀ {S : Sto} {l : List D}, l.length ≤ 50 → (∀ d ∈ l, gv S (m + 1) d) → gv S (m + 1) (.tup l) := fun h h2 => gv_tup.mpr ⟨by omega, h2⟩
    have gs : ∀ {S : Sto} {z : Str}, z ∈ (["main", "cell", "x", "head", "", "cells", "a"] : List Str) → gv S (m + 1) (.str z) := fun h => gv_str.mpr ⟨(s5 _ h).1, by have := (s5 _ h).2; omega⟩
    have gi : ∀ {S : Sto} {i : Int}, i.natAbs ≤ 10 ^ 30 → gv S (m + 1) (.int i) := fun h => gv_int.mpr (by omega)
    have all : ∀ (S2 : Sto), S2 P = some (.dk []) → ∀ d ∈ v20, gv S2 (m + 1) d ∧ dep d ≤ 1 := fun S2 hP d hd => by
      have d0 : ∀ {v : V}, dep (.at v) ≤ 1 := fun {v} => by rw [dep_at]; exact Nat.zero_le _
      have dt : ∀ {l : List D}, (∀ d ∈ l, dep d ≤ 0) → dep (.tup l) ≤ 1 := fun h => dep_tup.mpr h
      have df : ∀ {l : List D}, (∀ d ∈ l, dep d ≤ 0) → dep (.fl l) ≤ 1 := fun h => dep_fl.mpr h
      have z0 : ∀ {v : V}, dep (.at v) ≤ 0 := fun {v} => by rw [dep_at]; exact Nat.le_refl _
      rw [hsome] at hd
      rcases List.mem_append.mp hd with h | h
      · simp only [List.mem_cons, List.not_mem_nil, or_false] at h
        rcases h with rfl | rfl | rfl | rfl | rfl | rfl | rfl | rfl | rfl | rfl | rfl | rfl | rfl
        · exact ⟨gv_non, d0⟩
        · exact ⟨gv_bl, d0⟩
        · exact ⟨gv_bl, d0⟩
        · exact ⟨gi (by decide), d0⟩
        · exact ⟨gi (by decide), d0⟩
        · exact ⟨gi (by decide), d0⟩
        · exact ⟨gi (by decide), d0⟩
        · exact ⟨gi (by decide), d0⟩
        · exact ⟨gi (by decide), d0⟩
        · exact ⟨gtup (by decide) (fun d h => nomatch h), dt (fun d h => nomatch h)⟩
        · exact ⟨gv_fl.mpr ⟨by simp, fun d h => nomatch h⟩, df (fun d h => nomatch h)⟩
        · exact ⟨by show gv S2 (m + 1) (.at (.ref P)); unfold gv; exact hP, d0⟩
        · exact ⟨gv_str.mpr ⟨(wok w hw).1, by have := (wok w hw).2; omega⟩, d0⟩
      · have one : ∀ {l : List D}, l.length ≤ 50 → (∀ d ∈ l, gv S2 (m + 1) d ∧ dep d ≤ 0) → gv S2 (m + 1) (.tup l) ∧ dep (.tup l) ≤ 1 := fun h1 h => ⟨gtup h1 fun d hd => (h d hd).1, dt fun d hd => (h d hd).2⟩
        have cw : gv S2 (m + 1) (.str "cell") ∧ dep (.str "cell") ≤ 0 := ⟨gs (by simp), z0⟩
        have iw : ∀ {i : Int}, i.natAbs ≤ 10 ^ 30 → gv S2 (m + 1) (.int i) ∧ dep (.int i) ≤ 0 := fun h => ⟨gi h, z0⟩
        simp only [List.mem_cons, List.not_mem_nil, or_false] at h
        rcases h with rfl | rfl | rfl | rfl | rfl | rfl | rfl
        · exact one (by simp) fun d h => by
            simp only [List.mem_cons, List.not_mem_nil, or_false] at h
            rcases h with rfl | rfl
            · exact cw
            · exact iw (by decide)
        · exact one (by simp) fun d h => by
            simp only [List.mem_cons, List.not_mem_nil, or_false] at h
            rcases h with rfl | rfl
            · exact cw
            · exact ⟨gv_bl, z0⟩
        · have k : ∀ d ∈ [D.str "cell", .int 0], gv S2 (m + 1) d ∧ dep d ≤ 0 := fun d h => by
            simp only [List.mem_cons, List.not_mem_nil, or_false] at h
            rcases h with rfl | rfl
            · exact cw
            · exact iw (by decide)
          exact ⟨gv_fl.mpr ⟨by simp; omega, fun d h => (k d h).1⟩, df fun d h => (k d h).2⟩
        · exact one (by simp) fun d h => by
            rw [List.mem_singleton.mp h]; exact cw
        · exact one (by simp) fun d h => by
            simp only [List.mem_cons, List.not_mem_nil, or_false] at h
            rcases h with rfl | rfl | rfl
            · exact cw
            · exact iw (by decide)
            · exact iw (by decide)
        · exact one (by simp) fun d h => by
            simp only [List.mem_cons, List.not_mem_nil, or_false] at h
            rcases h with rfl | rfl
            · exact ⟨gs (by simp), z0⟩
            · exact iw (by decide)
        · exact one (by simp) fun d h => by
            simp only [List.mem_cons, List.not_mem_nil, or_false] at h
            rcases h with rfl | rfl
            · exact cw
            · exact iw (by decide)
    have sl0 : v20.length = 20 := by rw [hsome]; rfl
    have hP1 : S1 P = Option.some (.dk []) := by rw [of1 P pp pa, up_same]
    have o1 : Ofx p a S S1 := (Ofx.refl.up nP).trans of1.x
    clear hsome
    have fin : ∀ S2, Spr S2 p a (n + 1) → Off p a S1 S2 → sp__law_pick [.ref p, .fl v20] S2 (fun d S' => ∃ d1 S1, VW d S' d1 S1 ∧ Q d1 S1) X0 := fun S2 sp2 of2 =>
      ⟨p, a, n, _, v20, rfl, .inl rfl, by omega, by omega, sp2, fun d' S3 hd' sp3 of3 => by
        obtain ⟨g1, g2⟩ := all S3 (by rw [of3 P pp pa, of2 P pp pa]; exact hP1) d' hd'
        exact rt_of (q d' S3 g1 g2 sp3 (o1.trans (of2.trans of3).x))⟩
    have gvS : ∀ S2, Off p a S1 S2 → gv S2 m d := fun S2 of2 => gv_le ((o1.trans of2.x).kp sp) (Nat.le_refl _) hd
    have nmS : ∀ S2 z, d = .str z → Spr S2 p a (n + 3) → Off p a S1 S2 → sp__law_pick [D.ref p, D.fl (List.map D.str ws)] S2 (fun x S1 => addD false d (D.str (Str.ofString "a")) S1 fun x_1 S1 => negD (D.int 1) S1 fun x_2 S1 => ∃ i, x_2 = D.int i ∧ sliceD false d none (Option.some i) S1 fun x_3 S1 => sp__law_draw [D.ref p, D.int 3] S1 (fun y S2 => ixD (D.fl [x, x_1, x_3]) y S2 fun d S' => ∃ d1 S1, VW d S' d1 S1 ∧ Q d1 S1) X0) X0 := fun S2 z e sp2 of2 => by
      subst e
      obtain ⟨z1, z2⟩ := gv_str.mp hd
      refine pick_s (n := n + 2) w0 w30 (sp2.mono (by omega)) fun w S3 hw sp3 of3 => add_s (by show z.length + 1 ≤ _; rw [sizeLine_eq]; omega) (neg_i ⟨_, rfl, by rw [sizeLine_eq]; omega, p, a, n + 1, 3, rfl, by decide, by decide, sp3, fun j S4 j0 j1 sp4 of4 => ?_⟩)
      have o4 : Ofx p a S S4 := o1.trans ((of2.trans of3).trans of4).x
      have : j = 0 ∨ j = 1 ∨ j = 2 := by omega
      have d0 : ∀ {v : V}, dep (.at v) ≤ 1 := fun {v} => by rw [dep_at]; exact Nat.zero_le _
      rcases this with rfl | rfl | rfl
      · exact ix_sq rfl rfl (at_n (i := 0) rfl) (rt_of (q _ S4 (gv_str.mpr ⟨(wok w hw).1, by have := (wok w hw).2; omega⟩) d0 (sp4.mono (by omega)) o4))
      · exact ix_sq rfl rfl (at_n (i := 1) rfl) (rt_of (q _ S4 (gv_str.mpr ⟨ok_app z1 (s5 "a" (by simp)).1, by rw [len_app]; show z.length + 1 ≤ _; omega⟩) d0 (sp4.mono (by omega)) o4))
      · exact ix_sq rfl rfl (at_n (i := 2) rfl) (rt_of (q _ S4 (gv_str.mpr ⟨(ok_cut z1).1, Nat.le_trans (ok_cut z1).2 (by omega)⟩) d0 (sp4.mono (by omega)) o4))
    have lt0 : ∀ {S2 : Sto} {i : Int} {A B : Sto → Prop}, A S2 → B S2 → DL.intD (fun x x_1 => True) (fun i j => V.bl (decide (j < i))) (.int i) (D.int 0) S2 fun x S1 => ∃ c, x = D.bl c ∧ if c = true then A S1 else B S1 := fun h1 h2 => it_of trivial ⟨_, rfl, br2 (fun _ => h1) fun _ => h2⟩
    have txt : ∀ S2, Spr S2 p a (n + 4) → Off p a S1 S2 → ∃ t, tyN S2 d = Option.some t ∧ truD (D.bl (kis t "str")) S2 fun c S1 => if c = true then sp__law_draw [D.ref p, D.int 3] S1 (fun x S1 => DL.intD (fun x x_1 => True) (fun i j => V.bl (decide (j < i))) x (D.int 0) S1 fun x S1 => ∃ c, x = D.bl c ∧ if c = true then sp__law_pick [D.ref p, D.fl (List.map D.str ws)] S1 (fun x S1 => addD false d (D.str (Str.ofString "a")) S1 fun x_1 S1 => negD (D.int 1) S1 fun x_2 S1 => ∃ i, x_2 = D.int i ∧ sliceD false d none (Option.some i) S1 fun x_3 S1 => sp__law_draw [D.ref p, D.int 3] S1 (fun y S2 => ixD (D.fl [x, x_1, x_3]) y S2 fun d S' => ∃ d1 S1, VW d S' d1 S1 ∧ Q d1 S1) X0) X0 else sp__law_pick [D.ref p, D.fl v20] S1 (fun d S' => ∃ d1 S1, VW d S' d1 S1 ∧ Q d1 S1) X0) X0 else sp__law_pick [D.ref p, D.fl v20] S1 (fun d S' => ∃ d1 S1, VW d S' d1 S1 ∧ Q d1 S1) X0 := fun S2 sp2 of2 =>
      ty_s (gvS S2 of2) (fun z e => brT rfl ⟨p, a, n + 3, 3, rfl, by decide, by decide, sp2, fun j S3 j0 j1 sp3 of3 => lt0 (nmS S3 z e sp3 (of2.trans of3)) (fin S3 (sp3.mono (by omega)) (of2.trans of3))⟩) fun _ => brF rfl (fin S2 (sp2.mono (by omega)) of2)
    obtain ⟨t, h1, h2, h3, h4, h5⟩ := gv_ty (gvS S1 .refl)
    refine ⟨t, h1, tru_b ?_⟩
    rw [h4]
    have int : ∀ S2 (i : Int), i.natAbs ≤ 10 ^ 30 + m → Spr S2 p a (n + 3) → Off p a S1 S2 → negD (D.int 1) S2 fun x_1 S1 => sp__law_draw [D.ref p, D.int 2] S1 (fun y S2 => ixD (D.fl [D.int 1, x_1]) y S2 fun y S2 => addD false (.int i) y S2 fun d S' => ∃ d1 S1, VW d S' d1 S1 ∧ Q d1 S1) X0 := fun S2 i hi sp2 of2 => neg_i ⟨p, a, n + 2, 2, rfl, by decide, by decide, sp2, fun j S3 j0 j1 sp3 of3 => by
      have o3 : Ofx p a S S3 := o1.trans (of2.trans of3).x
      have : j = 0 ∨ j = 1 := by omega
      have d0 : ∀ {v : V}, dep (.at v) ≤ 1 := fun {v} => by rw [dep_at]; exact Nat.zero_le _
      rcases this with rfl | rfl
      · exact ix_sq rfl rfl (at_n (i := 0) rfl) (add_i (rt_of (q _ S3 (gv_int.mpr (by omega)) d0 (sp3.mono (by omega)) o3)))
      · exact ix_sq rfl rfl (at_n (i := 1) rfl) (add_i (rt_of (q _ S3 (gv_int.mpr (by omega)) d0 (sp3.mono (by omega)) o3)))⟩
    cases hI : isI d with
    | true =>
      obtain ⟨i, rfl⟩ := i_of hI
      have hi := gv_int.mp hd
      refine brT rfl ⟨p, a, n + 4, 3, rfl, by decide, by decide, sp1.mono (by omega), fun j S3 j0 j1 sp3 of3 => lt0 ?_ ?_⟩
      · exact .inr ⟨i, rfl, int S3 i hi (sp3.mono (by omega)) of3⟩
      · exact txt S3 sp3 of3
    | false =>
      cases hB : isB d with
      | true =>
        obtain ⟨b, rfl⟩ : ∃ b, d = .bl b := by
          unfold isB at hB
          split at hB
          · exact ⟨_, rfl⟩
          · cases hB
        refine brT rfl ⟨p, a, n + 4, 3, rfl, by decide, by decide, sp1.mono (by omega), fun j S3 j0 j1 sp3 of3 => lt0 ?_ ?_⟩
        · exact .inl ⟨b, rfl, int S3 _ (by have : (if b = true then (1 : Int) else 0).natAbs ≤ 1 := (by cases b <;> decide); omega) (sp3.mono (by omega)) of3⟩
        · exact txt S3 sp3 of3
      | false => exact brF rfl (txt S1 (sp1.mono (by omega)) .refl)
def sp__law_bent : Nat → SpD
  | 0 => fun _ _ _ _ => False
  | N + 1 => fun ds S Q _ => ∃ (p a : Addr) (n m k : Nat) (d : D) (ks : List Hd) (ps : List Pc), ds = [.ref p, d, prD (.tup (ks.map hdD)) ps] ∧ PrOk ks ps ∧ gv S m d ∧ m ≤ 9 ∧ dep d ≤ k ∧ k ≤ N ∧ Spr S p a (n + 10 * (N + 1)) ∧ ∀ d' S', gv S' (m + 1) d' → dep d' ≤ k + 1 → Spr S' p a n → Ofx p a S S' → Q d' S'
theorem rec__law_bent {P : Program} {w : World} {K : PySem.W.Frag} {mg : Str → Option Value} {base : Heap} {n : Nat} (T : Txt K w mg) (C__law_odd : Cal P w K mg base 3 "_law_odd" s__law_odd ["deck", "given", "code"] sp__law_odd) (C__law_draw : Cal P w K mg base 1 "_law_draw" s__law_draw ["deck", "many"] sp__law_draw) (C__law_bent : Cal P w K mg base (4 + n) "_law_bent" s__law_bent ["deck", "given", "code"] (sp__law_bent n)) {ff : Addr} {fd : FuncData} (F : Fun K "_law_bent" "_law_bent" s__law_bent ff fd) (mf : mg "_law_bent" = some (.ref ff)) : Cal P w K mg base (4 + (n + 1)) "_law_bent" s__law_bent ["deck", "given", "code"] (sp__law_bent (n + 1)) := by
  refine ⟨ff, fd, okD F sc__law_bent (fun ds S Q E h => ?len) (fun cdv A outer s H E ds S Q E' hcd hr h => ⟨_, (dss_cons (ds_if (dw_or (dt_not (dt_tr td_tru (de_isi (tn := "tuple") (by rfl) T.nb_isinstance (by rfl) T.nb_tuple (de_var 1)))) (dw_or1 (dt_cmp (od_eq0 hr) (de_var 1) (de_tup da_nil)))).pt (dss_one (ds_ret (de_c C__law_odd hr (da_cons (de_var 0) (da_cons (de_var 1) (da_cons (de_var 2) da_nil))) (hk := Nat.le_add_right_of_le (by decide))))) dss_nil)
      (dss_cons (ds_par 3 4 rfl sc__law_bent.nd (da_cons (de_c C__law_draw hr (da_cons (de_var 0) (da_cons (de_callB cd_len (by rfl) T.nb_len (da_cons (de_var 1) da_nil)) da_nil)) (hk := Nat.le_add_right_of_le (by decide))) (da_cons (de_c C__law_draw hr (da_cons (de_var 0) (da_cons de_int da_nil)) (hk := Nat.le_add_right_of_le (by decide))) da_nil)))
      (dss_cons (ds_if (dt_cmp od_gt (de_var 4) de_int) (dss_one (ds_ret (de_op (od_add false) (de_op (od_add false) (de_slice (xd_slice false) (de_var 1) do_none (do_some (de_var 3))) (de_tup (da_cons (de_c C__law_bent hr (da_cons (de_var 0) (da_cons (de_ix (xd_ix hr) (de_var 1) (de_var 3)) (da_cons (de_var 2) da_nil))) (hk := Nat.le_refl _)) da_nil))) (de_slice (xd_slice false) (de_var 1) (do_some (de_op (od_add false) (de_var 3) de_int)) do_none)))) dss_nil)
      (dss_cons (ds_if (dt_cmp (od_eq hr) (de_var 4) de_int) (dss_one (ds_ret (de_op (od_add false) (de_slice (xd_slice false) (de_var 1) do_none (do_some (de_var 3))) (de_slice (xd_slice false) (de_var 1) (do_some (de_op (od_add false) (de_var 3) de_int)) do_none)))) dss_nil)
      (dss_cons (ds_if (dt_cmp (od_eq hr) (de_var 4) de_int) (dss_one (ds_ret (de_op (od_add false) (de_op (od_add false) (de_slice (xd_slice false) (de_var 1) do_none (do_some (de_var 3))) (de_slice (xd_slice false) (de_var 1) (do_some (de_var 3)) (do_some (de_op (od_add false) (de_var 3) de_int)))) (de_slice (xd_slice false) (de_var 1) (do_some (de_var 3)) do_none)))) dss_nil)
      (dss_cons (ds_if (dt_cmp (od_eq hr) (de_var 4) de_int) (dss_one (ds_ret (de_op (od_add false) (de_slice (xd_slice false) (de_var 1) (do_some (de_var 3)) do_none) (de_slice (xd_slice false) (de_var 1) do_none (do_some (de_var 3)))))) dss_nil)
      (dss_cons (ds_if (dt_cmp (od_eq hr) (de_var 4) de_int) (dss_one (ds_ret (de_callTy (cd_list false) (by rfl) T.nb_list (da_cons (de_var 1) da_nil)))) dss_nil)
      (dss_one (ds_ret (de_op (od_add false) (de_op (od_add false) (de_slice (xd_slice false) (de_var 1) do_none (do_some (de_var 3))) (de_tup (da_cons (de_c C__law_odd hr (da_cons (de_var 0) (da_cons (de_ix (xd_ix hr) (de_var 1) (de_var 3)) (da_cons (de_var 2) da_nil))) (hk := Nat.le_add_right_of_le (by decide))) da_nil))) (de_slice (xd_slice false) (de_var 1) (do_some (de_var 3)) do_none))))))))))), ?run⟩), F.binds (ps := ["deck", "given", "code"]) fun _ _ _ _ _ _ us hl => match us, hl with | [_, _, _], _ => rfl, mf, F⟩
  case len => obtain ⟨p, a, m, mm, k, d, ks, ps, rfl, _⟩ := h; rfl
  case run =>
    obtain ⟨p, a, c, m, k, d, ks, ps, rfl, h⟩ := h
    simp only [dVar, dC, dOp, dUn, dChain, dTr, dB, dAnd, dOr, dNot, dIf, dAndV, dOrV, dNotV, dNil, dCons, dTup, dLst, dLf, dNext, dSeq, dBreak, dCont, dDrop, dRet, dRetN, dIfS, gdName, gdNil, gdCons, gdTup, gdSub, dAsg, dPar, dCall, dCallK, dCB, dM0, dM, dGet1, dGet2, dDk, dDt, dPart, dNoPart, dSlice, dAug, dYes, dSort2, revD, iTupD, iLstD, iLf, iLw, iRange1, iRange2, iRange3, iEnumD, iZipD, iZipMD, iStrD, dGix, dDc, dIsi, dSortSet, dLenSet, dDlit, gdLst, dFor, dWhile, dLc, dLcM, dFld, dFldSet, dFldAdd, dMeth, dMake, dPar3, dDisp, dPrs, dFsi, dGget, dKgt, dKgtL, dDz, iEnumMD, dCut, dTcut, wipeD, bodyE, startD, List.map_cons, List.map_nil, List.length_cons, List.length_nil, List.replicate_succ, List.replicate_zero, List.cons_append, List.nil_append, Nat.reduceAdd, Nat.reduceSub, Nat.zero_add, List.getElem?_cons_zero, List.getElem?_cons_succ, List.set_cons_zero, List.set_cons_succ, Option.some.injEq, exists_eq_left', exists_eq_left, if_true, sizeLine_eq, Nat.reduceLeDiff, Nat.reduceLT, Nat.zero_le, true_and, and_true, Bool.false_eq_true, if_false]
    obtain ⟨ok, hd, hm, hk, hkn, sp, q⟩ := h
    have odd : ∀ S1, Spr S1 p a (c + 6) → Off p a S S1 → sp__law_odd [.ref p, d, prD (.tup (ks.map hdD)) ps] S1 (fun d S' => ∃ d1 S1, VW d S' d1 S1 ∧ Q d1 S1) X0 := fun S1 sp1 of1 =>
      ⟨p, a, c, m, d, ks, ps, rfl, ok, gv_le (of1.kp sp) (Nat.le_refl _) hd, hm, sp1, fun d' S' g1 g2 sp2 of2 => rt_of (q d' S' g1 (by omega) sp2 (of1.x.trans of2))⟩
    refine ty_tp hd (fun ds e => ?_) fun e => brT rfl (odd S (sp.mono (by omega)) .refl)
    subst e
    refine brF rfl (e0_t ⟨_, rfl, br2 (fun _ => odd S (sp.mono (by omega)) .refl) fun g => ?_⟩)
    have g : ds ≠ [] := fun e => by subst e; cases g
    have l0 : 0 < ds.length := List.length_pos_iff.mpr g
    obtain ⟨dl, hds⟩ := gv_tup.mp hd
    obtain ⟨k0, rfl⟩ : ∃ k0, k = k0 + 1 := ⟨k - 1, by
      have e : dep (.tup ds) = deps ds + 1 := by conv => lhs; unfold dep
      omega⟩
    have hdd := dep_tup.mp hk
    obtain ⟨n, rfl⟩ : ∃ n', n = n' + 1 := ⟨n - 1, by omega⟩
    refine len_sq rfl ⟨p, a, c + 10 * (n + 1) + 9, _, rfl, by omega, by omega, sp.mono (by omega), fun i S1 i0 i1 sp1 of1 => ⟨p, a, c + 10 * (n + 1) + 8, 12, rfl, by decide, by decide, sp1, fun way S2 w0 w1 sp2 of2 => ⟨_, _, rfl, ?_⟩⟩⟩
    obtain ⟨i, rfl⟩ : ∃ j : Nat, i = j := ⟨i.toNat, by omega⟩
    have hi : i < ds.length := by omega
    have of2 := of1.trans of2
    have eT : DL.cutD ds none (some (i : Int)) = ds.take i := cut_take ds i
    have eD : DL.cutD ds (some (i : Int)) none = ds.drop i := cut_drop ds i
    have eD1 : DL.cutD ds (some ((i : Int) + 1)) none = ds.drop (i + 1) := cut_drop ds (i + 1)
    have lT : (ds.take i).length = i := by rw [List.length_take]; omega
    have lD : (ds.drop i).length = ds.length - i := List.length_drop
    have lD1 : (ds.drop (i + 1)).length = ds.length - (i + 1) := List.length_drop
    have el : ∀ S', Kp S S' → ∀ d ∈ ds, gv S' (m + 1) d ∧ dep d ≤ k0 + 1 := fun S' k d h => ⟨gv_le k (by omega) (hds d h), by have := hdd d h; omega⟩
    have mT : ∀ {d}, d ∈ ds.take i → d ∈ ds := fun h => List.mem_of_mem_take h
    have mD : ∀ {j d}, d ∈ ds.drop j → d ∈ ds := fun h => List.mem_of_mem_drop h
    have fin : ∀ S' (l : List D), l.length ≤ ds.length + 1 → (∀ d ∈ l, gv S' (m + 1) d ∧ dep d ≤ k0 + 1) → Spr S' p a c → Ofx p a S S' → ∃ d1 S1, VW (D.tup l) S' d1 S1 ∧ Q d1 S1 := fun S' l h1 h2 sp' of' =>
      rt_of (q _ S' (gv_tup.mpr ⟨by omega, fun d h => (h2 d h).1⟩) (dep_tup.mpr fun d h => (h2 d h).2) sp' of')
    have k2 : Kp S S2 := of2.x.kp sp
    have hx := List.getElem_mem hi
    have o2 := of2.x
    have spc : Spr S2 p a c := sp2.mono (by omega)
    refine it_of trivial ⟨_, rfl, br2 (fun _ => ⟨_, rfl, sl_t ?_⟩) fun _ => ⟨_, rfl, br2 (fun _ => ⟨_, rfl, sl_t (add_i ⟨_, rfl, sl_t ?_⟩)⟩) fun _ => ⟨_, rfl, br2 (fun _ => ⟨_, rfl, sl_t ⟨_, rfl, add_i ⟨_, rfl, sl_t ?_⟩⟩⟩) fun _ => ⟨_, rfl, br2 (fun _ => ⟨_, rfl, sl_t ⟨_, rfl, sl_t ?_⟩⟩) fun _ => ⟨_, rfl, br2 (fun _ => ⟨_, ds, rfl, rfl, brF rfl ?_⟩) fun _ => ⟨_, rfl, sl_t ?_⟩⟩⟩⟩⟩⟩
    · rw [eT]
      refine ix_sq rfl rfl (at_n (List.getElem?_eq_getElem hi)) ⟨p, a, c, m, k0, _, ks, ps, rfl, ok, gv_le k2 (Nat.le_refl _) (hds _ hx), hm, hdd _ hx, by omega, sp2.mono (by omega), fun d' S3 g1 g2 sp3 of3 => ?_⟩
      refine add_t (by rw [sizeLine_eq, List.length_singleton]; omega) (add_i ⟨_, rfl, sl_t ?_⟩)
      rw [eD1]
      refine add_t (by rw [sizeLine_eq, List.length_append, List.length_singleton]; omega) (fin S3 _ (by rw [List.length_append, List.length_append, List.length_singleton]; omega) (fun d h => ?_) sp3 (o2.trans of3))
      rcases List.mem_append.mp h with h | h
      · rcases List.mem_append.mp h with h | h
        · exact el S3 ((o2.trans of3).kp sp) d (mT h)
        · rw [List.mem_singleton.mp h]; exact ⟨g1, g2⟩
      · exact el S3 ((o2.trans of3).kp sp) d (mD h)
    · rw [eT, eD1]
      refine add_t (by rw [sizeLine_eq]; omega) (fin S2 _ (by rw [List.length_append]; omega) (fun d h => el S2 k2 d ((List.mem_append.mp h).elim mT mD)) spc o2)
    · rw [eT]
      have lC := cutD_len ds (some (i : Int)) (some ((i : Int) + 1))
      have lC1 : (DL.cutD ds (some (i : Int)) (some ((i : Int) + 1))).length ≤ 1 := by
        unfold DL.cutD HT.sIx
        dsimp only
        rw [List.length_take]
        split <;> split <;> omega
      refine add_t (by rw [sizeLine_eq]; omega) ⟨_, rfl, sl_t ?_⟩
      rw [eD]
      refine add_t (by rw [sizeLine_eq, List.length_append]; omega) (fin S2 _ (by rw [List.length_append, List.length_append]; omega) (fun d h => el S2 k2 d ?_) spc o2)
      rcases List.mem_append.mp h with h | h
      · exact (List.mem_append.mp h).elim mT cutD_mem
      · exact mD h
    · rw [eT, eD]
      refine add_t (by rw [sizeLine_eq]; omega) (fin S2 _ (by rw [List.length_append]; omega) (fun d h => el S2 k2 d ((List.mem_append.mp h).elim mD mT)) spc o2)
    · exact rt_of (q _ S2 (gv_fl.mpr ⟨by omega, fun d h => (el S2 k2 d h).1⟩) (dep_fl.mpr fun d h => (el S2 k2 d h).2) spc o2)
    · rw [eT]
      refine ix_sq rfl rfl (at_n (List.getElem?_eq_getElem hi)) ⟨p, a, c, m, _, ks, ps, rfl, ok, gv_le k2 (Nat.le_refl _) (hds _ hx), hm, sp2.mono (by omega), fun d' S3 g1 g2 sp3 of3 => ?_⟩
      refine add_t (by rw [sizeLine_eq, List.length_singleton]; omega) ⟨_, rfl, sl_t ?_⟩
      rw [eD]
      refine add_t (by rw [sizeLine_eq, List.length_append, List.length_singleton]; omega) (fin S3 _ (by rw [List.length_append, List.length_append, List.length_singleton]; omega) (fun d h => ?_) sp3 (o2.trans of3))
      rcases List.mem_append.mp h with h | h
      · rcases List.mem_append.mp h with h | h
        · exact el S3 ((o2.trans of3).kp sp) d (mT h)
        · rw [List.mem_singleton.mp h]; exact ⟨g1, by omega⟩
      · exact el S3 ((o2.trans of3).kp sp) d (mD h)
theorem ok__law_bent {P : Program} {w : World} {K : PySem.W.Frag} {mg : Str → Option Value} {base : Heap} (T : Txt K w mg) (C__law_odd : Cal P w K mg base 3 "_law_odd" s__law_odd ["deck", "given", "code"] sp__law_odd) (C__law_draw : Cal P w K mg base 1 "_law_draw" s__law_draw ["deck", "many"] sp__law_draw) {ff : Addr} {fd : FuncData} (F : Fun K "_law_bent" "_law_bent" s__law_bent ff fd) (mf : mg "_law_bent" = some (.ref ff)) : ∀ n : Nat, Cal P w K mg base (4 + n) "_law_bent" s__law_bent ["deck", "given", "code"] (sp__law_bent n)
  | 0 => cal_no F mf (F.binds (ps := ["deck", "given", "code"]) fun _ _ _ _ _ _ us hl => match us, hl with | [_, _, _], _ => rfl) fun _ _ _ _ h => h
  | n + 1 => rec__law_bent T  C__law_odd C__law_draw (ok__law_bent T C__law_odd C__law_draw F mf n) F mf
end K10


namespace K10
open PySem L2 PyProof.Rows DL
def sp__law_told : SpD := fun ds S Q _ => ∃ (n : Nat) (d : D) (ks : List Hd) (ps : List Pc), ds = [prD (.tup (ks.map hdD)) ps, d] ∧ gv S n d ∧ n ≤ 10 ∧ PrOk ks ps ∧ Q (.bl true) S
theorem ok__law_told {P : Program} {w : World} {K : PySem.W.Frag} {mg : Str → Option Value} {base : Heap} (T : Txt K w mg) (C_is_state : Cal P w K mg base 7 "is_state" s_is_state ["program", "thing"] sp_is_state) (C__law_due : Cal P w K mg base 5 "_law_due" s__law_due ["code", "given"] sp__law_due) {ff : Addr} {fd : FuncData} (F : Fun K "_law_told" "_law_told" s__law_told ff fd) (mf : mg "_law_told" = some (.ref ff)) : Cal P w K mg base 8 "_law_told" s__law_told ["code", "given"] sp__law_told := by
  refine ⟨ff, fd, okD F sc__law_told (fun ds S Q E h => ?len) (fun cdv A outer s H E ds S Q E' hcd hr h => ⟨_, (dss_cons (ds_for PassesOwn.never rfl (di_lf (de_lf (da_cons (de_c C_is_state hr (da_cons (de_var 0) (da_cons (de_var 1) da_nil))) (da_cons (de_ck0 C_is_state hr kw_is_state_thing_program (dk_cons (de_var 1) (dk_cons (de_var 0) dk_nil))) da_nil)))) (dg_name 2 sc__law_told.nd) (dss_one (ds_if (dw_or (dt_not (dt_tr td_tru (de_isi (tn := "bool") (by rfl) T.nb_isinstance (by rfl) T.nb_bool (de_var 2)))) (dw_or1 (dt_cmp (od_ne hr) (de_var 2) (de_c C__law_due hr (da_cons (de_var 0) (da_cons (de_var 1) da_nil)))))).pt (dss_one (ds_ret de_bl)) dss_nil)))
      (dss_one (ds_ret de_bl))), ?run⟩), F.binds (ps := ["code", "given"]) fun _ _ _ _ _ _ us hl => match us, hl with | [_, _], _ => rfl, mf, F⟩
  case len => obtain ⟨n, d, ks, ps, rfl, _⟩ := h; rfl
  case run =>
    obtain ⟨n, d, ks, ps, rfl, h⟩ := h
    simp only [dVar, dC, dOp, dUn, dChain, dTr, dB, dAnd, dOr, dNot, dIf, dAndV, dOrV, dNotV, dNil, dCons, dTup, dLst, dLf, dNext, dSeq, dBreak, dCont, dDrop, dRet, dRetN, dIfS, gdName, gdNil, gdCons, gdTup, gdSub, dAsg, dPar, dCall, dCallK, dCB, dM0, dM, dGet1, dGet2, dDk, dDt, dPart, dNoPart, dSlice, dAug, dYes, dSort2, revD, iTupD, iLstD, iLf, iLw, iRange1, iRange2, iRange3, iEnumD, iZipD, iZipMD, iStrD, dGix, dDc, dIsi, dSortSet, dLenSet, dDlit, gdLst, dFor, dWhile, dLc, dLcM, dFld, dFldSet, dFldAdd, dMeth, dMake, dPar3, dDisp, dPrs, dFsi, dGget, dKgt, dKgtL, dDz, iEnumMD, dCut, dTcut, wipeD, bodyE, startD, List.map_cons, List.map_nil, List.length_cons, List.length_nil, List.replicate_succ, List.replicate_zero, List.cons_append, List.nil_append, Nat.reduceAdd, Nat.reduceSub, Nat.zero_add, List.getElem?_cons_zero, List.getElem?_cons_succ, List.set_cons_zero, List.set_cons_succ, Option.some.injEq, exists_eq_left', exists_eq_left, if_true, sizeLine_eq, Nat.reduceLeDiff, Nat.reduceLT, Nat.zero_le, true_and, and_true, Bool.false_eq_true, if_false]
    obtain ⟨hd, hn, ok, q⟩ := h
    refine ⟨n, d, ks, ps, rfl, hd, hn, ok, n, d, ks, ps, rfl, hd, hn, ok, _, rfl, ?_⟩
    refine fr_seq (fun i δ S' => ∃ r, δ = [some (prD (.tup (ks.map hdD)) ps), some d, r] ∧ S' = S) ⟨_, rfl, rfl⟩ ?_ ?_
    · rintro i x δ S' hx ⟨r, rfl, rfl⟩
      have ex : x = .bl (stB ks ps d) := by
        have := List.mem_of_getElem? hx
        simp only [List.mem_cons, List.not_mem_nil, or_false, or_self] at this
        exact this
      subst ex
      refine ⟨_, rfl, "bool", rfl, tru_b (brF rfl ⟨_, rfl, _, rfl, _, rfl, n, d, ks, ps, rfl, hd, hn, ok, ⟨_, rfl, brF (by cases stB ks ps d <;> rfl) ⟨_, rfl, rfl⟩⟩⟩)⟩
    · rintro i δ S' hi ⟨r, rfl, rfl⟩
      exact rt_of q
def w16 : List Str := ["copy", "none", "number", "plus", "minus", "times", "make", "read", "input", "tell", "call", "return", "jump", "less", "same", "is"]
theorem split_w16 : Txt.split "copy none number plus minus times make read input tell call return jump less same is" " " = w16 := by decide +kernel
theorem rep_smL {x : D} {k w : Nat} {S : Sto} {Q : KD} (h : Sm k w x) (hk : k ≤ 64) (hw : w ≤ 2 ^ 20) (q : Q (.str (toPy x).shown) S) : repD [x] S Q := by
  refine ⟨x, rfl, ?_, ?_, ?_⟩ <;> rw [rsv_pur h.p]
  · exact h.p
  · exact h.shows hk hw
  · exact q
theorem fr_sm {ys : List Str} (hl : ys.length ≤ 13) (hy : ∀ y ∈ ys, PyData.strOk y = true ∧ y.length ≤ 40) : Sm 5 10000 (.tup [.tup [frD "main" ys], .tup [], .int 0]) := by
  have m4 : PyData.strOk ("main" : Str) = true ∧ ("main" : Str).length ≤ 40 := by decide +kernel
  have i0 : ∀ {k w : Nat}, 40 ≤ w → Sm k w (.int 0) := fun h => Sm.int (by decide) h
  have p1 : Sm 2 (13 * (2 * 41 + 1)) (.tup (ys.map fun y => D.tup [.str y, .non])) := by
    refine Sm.tup (k := 1) (w := 2 * 41) (fun d hd => ?_) (by rw [List.length_map]; exact hl)
    obtain ⟨y, h, rfl⟩ := List.mem_map.mp hd
    refine Sm.tup (k := 0) (w := 40) (fun d hd => ?_) (by simp)
    simp only [List.mem_cons, List.not_mem_nil, or_false] at hd
    rcases hd with rfl | rfl
    · exact Sm.str (hy y h).1 (hy y h).2
    · exact Sm.non
  have p2 : Sm 3 (3 * (1079 + 1)) (frD "main" ys) := by
    refine Sm.tup (k := 2) (w := 1079) (fun d hd => ?_) (by simp)
    simp only [List.mem_cons, List.not_mem_nil, or_false] at hd
    rcases hd with rfl | rfl | rfl
    · exact Sm.str m4.1 (by have := m4.2; omega)
    · exact i0 (by decide)
    · exact p1.mono (by decide) (by decide)
  refine (Sm.tup (k := 4) (w := 3241) (n := 3) (fun d hd => ?_) (by simp)).mono (by decide) (by decide)
  simp only [List.mem_cons, List.not_mem_nil, or_false] at hd
  rcases hd with rfl | rfl | rfl
  · refine (Sm.tup (k := 3) (w := 3240) (n := 1) (fun d hd => ?_) (by simp)).mono (by decide) (by decide)
    rw [List.mem_singleton.mp hd]
    exact p2
  · exact (Sm.tup (k := 0) (w := 0) (n := 0) (fun d hd => by cases hd) (by simp)).mono (by decide) (by decide)
  · exact i0 (by decide)
def sp_law : SpD := fun ds S Q _ => ∃ ns : List Int, ds = [.fl (ns.map D.int)] ∧ ns.length ≤ 63 ∧ ∀ S', Q (.bl true) S'
theorem ok_law {P : Program} {w : World} {K : PySem.W.Frag} {mg : Str → Option Value} {base : Heap} (T : Txt K w mg) (C__law_deck : Cal P w K mg base 1 "_law_deck" s__law_deck ["script"] sp__law_deck) (C__law_program : Cal P w K mg base 4 "_law_program" s__law_program ["deck", "fewest", "words"] sp__law_program) (C__law_chain : Cal P w K mg base 3 "_law_chain" s__law_chain ["deck", "code"] sp__law_chain) (C__law_cells : Cal P w K mg base 4 "_law_cells" s__law_cells ["deck", "kinds"] sp__law_cells) (C__law_bent : Cal P w K mg base 16 "_law_bent" s__law_bent ["deck", "given", "code"] (sp__law_bent 12)) (C__law_frames : Cal P w K mg base 4 "_law_frames" s__law_frames ["deck", "code", "spots", "cells"] sp__law_frames) (C__law_made : Cal P w K mg base 2 "_law_made" s__law_made ["deck", "cells"] sp__law_made) (C__law_draw : Cal P w K mg base 1 "_law_draw" s__law_draw ["deck", "many"] sp__law_draw) (C__law_told : Cal P w K mg base 8 "_law_told" s__law_told ["code", "given"] sp__law_told) (C_is_state : Cal P w K mg base 7 "is_state" s_is_state ["program", "thing"] sp_is_state) (C_first_state : Cal P w K mg base 5 "first_state" s_first_state ["program"] sp_first_state) (C__law_variables : Cal P w K mg base 1 "_law_variables" s__law_variables ["code", "name"] sp__law_variables) (C__law_rows : Cal P w K mg base 1 "_law_rows" s__law_rows ["code", "name"] sp__law_rows) {ff : Addr} {fd : FuncData} (F : Fun K "law" "law" s_law ff fd) (mf : mg "law" = some (.ref ff)) : Cal P w K mg base 17 "law" s_law ["script"] sp_law := by
  refine ⟨ff, fd, okD F sc_law (fun ds S Q E h => ?len) (fun cdv A outer s H E ds S Q E' hcd hr h => ⟨_, (dss_cons (ds_set 1 sc_law.nd (de_c C__law_deck hr (da_cons (de_var 0) da_nil)))
      (dss_cons (ds_set 2 sc_law.nd (de_m PySem.F.plainAttrs_str PySem.F.slot_str_split PySem.F.type_str_split (md_split false) de_str (da_cons de_str da_nil)))
      (dss_cons (ds_for PassesOwn.never rfl (di_range1 (by rfl) T.nb_range (da_cons de_int da_nil)) (dg_name 3 sc_law.nd) (dss_cons (ds_set 4 sc_law.nd (de_c C__law_program hr (da_cons (de_var 1) (da_cons de_int (da_cons (de_op (od_add false) (de_var 2) (de_lf (da_cons de_str (da_cons de_str (da_cons de_str da_nil))))) da_nil)))))
      (dss_cons (ds_asg (de_c C__law_chain hr (da_cons (de_var 1) (da_cons (de_var 4) da_nil))) (dg_tup (n := 2) rfl (dgs_cons (dg_name 5 sc_law.nd) (dgs_cons (dg_name 6 sc_law.nd) dgs_nil))))
      (dss_cons (ds_set 7 sc_law.nd (de_c C__law_cells hr (da_cons (de_var 1) (da_cons (de_ix (xd_ix hr) (de_var 4) de_int) da_nil))))
      (dss_cons (ds_set 8 sc_law.nd (de_op (od_add false) (de_var 5) (de_lf (da_cons (de_tup (da_cons (de_var 6) (da_cons (de_c C__law_draw hr (da_cons (de_var 1) (da_cons (de_op (od_add false) (de_callB cd_len (by rfl) T.nb_len (da_cons (de_c C__law_rows hr (da_cons (de_var 4) (da_cons (de_var 6) da_nil))) da_nil)) de_int) da_nil))) da_nil))) da_nil))))
      (dss_cons (ds_set 9 sc_law.nd (de_tup (da_cons (de_c C__law_frames hr (da_cons (de_var 1) (da_cons (de_var 4) (da_cons (de_var 8) (da_cons (de_var 7) da_nil))))) (da_cons (de_var 7) (da_cons (de_c C__law_made hr (da_cons (de_var 1) (da_cons (de_var 7) da_nil))) da_nil)))))
      (dss_cut (ds_if (dt_cmp (od_eq hr) (de_c C__law_draw hr (da_cons (de_var 1) (da_cons de_int da_nil))) de_int) (dss_one (ds_set 9 sc_law.nd (de_op (od_add false) (de_tup (da_cons (de_tup da_nil) da_nil)) (de_slice (xd_slice false) (de_var 9) (do_some de_int) do_none)))) dss_nil)
      (dss_cons (ds_set 10 sc_law.nd (de_tup (da_cons de_str (da_cons de_int (da_cons (de_callTy cd_tuple (by rfl) T.nb_tuple (da_cons (de_lc [("one", 11)] rfl sc_law.nd (di_lf (de_c C__law_variables hr (da_cons (de_var 4) (da_cons de_str da_nil)))) (blkOk_by (N := ["script", "deck", "words", "turn", "code", "chain", "name", "cells", "spots", "state", "begin", "one", "k", "twice", "odd", "given"]) (sc := defScope s_law) (by decide +kernel)) (fun _ _ _ _ _ => (pg_name (i := 11) sc_law.nd rfl (Or.inl rfl) (Or.inr rfl))) (fun N => (tg_name (vs := [11]) (i := 11) (by decide))) (fun _ _ _ _ _ => dts_nil) (fun _ _ _ _ _ => (de_tup (da_cons (de_var 11) (da_cons de_non da_nil))))) da_nil)) da_nil)))))
      (dss_cons (ds_if (dw_or (dt_cmp (od_ne hr) (de_callB (cd_repr hr) (by rfl) T.nb_repr (da_cons (de_c C_first_state hr (da_cons (de_var 4) da_nil)) da_nil)) (de_callB (cd_repr hr) (by rfl) T.nb_repr (da_cons (de_tup (da_cons (de_tup (da_cons (de_var 10) da_nil)) (da_cons (de_tup da_nil) (da_cons de_int da_nil)))) da_nil))) (dw_or1 (dt_cmp od_isnotb (de_c C_is_state hr (da_cons (de_var 4) (da_cons (de_var 9) da_nil))) de_bl))).pt (dss_one (ds_ret de_bl)) dss_nil)
      (dss_cons (ds_if (dt_not (dt_tr td_tru (de_c C__law_told hr (da_cons (de_var 4) (da_cons (de_c C_first_state hr (da_cons (de_var 4) da_nil)) da_nil))))) (dss_one (ds_ret de_bl)) dss_nil)
      (dss_cons (ds_for PassesOwn.never rfl (di_range1 (by rfl) T.nb_range (da_cons de_int da_nil)) (dg_name 12 sc_law.nd) (dss_one (ds_if (dt_not (dt_tr td_tru (de_c C__law_told hr (da_cons (de_var 4) (da_cons (de_c C__law_bent hr (da_cons (de_var 1) (da_cons (de_var 9) (da_cons (de_var 4) da_nil)))) da_nil))))) (dss_one (ds_ret de_bl)) dss_nil)))
      (dss_cons (ds_set 13 sc_law.nd (de_c C__law_bent hr (da_cons (de_var 1) (da_cons (de_c C__law_bent hr (da_cons (de_var 1) (da_cons (de_var 9) (da_cons (de_var 4) da_nil)))) (da_cons (de_var 4) da_nil)))))
      (dss_one (ds_if (dw_or (dt_not (dt_tr td_tru (de_c C__law_told hr (da_cons (de_var 4) (da_cons (de_var 13) da_nil))))) (dw_or (dt_not (dt_tr td_tru (de_c C__law_told hr (da_cons (de_var 4) (da_cons (de_slice (xd_slice false) (de_var 9) do_none (do_some de_int)) da_nil))))) (dw_or1 (dt_not (dt_tr td_tru (de_c C__law_told hr (da_cons (de_var 4) (da_cons (de_callTy (cd_list false) (by rfl) T.nb_list (da_cons (de_var 9) da_nil)) da_nil)))))))).pt (dss_one (ds_ret de_bl)) dss_nil))))))))))))))
      (dss_cons (ds_set 14 sc_law.nd (de_lf (da_cons de_non (da_cons de_bl (da_cons de_int (da_cons de_str (da_cons de_str (da_cons (de_tup da_nil) (da_cons (de_lf da_nil) (da_cons de_dk (da_cons (de_tup (da_cons (de_tup da_nil) (da_cons (de_tup da_nil) da_nil))) (da_cons (de_tup (da_cons (de_tup da_nil) (da_cons (de_tup da_nil) (da_cons de_int da_nil)))) (da_cons (de_tup (da_cons (de_tup da_nil) (da_cons (de_tup da_nil) (da_cons (de_un ud_neg de_int) da_nil)))) (da_cons (de_tup (da_cons (de_tup da_nil) (da_cons (de_tup da_nil) (da_cons de_bl da_nil)))) (da_cons (de_tup (da_cons (de_tup da_nil) (da_cons (de_lf da_nil) (da_cons de_int da_nil)))) da_nil)))))))))))))))
      (dss_cons (ds_for PassesOwn.never rfl (di_lf (de_var 14)) (dg_name 15 sc_law.nd) (dss_one (ds_if (dt_not (dt_tr td_tru (de_c C__law_told hr (da_cons (de_var 4) (da_cons (de_var 15) da_nil))))) (dss_one (ds_ret de_bl)) dss_nil)))
      (dss_one (ds_ret de_bl))))))), ?run⟩), F.binds (ps := ["script"]) fun _ _ _ _ _ _ us hl => match us, hl with | [_], _ => rfl, mf, F⟩
  case len => obtain ⟨ns, rfl, _⟩ := h; rfl
  case run =>
    obtain ⟨ns, rfl, hl, q⟩ := h
    simp only [dVar, dC, dOp, dUn, dChain, dTr, dB, dAnd, dOr, dNot, dIf, dAndV, dOrV, dNotV, dNil, dCons, dTup, dLst, dLf, dNext, dSeq, dBreak, dCont, dDrop, dRet, dRetN, dIfS, gdName, gdNil, gdCons, gdTup, gdSub, dAsg, dPar, dCall, dCallK, dCB, dM0, dM, dGet1, dGet2, dDk, dDt, dPart, dNoPart, dSlice, dAug, dYes, dSort2, revD, iTupD, iLstD, iLf, iLw, iRange1, iRange2, iRange3, iEnumD, iZipD, iZipMD, iStrD, dGix, dDc, dIsi, dSortSet, dLenSet, dDlit, gdLst, dFor, dWhile, dLc, dLcM, dFld, dFldSet, dFldAdd, dMeth, dMake, dPar3, dDisp, dPrs, dFsi, dGget, dKgt, dKgtL, dDz, iEnumMD, dCut, dTcut, wipeD, bodyE, startD, List.map_cons, List.map_nil, List.length_cons, List.length_nil, List.replicate_succ, List.replicate_zero, List.cons_append, List.nil_append, Nat.reduceAdd, Nat.reduceSub, Nat.zero_add, List.getElem?_cons_zero, List.getElem?_cons_succ, List.set_cons_zero, List.set_cons_succ, Option.some.injEq, exists_eq_left', exists_eq_left, if_true, sizeLine_eq, Nat.reduceLeDiff, Nat.reduceLT, Nat.zero_le, true_and, and_true, Bool.false_eq_true, if_false]
    refine ⟨ns, rfl, hl, fun p a S1 sp1 _ _ of1 => ?_⟩
    refine ⟨rfl, _, _, rfl, rfl, by decide +kernel, Nat.le_of_ble_eq_true (by decide +kernel), brF rfl ?_⟩
    rw [split_w16]
    refine ⟨_, rfl, by decide, by decide, ?_⟩
    refine fr_rng (fun i δ S' => ∃ r3 r4 r5 r6 r7 r8 r9 r10 r11 r12 r13 r14 r15, δ = [some (.fl (ns.map D.int)), some (.ref p), some (.fl (w16.map D.str)), r3, r4, r5, r6, r7, r8, r9, r10, r11, r12, r13, r14, r15] ∧ i ≤ 6 ∧ (0 < i → ∃ (ks : List Hd) (ps : List Pc), PrOk ks ps ∧ r4 = some (prD (.tup (ks.map hdD)) ps)) ∧ Spr S' p a (100000 - 10000 * i)) ⟨_, _, _, _, _, _, _, _, _, _, _, _, _, rfl, Nat.zero_le _, (fun h => absurd h (by decide)), sp1.mono (by decide)⟩ ?_ ?_
    · rintro i δ S2 hi ⟨r3, r4, r5, r6, r7, r8, r9, r10, r11, r12, r13, r14, r15, rfl, _, _, sp2⟩
      simp only [dVar, dC, dOp, dUn, dChain, dTr, dB, dAnd, dOr, dNot, dIf, dAndV, dOrV, dNotV, dNil, dCons, dTup, dLst, dLf, dNext, dSeq, dBreak, dCont, dDrop, dRet, dRetN, dIfS, gdName, gdNil, gdCons, gdTup, gdSub, dAsg, dPar, dCall, dCallK, dCB, dM0, dM, dGet1, dGet2, dDk, dDt, dPart, dNoPart, dSlice, dAug, dYes, dSort2, revD, iTupD, iLstD, iLf, iLw, iRange1, iRange2, iRange3, iEnumD, iZipD, iZipMD, iStrD, dGix, dDc, dIsi, dSortSet, dLenSet, dDlit, gdLst, dFor, dWhile, dLc, dLcM, dFld, dFldSet, dFldAdd, dMeth, dMake, dPar3, dDisp, dPrs, dFsi, dGget, dKgt, dKgtL, dDz, iEnumMD, dCut, dTcut, wipeD, bodyE, startD, List.map_cons, List.map_nil, List.length_cons, List.length_nil, List.replicate_succ, List.replicate_zero, List.cons_append, List.nil_append, Nat.reduceAdd, Nat.reduceSub, Nat.zero_add, List.getElem?_cons_zero, List.getElem?_cons_succ, List.set_cons_zero, List.set_cons_succ, Option.some.injEq, exists_eq_left', exists_eq_left, if_true, sizeLine_eq, Nat.reduceLeDiff, Nat.reduceLT, Nat.zero_le, true_and, and_true, Bool.false_eq_true, if_false]
      have hi : i < 6 := hi
      refine add_f rfl rfl (by rw [sizeLine_eq]; exact Nat.le_of_ble_eq_true rfl) ⟨p, a, 100000 - 10000 * i - 4000, w16 ++ (["call", "call", "call"] : List Str), by rw [List.map_append]; rfl, by decide +kernel, by decide +kernel, by decide, sp2.mono (by omega), fun ks ps S3 ok sp3 of3 => ?_⟩
      refine ⟨p, a, 100000 - 10000 * i - 4020, ks, ps, rfl, ok, sp3.mono (by omega), fun l x F S4 ch ll nF hF fp fa sp4 of4 => ⟨_, rfl, rfl, _, _, rfl, _, _, rfl, rfl, ?_⟩⟩
      refine ix_sq rfl rfl at_0 ⟨p, a, 100000 - 10000 * i - 4320, ks, rfl, ok.kl, ok.kn, fun k hk => ⟨(ok.kok k hk).1, (ok.kok k hk).2.1, ok.knd k hk, (ok.kok k hk).2.2⟩, sp4.mono (by omega), fun cs is last S5 cl c6 l100 sp5 of5 => ?_⟩
      have hx := ch.top ok
      obtain ⟨P, hP1, hP2, hP3⟩ := rowsOf_ok ok hx
      have rl := hP3.rl
      rw [← hP2] at rl
      refine ⟨x, ks, ps, rfl, ok, hx, len_sq rfl (add_i ⟨p, a, 100000 - 10000 * i - 4321, _, rfl, by rw [rwsD_len]; omega, by rw [rwsD_len]; omega, sp5.mono (by omega), fun r S6 r0 r1 sp6 of6 => ?_⟩)⟩
      obtain ⟨r, rfl⟩ : ∃ j : Nat, r = j := ⟨r.toNat, by omega⟩
      rw [rwsD_len] at r1
      have hF6 : S6 F = some (.lst (l.map sptD)) := by rw [of6 F fp fa]; exact of5 F _ fp fa hF
      refine add_f (ls_l hF6) rfl (by rw [List.length_map, sizeLine_eq]; simp; omega) ?_
      have sps := ch.sps ok (i := r) (by omega)
      refine ⟨p, a, 100000 - 10000 * i - 5200, ks, ps, l ++ [(x, r)], cs, is, last, by rw [List.map_append]; rfl, ok, sps, by rw [List.length_append, List.length_singleton]; omega, cl, c6, sp6.mono (by omega), fun fs S7 fl hfs sp7 of7 => ?_⟩
      refine ⟨p, a, 100000 - 10000 * i - 5201, ks, cs, is, last, rfl, cl, sp7.mono (by omega), fun m S8 m1 m2 sp8 of8 => ?_⟩
      have frs := frs_ok sps fl hfs
      have st0 : StP ks ps (.tup [.tup fs, .tup cs, .int m]) := ⟨fs, _, m, is, rfl, by have := cl.lo; omega, cl.d m1, frs⟩
      have lo := cl.lo
      have fsl : fs.length ≤ 8 := by rw [fl, List.length_append, List.length_singleton]; omega
      have n9 : ∀ i ∈ is, i.natAbs ≤ 10 ^ 9 := fun i hi => by have := cl.n i hi; omega
      have fq : ∀ f ∈ fs, (∀ S, gv S 0 f) ∧ dep f ≤ 4 := fun f hf => by
        obtain ⟨j, hj, e⟩ := List.getElem_of_mem hf
        have h1 : fs[j]? = some f := by rw [List.getElem?_eq_getElem hj, e]
        have h2 : (l ++ [(x, r)])[j]? = some ((l ++ [(x, r)])[j]'(by omega)) := List.getElem?_eq_getElem (by omega)
        have g := hfs j _ f h2 h1
        exact ⟨fun S => fr_g ok (ok.sh _ (sps.r _ (List.mem_of_getElem? h2)).1).2 (sps.r _ (List.mem_of_getElem? h2)) g n9 S, fr_dep g⟩
      refine ⟨fun δ' S' => ∃ (d : D) (r5 r6 r7 r8 : Option D), δ' = [some (.fl (ns.map D.int)), some (.ref p), some (.fl (w16.map D.str)), some (.int (0 + (i : Nat))), some (prD (.tup (ks.map hdD)) ps), r5, r6, r7, r8, some d, r10, r11, r12, r13, r14, r15] ∧ (∃ b c e, d = .tup [b, c, e]) ∧ StP ks ps d ∧ (∀ S, gv S 0 d) ∧ dep d ≤ 6 ∧ Spr S' p a (100000 - 10000 * i - 5300), ⟨p, a, 100000 - 10000 * i - 5300, 6, rfl, by decide, by decide, sp8.mono (by omega), fun w S9 w0 w1 sp9 of9 => ⟨_, rfl, br2 (fun _ => ⟨_, rfl, sl_t (add_t (by rw [sizeLine_eq]; exact Nat.le_of_ble_eq_true rfl) ⟨.tup [.tup [], .tup cs, .int m], _, _, _, _, rfl, ⟨_, _, _, rfl⟩, ?_, fun S => ?_, ?_, sp9⟩)⟩) fun _ => ⟨_, _, _, _, _, rfl, ⟨_, _, _, rfl⟩, st0, fun S => ?_, ?_, sp9⟩⟩⟩, ?_⟩
      · exact ⟨[], _, m, is, rfl, by omega, cl.d m1, ⟨fun j f e => (by simp at e), fun f e => (by simp at e), fun j f g e => (by simp at e)⟩⟩
      · exact st_g (by simp) (by omega) (by omega) (fun d h => nomatch h) (cl.g S)
      · exact st_dep (fun d h => nomatch h) cl.dp
      · exact st_g (by omega) (by omega) (by omega) (fun d h => (fq d h).1 S) (cl.g S)
      · exact st_dep (fun d h => (fq d h).2) cl.dp
      rintro δ' S9 ⟨d, r5, r6, r7, r8, rfl, hd3, st, gd, dd, sp9⟩
      have sb : stB ks ps d = true := stB_iff.mpr st
      clear hfs fq st0 frs sps cl hP1 hP2 hP3 ch of5 of6 of7 of8 sp5 sp6 sp7 sp8 sp4 sp3 hF6 hF
      refine ⟨_, rfl, "main", ks, ps, rfl, ok, ok.m, fun ys hs => ⟨_, rfl, ?_⟩⟩
      have yl : ys.length ≤ 13 := by
        obtain ⟨P, hP1, hP2, hP3⟩ := rowsOf_ok ok ok.m
        have hn : ∀ y ∈ ys, y ∈ nm14 := fun y hy => by
          have := (hs.2.2 y).mp hy
          unfold varsOf at this
          rw [hP1] at this
          exact hP3.nm y this
        exact nd_len ys nm14 hs.2.1 hn
      refine lc_mp (fun d => .tup [d, .non]) (by rw [List.length_map]; omega) (fun W i x acc hx w => ⟨_, rfl, w⟩) ?_
      refine tpl_l rfl ⟨_, rfl, ks, ps, rfl, ok, fun ys' hs' => ?_⟩
      obtain rfl := hs.one hs'
      have ef : D.tup [D.str "main", .int 0, .tup (List.map (fun d => D.tup [d, .non]) (ys.map D.str))] = frD "main" ys := by rw [List.map_map]; rfl
      rw [ef]
      have ynm : ∀ y ∈ ys, y ∈ nm14 := fun y hy => by
        obtain ⟨P, hP1, hP2, hP3⟩ := rowsOf_ok ok ok.m
        have := (hs.2.2 y).mp hy
        unfold varsOf at this
        rw [hP1] at this
        exact hP3.nm y this
      have sm := fr_sm yl fun y hy => nm_sh y (ynm y hy)
      simp only [dVar, dC, dOp, dUn, dChain, dTr, dB, dAnd, dOr, dNot, dIf, dAndV, dOrV, dNotV, dNil, dCons, dTup, dLst, dLf, dNext, dSeq, dBreak, dCont, dDrop, dRet, dRetN, dIfS, gdName, gdNil, gdCons, gdTup, gdSub, dAsg, dPar, dCall, dCallK, dCB, dM0, dM, dGet1, dGet2, dDk, dDt, dPart, dNoPart, dSlice, dAug, dYes, dSort2, revD, iTupD, iLstD, iLf, iLw, iRange1, iRange2, iRange3, iEnumD, iZipD, iZipMD, iStrD, dGix, dDc, dIsi, dSortSet, dLenSet, dDlit, gdLst, dFor, dWhile, dLc, dLcM, dFld, dFldSet, dFldAdd, dMeth, dMake, dPar3, dDisp, dPrs, dFsi, dGget, dKgt, dKgtL, dDz, iEnumMD, dCut, dTcut, wipeD, bodyE, startD, List.map_cons, List.map_nil, List.length_cons, List.length_nil, List.replicate_succ, List.replicate_zero, List.cons_append, List.nil_append, Nat.reduceAdd, Nat.reduceSub, Nat.zero_add, List.getElem?_cons_zero, List.getElem?_cons_succ, List.set_cons_zero, List.set_cons_succ, Option.some.injEq, exists_eq_left', exists_eq_left, if_true, sizeLine_eq, Nat.reduceLeDiff, Nat.reduceLT, Nat.zero_le, true_and, and_true, Bool.false_eq_true, if_false]
      obtain ⟨z, hz⟩ : ∃ z, z = (toPy (.tup [.tup [frD "main" ys], .tup [], .int 0])).shown := ⟨_, rfl⟩
      refine rep_smL sm (by decide) (by decide) (rep_smL sm (by decide) (by decide) ?_)
      rw [← hz]
      clear hz
      refine eq_ss ⟨_, rfl, brF (nxf rfl) ?_⟩
      refine ⟨0, d, ks, ps, rfl, gd S9, by decide, ok, _, _, rfl, rfl, _, rfl, brF (by rw [sb]; rfl) ⟨ks, ps, rfl, ok, fun ys2 hs2 => ?_⟩⟩
      obtain rfl := hs.one hs2
      have fg : ∀ S, gv S 0 (.tup [.tup [frD "main" ys], .tup [], .int 0]) := fun S => st_g (fs := [frD "main" ys]) (cs := []) (m := 0) (by simp) (by simp) (by rw [Int.natAbs_zero]; exact Nat.zero_le _) (fun f hf => by
        rw [List.mem_singleton.mp hf]
        refine gv_tup.mpr ⟨by simp, fun d hd => ?_⟩
        simp only [List.mem_cons, List.not_mem_nil, or_false] at hd
        rcases hd with rfl | rfl | rfl
        · exact gv_str.mpr ⟨(ok.sh _ ok.m).1, by have := (ok.sh _ ok.m).2; omega⟩
        · exact gv_int.mpr (by rw [Int.natAbs_zero]; exact Nat.zero_le _)
        · refine gv_tup.mpr ⟨by rw [List.length_map]; omega, fun d hd => ?_⟩
          obtain ⟨y, hy, rfl⟩ := List.mem_map.mp hd
          refine gv_tup.mpr ⟨by simp, fun d hd => ?_⟩
          simp only [List.mem_cons, List.not_mem_nil, or_false] at hd
          rcases hd with rfl | rfl
          · exact gv_str.mpr ⟨(nm_sh y (ynm y hy)).1, by have := (nm_sh y (ynm y hy)).2; omega⟩
          · exact gv_non) fun d h => nomatch h
      refine ⟨0, _, ks, ps, rfl, fg S9, by decide, ok, tru_b (brF rfl ⟨_, rfl, by decide, by decide, ?_⟩)⟩
      obtain ⟨db, dc, de, hd3⟩ := hd3
      refine fr_rng (fun j δ S' => ∃ r5 r6 r7 r8 r10 r11 r12 r13 r14 r15, δ = [some (.fl (ns.map D.int)), some (.ref p), some (.fl (w16.map D.str)), some (.int (0 + (i : Nat))), some (prD (.tup (ks.map hdD)) ps), r5, r6, r7, r8, some d, r10, r11, r12, r13, r14, r15] ∧ j ≤ 12 ∧ Spr S' p a (100000 - 10000 * i - 5300 - 130 * j)) ⟨_, _, _, _, _, _, _, _, _, _, rfl, Nat.zero_le _, sp9⟩ ?_ ?_
      · rintro j δ S10 hj ⟨r5, r6, r7, r8, r10, r11, r12, r13, r14, r15, rfl, _, sp10⟩
        have hj : j < 12 := hj
        simp only [dVar, dC, dOp, dUn, dChain, dTr, dB, dAnd, dOr, dNot, dIf, dAndV, dOrV, dNotV, dNil, dCons, dTup, dLst, dLf, dNext, dSeq, dBreak, dCont, dDrop, dRet, dRetN, dIfS, gdName, gdNil, gdCons, gdTup, gdSub, dAsg, dPar, dCall, dCallK, dCB, dM0, dM, dGet1, dGet2, dDk, dDt, dPart, dNoPart, dSlice, dAug, dYes, dSort2, revD, iTupD, iLstD, iLf, iLw, iRange1, iRange2, iRange3, iEnumD, iZipD, iZipMD, iStrD, dGix, dDc, dIsi, dSortSet, dLenSet, dDlit, gdLst, dFor, dWhile, dLc, dLcM, dFld, dFldSet, dFldAdd, dMeth, dMake, dPar3, dDisp, dPrs, dFsi, dGget, dKgt, dKgtL, dDz, iEnumMD, dCut, dTcut, wipeD, bodyE, startD, List.map_cons, List.map_nil, List.length_cons, List.length_nil, List.replicate_succ, List.replicate_zero, List.cons_append, List.nil_append, Nat.reduceAdd, Nat.reduceSub, Nat.zero_add, List.getElem?_cons_zero, List.getElem?_cons_succ, List.set_cons_zero, List.set_cons_succ, Option.some.injEq, exists_eq_left', exists_eq_left, if_true, sizeLine_eq, Nat.reduceLeDiff, Nat.reduceLT, Nat.zero_le, true_and, and_true, Bool.false_eq_true, if_false]
        exact ⟨p, a, 100000 - 10000 * i - 5300 - 130 * (j + 1), 0, 6, d, ks, ps, rfl, ok, gd S10, by decide, dd, by decide, sp10.mono (show 100000 - 10000 * i - 5300 - 130 * (j + 1) + 10 * 12 ≤ _ by omega), fun d' S' g1 g2 sp' of' => ⟨1, d', ks, ps, rfl, g1, by decide, ok, tru_b (brF rfl ⟨_, _, _, _, _, _, _, _, _, _, rfl, by omega, sp'⟩)⟩⟩
      · rintro j δ S10 hj ⟨r5, r6, r7, r8, r10, r11, r12, r13, r14, r15, rfl, hj2, sp10⟩
        simp only [dVar, dC, dOp, dUn, dChain, dTr, dB, dAnd, dOr, dNot, dIf, dAndV, dOrV, dNotV, dNil, dCons, dTup, dLst, dLf, dNext, dSeq, dBreak, dCont, dDrop, dRet, dRetN, dIfS, gdName, gdNil, gdCons, gdTup, gdSub, dAsg, dPar, dCall, dCallK, dCB, dM0, dM, dGet1, dGet2, dDk, dDt, dPart, dNoPart, dSlice, dAug, dYes, dSort2, revD, iTupD, iLstD, iLf, iLw, iRange1, iRange2, iRange3, iEnumD, iZipD, iZipMD, iStrD, dGix, dDc, dIsi, dSortSet, dLenSet, dDlit, gdLst, dFor, dWhile, dLc, dLcM, dFld, dFldSet, dFldAdd, dMeth, dMake, dPar3, dDisp, dPrs, dFsi, dGget, dKgt, dKgtL, dDz, iEnumMD, dCut, dTcut, wipeD, bodyE, startD, List.map_cons, List.map_nil, List.length_cons, List.length_nil, List.replicate_succ, List.replicate_zero, List.cons_append, List.nil_append, Nat.reduceAdd, Nat.reduceSub, Nat.zero_add, List.getElem?_cons_zero, List.getElem?_cons_succ, List.set_cons_zero, List.set_cons_succ, Option.some.injEq, exists_eq_left', exists_eq_left, if_true, sizeLine_eq, Nat.reduceLeDiff, Nat.reduceLT, Nat.zero_le, true_and, and_true, Bool.false_eq_true, if_false]
        refine ⟨p, a, 100000 - 10000 * i - 5300 - 130 * 13, 0, 6, d, ks, ps, rfl, ok, gd S10, by decide, dd, by decide, sp10.mono (show 100000 - 10000 * i - 5300 - 130 * 13 + 10 * 12 ≤ _ by omega), fun d1 S11 g1 g2 sp11 of11 => ⟨p, a, 100000 - 10000 * i - 5300 - 130 * 14, 1, 7, d1, ks, ps, rfl, ok, g1, by decide, g2, by decide, sp11.mono (show 100000 - 10000 * i - 5300 - 130 * 14 + 10 * 12 ≤ _ by omega), fun d2 S12 g3 g4 sp12 of12 => ⟨2, d2, ks, ps, rfl, g3, by decide, ok, tru_b (brF rfl ?_)⟩⟩⟩
        have gd9 := (gv_tup.mp (show gv S12 0 (.tup [db, dc, de]) by rw [← hd3]; exact gd S12)).2
        subst hd3
        refine ⟨2, rfl, sl_t ⟨0, _, ks, ps, rfl, gv_tup.mpr ⟨by show 2 ≤ 100 + 0; decide, fun d h => gd9 d (List.mem_append_left [de] h)⟩, by decide, ok, tru_b (brF rfl ⟨_, [db, dc, de], rfl, rfl, brF rfl ⟨0, _, ks, ps, rfl, gv_fl.mpr ⟨by simp, gd9⟩, by decide, ok, tru_b (brF rfl ⟨_, _, _, _, _, _, _, _, _, _, _, _, _, rfl, by omega, fun _ => ⟨ks, ps, ok, rfl⟩, sp12.mono (by omega)⟩)⟩⟩)⟩⟩
    · rintro i δ S2 hi ⟨r3, r4, r5, r6, r7, r8, r9, r10, r11, r12, r13, r14, r15, rfl, h6, h4, sp2⟩
      have hi : 6 ≤ i := hi
      obtain ⟨ks, ps, ok, rfl⟩ := h4 (by omega)
      intro P nP
      refine neg_i ?_
      simp only [dVar, dC, dOp, dUn, dChain, dTr, dB, dAnd, dOr, dNot, dIf, dAndV, dOrV, dNotV, dNil, dCons, dTup, dLst, dLf, dNext, dSeq, dBreak, dCont, dDrop, dRet, dRetN, dIfS, gdName, gdNil, gdCons, gdTup, gdSub, dAsg, dPar, dCall, dCallK, dCB, dM0, dM, dGet1, dGet2, dDk, dDt, dPart, dNoPart, dSlice, dAug, dYes, dSort2, revD, iTupD, iLstD, iLf, iLw, iRange1, iRange2, iRange3, iEnumD, iZipD, iZipMD, iStrD, dGix, dDc, dIsi, dSortSet, dLenSet, dDlit, gdLst, dFor, dWhile, dLc, dLcM, dFld, dFldSet, dFldAdd, dMeth, dMake, dPar3, dDisp, dPrs, dFsi, dGget, dKgt, dKgtL, dDz, iEnumMD, dCut, dTcut, wipeD, bodyE, startD, List.map_cons, List.map_nil, List.length_cons, List.length_nil, List.replicate_succ, List.replicate_zero, List.cons_append, List.nil_append, Nat.reduceAdd, Nat.reduceSub, Nat.zero_add, List.getElem?_cons_zero, List.getElem?_cons_succ, List.set_cons_zero, List.set_cons_succ, Option.some.injEq, exists_eq_left', exists_eq_left, if_true, sizeLine_eq, Nat.reduceLeDiff, Nat.reduceLT, Nat.zero_le, true_and, and_true, Bool.false_eq_true, if_false]
      refine ⟨_, rfl, fr_seq (fun j δ S' => ∃ r3 r5 r6 r7 r8 r9 r10 r11 r12 r13 r14 r15, δ = [some (.fl (ns.map D.int)), some (.ref p), some (.fl (w16.map D.str)), r3, some (prD (.tup (ks.map hdD)) ps), r5, r6, r7, r8, r9, r10, r11, r12, r13, r14, r15] ∧ S' = up S2 P (.dk [])) ⟨_, _, _, _, _, _, _, _, _, _, _, _, rfl, rfl⟩ ?_ ?_⟩
      · rintro j x δ S3 hx ⟨r3, r5, r6, r7, r8, r9, r10, r11, r12, r13, r14, r15, rfl, rfl⟩
        simp only [dVar, dC, dOp, dUn, dChain, dTr, dB, dAnd, dOr, dNot, dIf, dAndV, dOrV, dNotV, dNil, dCons, dTup, dLst, dLf, dNext, dSeq, dBreak, dCont, dDrop, dRet, dRetN, dIfS, gdName, gdNil, gdCons, gdTup, gdSub, dAsg, dPar, dCall, dCallK, dCB, dM0, dM, dGet1, dGet2, dDk, dDt, dPart, dNoPart, dSlice, dAug, dYes, dSort2, revD, iTupD, iLstD, iLf, iLw, iRange1, iRange2, iRange3, iEnumD, iZipD, iZipMD, iStrD, dGix, dDc, dIsi, dSortSet, dLenSet, dDlit, gdLst, dFor, dWhile, dLc, dLcM, dFld, dFldSet, dFldAdd, dMeth, dMake, dPar3, dDisp, dPrs, dFsi, dGget, dKgt, dKgtL, dDz, iEnumMD, dCut, dTcut, wipeD, bodyE, startD, List.map_cons, List.map_nil, List.length_cons, List.length_nil, List.replicate_succ, List.replicate_zero, List.cons_append, List.nil_append, Nat.reduceAdd, Nat.reduceSub, Nat.zero_add, List.getElem?_cons_zero, List.getElem?_cons_succ, List.set_cons_zero, List.set_cons_succ, Option.some.injEq, exists_eq_left', exists_eq_left, if_true, sizeLine_eq, Nat.reduceLeDiff, Nat.reduceLT, Nat.zero_le, true_and, and_true, Bool.false_eq_true, if_false]
        refine ⟨0, x, ks, ps, rfl, ?_, by decide, ok, tru_b (brF rfl ⟨_, _, _, _, _, _, _, _, _, _, _, _, rfl, rfl⟩)⟩
        have hx := List.mem_of_getElem? hx
        have s2 : ∀ z ∈ (["", "made 0"] : List Str), PyData.strOk z = true ∧ z.length ≤ 40 := by decide +kernel
        generalize hT : up S2 P (.dk []) = T
        have hP : T P = some (.dk []) := by rw [← hT]; exact up_same
        have i0 : ∀ {i : Int}, i.natAbs ≤ 1 → gv T 0 (.int i) := fun h => gv_int.mpr (by omega)
        have e0 : gv T 0 (.tup []) := gv_tup.mpr ⟨by simp, fun d h => nomatch h⟩
        have f0 : gv T 0 (.fl []) := gv_fl.mpr ⟨by simp, fun d h => nomatch h⟩
        have t3 : ∀ {b c e : D}, gv T 0 b → gv T 0 c → gv T 0 e → gv T 0 (.tup [b, c, e]) := fun hb hc he => gv_tup.mpr ⟨by simp, fun d h => by
          simp only [List.mem_cons, List.not_mem_nil, or_false] at h
          rcases h with rfl | rfl | rfl <;> assumption⟩
        simp only [List.mem_cons, List.not_mem_nil, or_false] at hx
        rcases hx with rfl | rfl | rfl | rfl | rfl | rfl | rfl | rfl | rfl | rfl | rfl | rfl | rfl
        · exact gv_non
        · exact gv_bl
        · exact i0 (by decide)
        · exact gv_str.mpr ⟨(s2 "" (by simp)).1, by have := (s2 "" (by simp)).2; omega⟩
        · exact gv_str.mpr ⟨(s2 "made 0" (by simp)).1, by have := (s2 "made 0" (by simp)).2; omega⟩
        · exact e0
        · exact f0
        · show gv T 0 (.at (.ref P)); unfold gv; exact hP
        · exact gv_tup.mpr ⟨by simp, fun d h => by
            simp only [List.mem_cons, List.not_mem_nil, or_false, or_self] at h
            rw [h]; exact e0⟩
        · exact t3 e0 e0 (i0 (by decide))
        · exact t3 e0 e0 (i0 (by decide))
        · exact t3 e0 e0 gv_bl
        · exact t3 e0 f0 (i0 (by decide))
      · rintro j δ S3 hj ⟨r3, r5, r6, r7, r8, r9, r10, r11, r12, r13, r14, r15, rfl, rfl⟩
        exact rt_of (q _)
theorem law_ok : ∀ ns : List Int, ns.length ≤ 63 → (∀ z ∈ ns, Builtin.Int.intBits z ≤ 1048576) → sp_law [.fl (ns.map D.int)] (fun _ => none) (fun d _ => d = .bl true) X0 := fun ns h _ => ⟨ns, rfl, h, fun _ => rfl⟩
end K10

namespace K10
open PySem L2 PyProof.Rows DL
theorem all_mk {P : Program} {w : World} {K : PySem.W.Frag} {h : Heap} {mg : Str → Option Value} {fa : Addr} (X : K.In h) (G : h.Ns mainGlobals mg) (hfa : mg "law" = some (.ref fa))
    {f_is_integer f_is_number f_variables_in f_all_variables f_kind_of f_procedure_of f_variables_of f_first_frame f_is_value f_are_pairs f_is_cell_of f_cell_numbers f_is_frame f_waits_for f_are_frames f_is_state f_first_state f__law_deck f__law_draw f__law_pick f__law_words f__law_kinds f__law_heads f__law_number f__law_row f__law_program f__law_rows f__law_variables f__law_value f__law_cells f__law_chain f__law_frames f__law_made f__law_int f__law_fine f__law_pairs_fine f__law_names_of f__law_cells_fine f__law_frame_fine f__law_due f__law_odd f__law_bent f__law_told f_law fg_SHAPES : Addr} {od_is_integer od_is_number od_variables_in od_all_variables od_kind_of od_procedure_of od_variables_of od_first_frame od_is_value od_are_pairs od_is_cell_of od_cell_numbers od_is_frame od_waits_for od_are_frames od_is_state od_first_state od__law_deck od__law_draw od__law_pick od__law_words od__law_kinds od__law_heads od__law_number od__law_row od__law_program od__law_rows od__law_variables od__law_value od__law_cells od__law_chain od__law_frames od__law_made od__law_int od__law_fine od__law_pairs_fine od__law_names_of od__law_cells_fine od__law_frame_fine od__law_due od__law_odd od__law_bent od__law_told od_law an_is_integer an_is_number an_variables_in an_all_variables an_kind_of an_procedure_of an_variables_of an_first_frame an_is_value an_are_pairs an_is_cell_of an_cell_numbers an_is_frame an_waits_for an_are_frames an_is_state an_first_state an__law_deck an__law_draw an__law_pick an__law_words an__law_kinds an__law_heads an__law_number an__law_row an__law_program an__law_rows an__law_variables an__law_value an__law_cells an__law_chain an__law_frames an__law_made an__law_int an__law_fine an__law_pairs_fine an__law_names_of an__law_cells_fine an__law_frame_fine an__law_due an__law_odd an__law_bent an__law_told an_law : Option Addr} {sl_is_integer sl_is_number sl_variables_in sl_all_variables sl_kind_of sl_procedure_of sl_variables_of sl_first_frame sl_is_value sl_are_pairs sl_is_cell_of sl_cell_numbers sl_is_frame sl_waits_for sl_are_frames sl_is_state sl_first_state sl__law_deck sl__law_draw sl__law_pick sl__law_words sl__law_kinds sl__law_heads sl__law_number sl__law_row sl__law_program sl__law_rows sl__law_variables sl__law_value sl__law_cells sl__law_chain sl__law_frames sl__law_made sl__law_int sl__law_fine sl__law_pairs_fine sl__law_names_of sl__law_cells_fine sl__law_frame_fine sl__law_due sl__law_odd sl__law_bent sl__law_told sl_law : Array (Option Value)} {oc_is_integer kV_is_integer dc_is_integer pm_is_integer cd_is_integer ct_is_integer oc_is_number kV_is_number dc_is_number pm_is_number cd_is_number ct_is_number oc_variables_in kV_variables_in dc_variables_in pm_variables_in cd_variables_in ct_variables_in oc_all_variables kV_all_variables dc_all_variables pm_all_variables cd_all_variables ct_all_variables oc_kind_of kV_kind_of dc_kind_of pm_kind_of cd_kind_of ct_kind_of oc_procedure_of kV_procedure_of dc_procedure_of pm_procedure_of cd_procedure_of ct_procedure_of oc_variables_of kV_variables_of dc_variables_of pm_variables_of cd_variables_of ct_variables_of oc_first_frame kV_first_frame dc_first_frame pm_first_frame cd_first_frame ct_first_frame oc_is_value kV_is_value dc_is_value pm_is_value cd_is_value ct_is_value oc_are_pairs kV_are_pairs dc_are_pairs pm_are_pairs cd_are_pairs ct_are_pairs oc_is_cell_of kV_is_cell_of dc_is_cell_of pm_is_cell_of cd_is_cell_of ct_is_cell_of oc_cell_numbers kV_cell_numbers dc_cell_numbers pm_cell_numbers cd_cell_numbers ct_cell_numbers oc_is_frame kV_is_frame dc_is_frame pm_is_frame cd_is_frame ct_is_frame oc_waits_for kV_waits_for dc_waits_for pm_waits_for cd_waits_for ct_waits_for oc_are_frames kV_are_frames dc_are_frames pm_are_frames cd_are_frames ct_are_frames oc_is_state kV_is_state dc_is_state pm_is_state cd_is_state ct_is_state oc_first_state kV_first_state dc_first_state pm_first_state cd_first_state ct_first_state oc__law_deck kV__law_deck dc__law_deck pm__law_deck cd__law_deck ct__law_deck oc__law_draw kV__law_draw dc__law_draw pm__law_draw cd__law_draw ct__law_draw oc__law_pick kV__law_pick dc__law_pick pm__law_pick cd__law_pick ct__law_pick oc__law_words kV__law_words dc__law_words pm__law_words cd__law_words ct__law_words oc__law_kinds kV__law_kinds dc__law_kinds pm__law_kinds cd__law_kinds ct__law_kinds oc__law_heads kV__law_heads dc__law_heads pm__law_heads cd__law_heads ct__law_heads oc__law_number kV__law_number dc__law_number pm__law_number cd__law_number ct__law_number oc__law_row kV__law_row dc__law_row pm__law_row cd__law_row ct__law_row oc__law_program kV__law_program dc__law_program pm__law_program cd__law_program ct__law_program oc__law_rows kV__law_rows dc__law_rows pm__law_rows cd__law_rows ct__law_rows oc__law_variables kV__law_variables dc__law_variables pm__law_variables cd__law_variables ct__law_variables oc__law_value kV__law_value dc__law_value pm__law_value cd__law_value ct__law_value oc__law_cells kV__law_cells dc__law_cells pm__law_cells cd__law_cells ct__law_cells oc__law_chain kV__law_chain dc__law_chain pm__law_chain cd__law_chain ct__law_chain oc__law_frames kV__law_frames dc__law_frames pm__law_frames cd__law_frames ct__law_frames oc__law_made kV__law_made dc__law_made pm__law_made cd__law_made ct__law_made oc__law_int kV__law_int dc__law_int pm__law_int cd__law_int ct__law_int oc__law_fine kV__law_fine dc__law_fine pm__law_fine cd__law_fine ct__law_fine oc__law_pairs_fine kV__law_pairs_fine dc__law_pairs_fine pm__law_pairs_fine cd__law_pairs_fine ct__law_pairs_fine oc__law_names_of kV__law_names_of dc__law_names_of pm__law_names_of cd__law_names_of ct__law_names_of oc__law_cells_fine kV__law_cells_fine dc__law_cells_fine pm__law_cells_fine cd__law_cells_fine ct__law_cells_fine oc__law_frame_fine kV__law_frame_fine dc__law_frame_fine pm__law_frame_fine cd__law_frame_fine ct__law_frame_fine oc__law_due kV__law_due dc__law_due pm__law_due cd__law_due ct__law_due oc__law_odd kV__law_odd dc__law_odd pm__law_odd cd__law_odd ct__law_odd oc__law_bent kV__law_bent dc__law_bent pm__law_bent cd__law_bent ct__law_bent oc__law_told kV__law_told dc__law_told pm__law_told cd__law_told ct__law_told oc_law kV_law dc_law pm_law cd_law ct_law : Value} {n_SHAPES : Nat} {es_SHAPES : Array DictEntry}
    (a_is_integer : PySem.W.nsIn K mainGlobals "is_integer" = some (some (.ref f_is_integer))) (l_is_integer : K.lookup f_is_integer = some ⟨oc_is_integer, od_is_integer, .func (PySem.W.fnOf "is_integer" "is_integer" (defArgs s_is_integer) (defBody s_is_integer) (defScope s_is_integer) .none kV_is_integer dc_is_integer pm_is_integer an_is_integer cd_is_integer ct_is_integer), sl_is_integer⟩) (c_is_integer : PySem.W.codeIn K cd_is_integer "is_integer" = true) (k_is_integer : PySem.W.keepIn K (.ref f_is_integer) = true)
    (a_is_number : PySem.W.nsIn K mainGlobals "is_number" = some (some (.ref f_is_number))) (l_is_number : K.lookup f_is_number = some ⟨oc_is_number, od_is_number, .func (PySem.W.fnOf "is_number" "is_number" (defArgs s_is_number) (defBody s_is_number) (defScope s_is_number) .none kV_is_number dc_is_number pm_is_number an_is_number cd_is_number ct_is_number), sl_is_number⟩) (c_is_number : PySem.W.codeIn K cd_is_number "is_number" = true) (k_is_number : PySem.W.keepIn K (.ref f_is_number) = true)
    (a_variables_in : PySem.W.nsIn K mainGlobals "variables_in" = some (some (.ref f_variables_in))) (l_variables_in : K.lookup f_variables_in = some ⟨oc_variables_in, od_variables_in, .func (PySem.W.fnOf "variables_in" "variables_in" (defArgs s_variables_in) (defBody s_variables_in) (defScope s_variables_in) .none kV_variables_in dc_variables_in pm_variables_in an_variables_in cd_variables_in ct_variables_in), sl_variables_in⟩) (c_variables_in : PySem.W.codeIn K cd_variables_in "variables_in" = true) (k_variables_in : PySem.W.keepIn K (.ref f_variables_in) = true)
    (a_all_variables : PySem.W.nsIn K mainGlobals "all_variables" = some (some (.ref f_all_variables))) (l_all_variables : K.lookup f_all_variables = some ⟨oc_all_variables, od_all_variables, .func (PySem.W.fnOf "all_variables" "all_variables" (defArgs s_all_variables) (defBody s_all_variables) (defScope s_all_variables) .none kV_all_variables dc_all_variables pm_all_variables an_all_variables cd_all_variables ct_all_variables), sl_all_variables⟩) (c_all_variables : PySem.W.codeIn K cd_all_variables "all_variables" = true) (k_all_variables : PySem.W.keepIn K (.ref f_all_variables) = true)
    (a_kind_of : PySem.W.nsIn K mainGlobals "kind_of" = some (some (.ref f_kind_of))) (l_kind_of : K.lookup f_kind_of = some ⟨oc_kind_of, od_kind_of, .func (PySem.W.fnOf "kind_of" "kind_of" (defArgs s_kind_of) (defBody s_kind_of) (defScope s_kind_of) .none kV_kind_of dc_kind_of pm_kind_of an_kind_of cd_kind_of ct_kind_of), sl_kind_of⟩) (c_kind_of : PySem.W.codeIn K cd_kind_of "kind_of" = true) (k_kind_of : PySem.W.keepIn K (.ref f_kind_of) = true)
    (a_procedure_of : PySem.W.nsIn K mainGlobals "procedure_of" = some (some (.ref f_procedure_of))) (l_procedure_of : K.lookup f_procedure_of = some ⟨oc_procedure_of, od_procedure_of, .func (PySem.W.fnOf "procedure_of" "procedure_of" (defArgs s_procedure_of) (defBody s_procedure_of) (defScope s_procedure_of) .none kV_procedure_of dc_procedure_of pm_procedure_of an_procedure_of cd_procedure_of ct_procedure_of), sl_procedure_of⟩) (c_procedure_of : PySem.W.codeIn K cd_procedure_of "procedure_of" = true) (k_procedure_of : PySem.W.keepIn K (.ref f_procedure_of) = true)
    (a_variables_of : PySem.W.nsIn K mainGlobals "variables_of" = some (some (.ref f_variables_of))) (l_variables_of : K.lookup f_variables_of = some ⟨oc_variables_of, od_variables_of, .func (PySem.W.fnOf "variables_of" "variables_of" (defArgs s_variables_of) (defBody s_variables_of) (defScope s_variables_of) .none kV_variables_of dc_variables_of pm_variables_of an_variables_of cd_variables_of ct_variables_of), sl_variables_of⟩) (c_variables_of : PySem.W.codeIn K cd_variables_of "variables_of" = true) (k_variables_of : PySem.W.keepIn K (.ref f_variables_of) = true)
    (a_first_frame : PySem.W.nsIn K mainGlobals "first_frame" = some (some (.ref f_first_frame))) (l_first_frame : K.lookup f_first_frame = some ⟨oc_first_frame, od_first_frame, .func (PySem.W.fnOf "first_frame" "first_frame" (defArgs s_first_frame) (defBody s_first_frame) (defScope s_first_frame) .none kV_first_frame dc_first_frame pm_first_frame an_first_frame cd_first_frame ct_first_frame), sl_first_frame⟩) (c_first_frame : PySem.W.codeIn K cd_first_frame "first_frame" = true) (k_first_frame : PySem.W.keepIn K (.ref f_first_frame) = true)
    (a_is_value : PySem.W.nsIn K mainGlobals "is_value" = some (some (.ref f_is_value))) (l_is_value : K.lookup f_is_value = some ⟨oc_is_value, od_is_value, .func (PySem.W.fnOf "is_value" "is_value" (defArgs s_is_value) (defBody s_is_value) (defScope s_is_value) .none kV_is_value dc_is_value pm_is_value an_is_value cd_is_value ct_is_value), sl_is_value⟩) (c_is_value : PySem.W.codeIn K cd_is_value "is_value" = true) (k_is_value : PySem.W.keepIn K (.ref f_is_value) = true)
    (a_are_pairs : PySem.W.nsIn K mainGlobals "are_pairs" = some (some (.ref f_are_pairs))) (l_are_pairs : K.lookup f_are_pairs = some ⟨oc_are_pairs, od_are_pairs, .func (PySem.W.fnOf "are_pairs" "are_pairs" (defArgs s_are_pairs) (defBody s_are_pairs) (defScope s_are_pairs) .none kV_are_pairs dc_are_pairs pm_are_pairs an_are_pairs cd_are_pairs ct_are_pairs), sl_are_pairs⟩) (c_are_pairs : PySem.W.codeIn K cd_are_pairs "are_pairs" = true) (k_are_pairs : PySem.W.keepIn K (.ref f_are_pairs) = true)
    (a_is_cell_of : PySem.W.nsIn K mainGlobals "is_cell_of" = some (some (.ref f_is_cell_of))) (l_is_cell_of : K.lookup f_is_cell_of = some ⟨oc_is_cell_of, od_is_cell_of, .func (PySem.W.fnOf "is_cell_of" "is_cell_of" (defArgs s_is_cell_of) (defBody s_is_cell_of) (defScope s_is_cell_of) .none kV_is_cell_of dc_is_cell_of pm_is_cell_of an_is_cell_of cd_is_cell_of ct_is_cell_of), sl_is_cell_of⟩) (c_is_cell_of : PySem.W.codeIn K cd_is_cell_of "is_cell_of" = true) (k_is_cell_of : PySem.W.keepIn K (.ref f_is_cell_of) = true)
    (a_cell_numbers : PySem.W.nsIn K mainGlobals "cell_numbers" = some (some (.ref f_cell_numbers))) (l_cell_numbers : K.lookup f_cell_numbers = some ⟨oc_cell_numbers, od_cell_numbers, .func (PySem.W.fnOf "cell_numbers" "cell_numbers" (defArgs s_cell_numbers) (defBody s_cell_numbers) (defScope s_cell_numbers) .none kV_cell_numbers dc_cell_numbers pm_cell_numbers an_cell_numbers cd_cell_numbers ct_cell_numbers), sl_cell_numbers⟩) (c_cell_numbers : PySem.W.codeIn K cd_cell_numbers "cell_numbers" = true) (k_cell_numbers : PySem.W.keepIn K (.ref f_cell_numbers) = true)
    (a_is_frame : PySem.W.nsIn K mainGlobals "is_frame" = some (some (.ref f_is_frame))) (l_is_frame : K.lookup f_is_frame = some ⟨oc_is_frame, od_is_frame, .func (PySem.W.fnOf "is_frame" "is_frame" (defArgs s_is_frame) (defBody s_is_frame) (defScope s_is_frame) .none kV_is_frame dc_is_frame pm_is_frame an_is_frame cd_is_frame ct_is_frame), sl_is_frame⟩) (c_is_frame : PySem.W.codeIn K cd_is_frame "is_frame" = true) (k_is_frame : PySem.W.keepIn K (.ref f_is_frame) = true)
    (a_waits_for : PySem.W.nsIn K mainGlobals "waits_for" = some (some (.ref f_waits_for))) (l_waits_for : K.lookup f_waits_for = some ⟨oc_waits_for, od_waits_for, .func (PySem.W.fnOf "waits_for" "waits_for" (defArgs s_waits_for) (defBody s_waits_for) (defScope s_waits_for) .none kV_waits_for dc_waits_for pm_waits_for an_waits_for cd_waits_for ct_waits_for), sl_waits_for⟩) (c_waits_for : PySem.W.codeIn K cd_waits_for "waits_for" = true) (k_waits_for : PySem.W.keepIn K (.ref f_waits_for) = true)
    (a_are_frames : PySem.W.nsIn K mainGlobals "are_frames" = some (some (.ref f_are_frames))) (l_are_frames : K.lookup f_are_frames = some ⟨oc_are_frames, od_are_frames, .func (PySem.W.fnOf "are_frames" "are_frames" (defArgs s_are_frames) (defBody s_are_frames) (defScope s_are_frames) .none kV_are_frames dc_are_frames pm_are_frames an_are_frames cd_are_frames ct_are_frames), sl_are_frames⟩) (c_are_frames : PySem.W.codeIn K cd_are_frames "are_frames" = true) (k_are_frames : PySem.W.keepIn K (.ref f_are_frames) = true)
    (a_is_state : PySem.W.nsIn K mainGlobals "is_state" = some (some (.ref f_is_state))) (l_is_state : K.lookup f_is_state = some ⟨oc_is_state, od_is_state, .func (PySem.W.fnOf "is_state" "is_state" (defArgs s_is_state) (defBody s_is_state) (defScope s_is_state) .none kV_is_state dc_is_state pm_is_state an_is_state cd_is_state ct_is_state), sl_is_state⟩) (c_is_state : PySem.W.codeIn K cd_is_state "is_state" = true) (k_is_state : PySem.W.keepIn K (.ref f_is_state) = true)
    (a_first_state : PySem.W.nsIn K mainGlobals "first_state" = some (some (.ref f_first_state))) (l_first_state : K.lookup f_first_state = some ⟨oc_first_state, od_first_state, .func (PySem.W.fnOf "first_state" "first_state" (defArgs s_first_state) (defBody s_first_state) (defScope s_first_state) .none kV_first_state dc_first_state pm_first_state an_first_state cd_first_state ct_first_state), sl_first_state⟩) (c_first_state : PySem.W.codeIn K cd_first_state "first_state" = true) (k_first_state : PySem.W.keepIn K (.ref f_first_state) = true)
    (a__law_deck : PySem.W.nsIn K mainGlobals "_law_deck" = some (some (.ref f__law_deck))) (l__law_deck : K.lookup f__law_deck = some ⟨oc__law_deck, od__law_deck, .func (PySem.W.fnOf "_law_deck" "_law_deck" (defArgs s__law_deck) (defBody s__law_deck) (defScope s__law_deck) .none kV__law_deck dc__law_deck pm__law_deck an__law_deck cd__law_deck ct__law_deck), sl__law_deck⟩) (c__law_deck : PySem.W.codeIn K cd__law_deck "_law_deck" = true) (k__law_deck : PySem.W.keepIn K (.ref f__law_deck) = true)
    (a__law_draw : PySem.W.nsIn K mainGlobals "_law_draw" = some (some (.ref f__law_draw))) (l__law_draw : K.lookup f__law_draw = some ⟨oc__law_draw, od__law_draw, .func (PySem.W.fnOf "_law_draw" "_law_draw" (defArgs s__law_draw) (defBody s__law_draw) (defScope s__law_draw) .none kV__law_draw dc__law_draw pm__law_draw an__law_draw cd__law_draw ct__law_draw), sl__law_draw⟩) (c__law_draw : PySem.W.codeIn K cd__law_draw "_law_draw" = true) (k__law_draw : PySem.W.keepIn K (.ref f__law_draw) = true)
    (a__law_pick : PySem.W.nsIn K mainGlobals "_law_pick" = some (some (.ref f__law_pick))) (l__law_pick : K.lookup f__law_pick = some ⟨oc__law_pick, od__law_pick, .func (PySem.W.fnOf "_law_pick" "_law_pick" (defArgs s__law_pick) (defBody s__law_pick) (defScope s__law_pick) .none kV__law_pick dc__law_pick pm__law_pick an__law_pick cd__law_pick ct__law_pick), sl__law_pick⟩) (c__law_pick : PySem.W.codeIn K cd__law_pick "_law_pick" = true) (k__law_pick : PySem.W.keepIn K (.ref f__law_pick) = true)
    (a__law_words : PySem.W.nsIn K mainGlobals "_law_words" = some (some (.ref f__law_words))) (l__law_words : K.lookup f__law_words = some ⟨oc__law_words, od__law_words, .func (PySem.W.fnOf "_law_words" "_law_words" (defArgs s__law_words) (defBody s__law_words) (defScope s__law_words) .none kV__law_words dc__law_words pm__law_words an__law_words cd__law_words ct__law_words), sl__law_words⟩) (c__law_words : PySem.W.codeIn K cd__law_words "_law_words" = true) (k__law_words : PySem.W.keepIn K (.ref f__law_words) = true)
    (a__law_kinds : PySem.W.nsIn K mainGlobals "_law_kinds" = some (some (.ref f__law_kinds))) (l__law_kinds : K.lookup f__law_kinds = some ⟨oc__law_kinds, od__law_kinds, .func (PySem.W.fnOf "_law_kinds" "_law_kinds" (defArgs s__law_kinds) (defBody s__law_kinds) (defScope s__law_kinds) .none kV__law_kinds dc__law_kinds pm__law_kinds an__law_kinds cd__law_kinds ct__law_kinds), sl__law_kinds⟩) (c__law_kinds : PySem.W.codeIn K cd__law_kinds "_law_kinds" = true) (k__law_kinds : PySem.W.keepIn K (.ref f__law_kinds) = true)
    (a__law_heads : PySem.W.nsIn K mainGlobals "_law_heads" = some (some (.ref f__law_heads))) (l__law_heads : K.lookup f__law_heads = some ⟨oc__law_heads, od__law_heads, .func (PySem.W.fnOf "_law_heads" "_law_heads" (defArgs s__law_heads) (defBody s__law_heads) (defScope s__law_heads) .none kV__law_heads dc__law_heads pm__law_heads an__law_heads cd__law_heads ct__law_heads), sl__law_heads⟩) (c__law_heads : PySem.W.codeIn K cd__law_heads "_law_heads" = true) (k__law_heads : PySem.W.keepIn K (.ref f__law_heads) = true)
    (a__law_number : PySem.W.nsIn K mainGlobals "_law_number" = some (some (.ref f__law_number))) (l__law_number : K.lookup f__law_number = some ⟨oc__law_number, od__law_number, .func (PySem.W.fnOf "_law_number" "_law_number" (defArgs s__law_number) (defBody s__law_number) (defScope s__law_number) .none kV__law_number dc__law_number pm__law_number an__law_number cd__law_number ct__law_number), sl__law_number⟩) (c__law_number : PySem.W.codeIn K cd__law_number "_law_number" = true) (k__law_number : PySem.W.keepIn K (.ref f__law_number) = true)
    (a__law_row : PySem.W.nsIn K mainGlobals "_law_row" = some (some (.ref f__law_row))) (l__law_row : K.lookup f__law_row = some ⟨oc__law_row, od__law_row, .func (PySem.W.fnOf "_law_row" "_law_row" (defArgs s__law_row) (defBody s__law_row) (defScope s__law_row) .none kV__law_row dc__law_row pm__law_row an__law_row cd__law_row ct__law_row), sl__law_row⟩) (c__law_row : PySem.W.codeIn K cd__law_row "_law_row" = true) (k__law_row : PySem.W.keepIn K (.ref f__law_row) = true)
    (a__law_program : PySem.W.nsIn K mainGlobals "_law_program" = some (some (.ref f__law_program))) (l__law_program : K.lookup f__law_program = some ⟨oc__law_program, od__law_program, .func (PySem.W.fnOf "_law_program" "_law_program" (defArgs s__law_program) (defBody s__law_program) (defScope s__law_program) .none kV__law_program dc__law_program pm__law_program an__law_program cd__law_program ct__law_program), sl__law_program⟩) (c__law_program : PySem.W.codeIn K cd__law_program "_law_program" = true) (k__law_program : PySem.W.keepIn K (.ref f__law_program) = true)
    (a__law_rows : PySem.W.nsIn K mainGlobals "_law_rows" = some (some (.ref f__law_rows))) (l__law_rows : K.lookup f__law_rows = some ⟨oc__law_rows, od__law_rows, .func (PySem.W.fnOf "_law_rows" "_law_rows" (defArgs s__law_rows) (defBody s__law_rows) (defScope s__law_rows) .none kV__law_rows dc__law_rows pm__law_rows an__law_rows cd__law_rows ct__law_rows), sl__law_rows⟩) (c__law_rows : PySem.W.codeIn K cd__law_rows "_law_rows" = true) (k__law_rows : PySem.W.keepIn K (.ref f__law_rows) = true)
    (a__law_variables : PySem.W.nsIn K mainGlobals "_law_variables" = some (some (.ref f__law_variables))) (l__law_variables : K.lookup f__law_variables = some ⟨oc__law_variables, od__law_variables, .func (PySem.W.fnOf "_law_variables" "_law_variables" (defArgs s__law_variables) (defBody s__law_variables) (defScope s__law_variables) .none kV__law_variables dc__law_variables pm__law_variables an__law_variables cd__law_variables ct__law_variables), sl__law_variables⟩) (c__law_variables : PySem.W.codeIn K cd__law_variables "_law_variables" = true) (k__law_variables : PySem.W.keepIn K (.ref f__law_variables) = true)
    (a__law_value : PySem.W.nsIn K mainGlobals "_law_value" = some (some (.ref f__law_value))) (l__law_value : K.lookup f__law_value = some ⟨oc__law_value, od__law_value, .func (PySem.W.fnOf "_law_value" "_law_value" (defArgs s__law_value) (defBody s__law_value) (defScope s__law_value) .none kV__law_value dc__law_value pm__law_value an__law_value cd__law_value ct__law_value), sl__law_value⟩) (c__law_value : PySem.W.codeIn K cd__law_value "_law_value" = true) (k__law_value : PySem.W.keepIn K (.ref f__law_value) = true)
    (a__law_cells : PySem.W.nsIn K mainGlobals "_law_cells" = some (some (.ref f__law_cells))) (l__law_cells : K.lookup f__law_cells = some ⟨oc__law_cells, od__law_cells, .func (PySem.W.fnOf "_law_cells" "_law_cells" (defArgs s__law_cells) (defBody s__law_cells) (defScope s__law_cells) .none kV__law_cells dc__law_cells pm__law_cells an__law_cells cd__law_cells ct__law_cells), sl__law_cells⟩) (c__law_cells : PySem.W.codeIn K cd__law_cells "_law_cells" = true) (k__law_cells : PySem.W.keepIn K (.ref f__law_cells) = true)
    (a__law_chain : PySem.W.nsIn K mainGlobals "_law_chain" = some (some (.ref f__law_chain))) (l__law_chain : K.lookup f__law_chain = some ⟨oc__law_chain, od__law_chain, .func (PySem.W.fnOf "_law_chain" "_law_chain" (defArgs s__law_chain) (defBody s__law_chain) (defScope s__law_chain) .none kV__law_chain dc__law_chain pm__law_chain an__law_chain cd__law_chain ct__law_chain), sl__law_chain⟩) (c__law_chain : PySem.W.codeIn K cd__law_chain "_law_chain" = true) (k__law_chain : PySem.W.keepIn K (.ref f__law_chain) = true)
    (a__law_frames : PySem.W.nsIn K mainGlobals "_law_frames" = some (some (.ref f__law_frames))) (l__law_frames : K.lookup f__law_frames = some ⟨oc__law_frames, od__law_frames, .func (PySem.W.fnOf "_law_frames" "_law_frames" (defArgs s__law_frames) (defBody s__law_frames) (defScope s__law_frames) .none kV__law_frames dc__law_frames pm__law_frames an__law_frames cd__law_frames ct__law_frames), sl__law_frames⟩) (c__law_frames : PySem.W.codeIn K cd__law_frames "_law_frames" = true) (k__law_frames : PySem.W.keepIn K (.ref f__law_frames) = true)
    (a__law_made : PySem.W.nsIn K mainGlobals "_law_made" = some (some (.ref f__law_made))) (l__law_made : K.lookup f__law_made = some ⟨oc__law_made, od__law_made, .func (PySem.W.fnOf "_law_made" "_law_made" (defArgs s__law_made) (defBody s__law_made) (defScope s__law_made) .none kV__law_made dc__law_made pm__law_made an__law_made cd__law_made ct__law_made), sl__law_made⟩) (c__law_made : PySem.W.codeIn K cd__law_made "_law_made" = true) (k__law_made : PySem.W.keepIn K (.ref f__law_made) = true)
    (a__law_int : PySem.W.nsIn K mainGlobals "_law_int" = some (some (.ref f__law_int))) (l__law_int : K.lookup f__law_int = some ⟨oc__law_int, od__law_int, .func (PySem.W.fnOf "_law_int" "_law_int" (defArgs s__law_int) (defBody s__law_int) (defScope s__law_int) .none kV__law_int dc__law_int pm__law_int an__law_int cd__law_int ct__law_int), sl__law_int⟩) (c__law_int : PySem.W.codeIn K cd__law_int "_law_int" = true) (k__law_int : PySem.W.keepIn K (.ref f__law_int) = true)
    (a__law_fine : PySem.W.nsIn K mainGlobals "_law_fine" = some (some (.ref f__law_fine))) (l__law_fine : K.lookup f__law_fine = some ⟨oc__law_fine, od__law_fine, .func (PySem.W.fnOf "_law_fine" "_law_fine" (defArgs s__law_fine) (defBody s__law_fine) (defScope s__law_fine) .none kV__law_fine dc__law_fine pm__law_fine an__law_fine cd__law_fine ct__law_fine), sl__law_fine⟩) (c__law_fine : PySem.W.codeIn K cd__law_fine "_law_fine" = true) (k__law_fine : PySem.W.keepIn K (.ref f__law_fine) = true)
    (a__law_pairs_fine : PySem.W.nsIn K mainGlobals "_law_pairs_fine" = some (some (.ref f__law_pairs_fine))) (l__law_pairs_fine : K.lookup f__law_pairs_fine = some ⟨oc__law_pairs_fine, od__law_pairs_fine, .func (PySem.W.fnOf "_law_pairs_fine" "_law_pairs_fine" (defArgs s__law_pairs_fine) (defBody s__law_pairs_fine) (defScope s__law_pairs_fine) .none kV__law_pairs_fine dc__law_pairs_fine pm__law_pairs_fine an__law_pairs_fine cd__law_pairs_fine ct__law_pairs_fine), sl__law_pairs_fine⟩) (c__law_pairs_fine : PySem.W.codeIn K cd__law_pairs_fine "_law_pairs_fine" = true) (k__law_pairs_fine : PySem.W.keepIn K (.ref f__law_pairs_fine) = true)
    (a__law_names_of : PySem.W.nsIn K mainGlobals "_law_names_of" = some (some (.ref f__law_names_of))) (l__law_names_of : K.lookup f__law_names_of = some ⟨oc__law_names_of, od__law_names_of, .func (PySem.W.fnOf "_law_names_of" "_law_names_of" (defArgs s__law_names_of) (defBody s__law_names_of) (defScope s__law_names_of) .none kV__law_names_of dc__law_names_of pm__law_names_of an__law_names_of cd__law_names_of ct__law_names_of), sl__law_names_of⟩) (c__law_names_of : PySem.W.codeIn K cd__law_names_of "_law_names_of" = true) (k__law_names_of : PySem.W.keepIn K (.ref f__law_names_of) = true)
    (a__law_cells_fine : PySem.W.nsIn K mainGlobals "_law_cells_fine" = some (some (.ref f__law_cells_fine))) (l__law_cells_fine : K.lookup f__law_cells_fine = some ⟨oc__law_cells_fine, od__law_cells_fine, .func (PySem.W.fnOf "_law_cells_fine" "_law_cells_fine" (defArgs s__law_cells_fine) (defBody s__law_cells_fine) (defScope s__law_cells_fine) .none kV__law_cells_fine dc__law_cells_fine pm__law_cells_fine an__law_cells_fine cd__law_cells_fine ct__law_cells_fine), sl__law_cells_fine⟩) (c__law_cells_fine : PySem.W.codeIn K cd__law_cells_fine "_law_cells_fine" = true) (k__law_cells_fine : PySem.W.keepIn K (.ref f__law_cells_fine) = true)
    (a__law_frame_fine : PySem.W.nsIn K mainGlobals "_law_frame_fine" = some (some (.ref f__law_frame_fine))) (l__law_frame_fine : K.lookup f__law_frame_fine = some ⟨oc__law_frame_fine, od__law_frame_fine, .func (PySem.W.fnOf "_law_frame_fine" "_law_frame_fine" (defArgs s__law_frame_fine) (defBody s__law_frame_fine) (defScope s__law_frame_fine) .none kV__law_frame_fine dc__law_frame_fine pm__law_frame_fine an__law_frame_fine cd__law_frame_fine ct__law_frame_fine), sl__law_frame_fine⟩) (c__law_frame_fine : PySem.W.codeIn K cd__law_frame_fine "_law_frame_fine" = true) (k__law_frame_fine : PySem.W.keepIn K (.ref f__law_frame_fine) = true)
    (a__law_due : PySem.W.nsIn K mainGlobals "_law_due" = some (some (.ref f__law_due))) (l__law_due : K.lookup f__law_due = some ⟨oc__law_due, od__law_due, .func (PySem.W.fnOf "_law_due" "_law_due" (defArgs s__law_due) (defBody s__law_due) (defScope s__law_due) .none kV__law_due dc__law_due pm__law_due an__law_due cd__law_due ct__law_due), sl__law_due⟩) (c__law_due : PySem.W.codeIn K cd__law_due "_law_due" = true) (k__law_due : PySem.W.keepIn K (.ref f__law_due) = true)
    (a__law_odd : PySem.W.nsIn K mainGlobals "_law_odd" = some (some (.ref f__law_odd))) (l__law_odd : K.lookup f__law_odd = some ⟨oc__law_odd, od__law_odd, .func (PySem.W.fnOf "_law_odd" "_law_odd" (defArgs s__law_odd) (defBody s__law_odd) (defScope s__law_odd) .none kV__law_odd dc__law_odd pm__law_odd an__law_odd cd__law_odd ct__law_odd), sl__law_odd⟩) (c__law_odd : PySem.W.codeIn K cd__law_odd "_law_odd" = true) (k__law_odd : PySem.W.keepIn K (.ref f__law_odd) = true)
    (a__law_bent : PySem.W.nsIn K mainGlobals "_law_bent" = some (some (.ref f__law_bent))) (l__law_bent : K.lookup f__law_bent = some ⟨oc__law_bent, od__law_bent, .func (PySem.W.fnOf "_law_bent" "_law_bent" (defArgs s__law_bent) (defBody s__law_bent) (defScope s__law_bent) .none kV__law_bent dc__law_bent pm__law_bent an__law_bent cd__law_bent ct__law_bent), sl__law_bent⟩) (c__law_bent : PySem.W.codeIn K cd__law_bent "_law_bent" = true) (k__law_bent : PySem.W.keepIn K (.ref f__law_bent) = true)
    (a__law_told : PySem.W.nsIn K mainGlobals "_law_told" = some (some (.ref f__law_told))) (l__law_told : K.lookup f__law_told = some ⟨oc__law_told, od__law_told, .func (PySem.W.fnOf "_law_told" "_law_told" (defArgs s__law_told) (defBody s__law_told) (defScope s__law_told) .none kV__law_told dc__law_told pm__law_told an__law_told cd__law_told ct__law_told), sl__law_told⟩) (c__law_told : PySem.W.codeIn K cd__law_told "_law_told" = true) (k__law_told : PySem.W.keepIn K (.ref f__law_told) = true)
    (a_law : PySem.W.nsIn K mainGlobals "law" = some (some (.ref f_law))) (l_law : K.lookup f_law = some ⟨oc_law, od_law, .func (PySem.W.fnOf "law" "law" (defArgs s_law) (defBody s_law) (defScope s_law) .none kV_law dc_law pm_law an_law cd_law ct_law), sl_law⟩) (c_law : PySem.W.codeIn K cd_law "law" = true) (k_law : PySem.W.keepIn K (.ref f_law) = true)
    (z_all : PySem.W.nsIn K mainGlobals "all" = some none)
    (z_bool : PySem.W.nsIn K mainGlobals "bool" = some none)
    (z_dict : PySem.W.nsIn K mainGlobals "dict" = some none)
    (z_enumerate : PySem.W.nsIn K mainGlobals "enumerate" = some none)
    (z_int : PySem.W.nsIn K mainGlobals "int" = some none)
    (z_isinstance : PySem.W.nsIn K mainGlobals "isinstance" = some none)
    (z_len : PySem.W.nsIn K mainGlobals "len" = some none)
    (z_list : PySem.W.nsIn K mainGlobals "list" = some none)
    (z_max : PySem.W.nsIn K mainGlobals "max" = some none)
    (z_range : PySem.W.nsIn K mainGlobals "range" = some none)
    (z_repr : PySem.W.nsIn K mainGlobals "repr" = some none)
    (z_set : PySem.W.nsIn K mainGlobals "set" = some none)
    (z_sorted : PySem.W.nsIn K mainGlobals "sorted" = some none)
    (z_str : PySem.W.nsIn K mainGlobals "str" = some none)
    (z_tuple : PySem.W.nsIn K mainGlobals "tuple" = some none)
    (z_zip : PySem.W.nsIn K mainGlobals "zip" = some none)
    {t_SHAPES_0 t_SHAPES_1 t_SHAPES_2 t_SHAPES_3 t_SHAPES_4 t_SHAPES_5 t_SHAPES_6 t_SHAPES_7 t_SHAPES_8 t_SHAPES_9 t_SHAPES_10 t_SHAPES_11 t_SHAPES_12 t_SHAPES_13 t_SHAPES_14 t_SHAPES_15 t_SHAPES_16 : Tok} (g_SHAPES : PySem.W.nsIn K mainGlobals "SHAPES" = some (some (.ref fg_SHAPES))) (h_SHAPES : K.lookup fg_SHAPES = some ⟨.type "dict", none, .dict es_SHAPES n_SHAPES, #[]⟩) (y_SHAPES : PySem.W.KeysLit w.params es_SHAPES.toList) (x_SHAPES_0 : PySem.W.nsIn K fg_SHAPES "copy" = some (some (.str "xy" t_SHAPES_0))) (x_SHAPES_1 : PySem.W.nsIn K fg_SHAPES "none" = some (some (.str "x" t_SHAPES_1))) (x_SHAPES_2 : PySem.W.nsIn K fg_SHAPES "number" = some (some (.str "xn" t_SHAPES_2))) (x_SHAPES_3 : PySem.W.nsIn K fg_SHAPES "plus" = some (some (.str "xyy" t_SHAPES_3))) (x_SHAPES_4 : PySem.W.nsIn K fg_SHAPES "minus" = some (some (.str "xyy" t_SHAPES_4))) (x_SHAPES_5 : PySem.W.nsIn K fg_SHAPES "times" = some (some (.str "xyy" t_SHAPES_5))) (x_SHAPES_6 : PySem.W.nsIn K fg_SHAPES "make" = some (some (.str "xkY" t_SHAPES_6))) (x_SHAPES_7 : PySem.W.nsIn K fg_SHAPES "read" = some (some (.str "xyf" t_SHAPES_7))) (x_SHAPES_8 : PySem.W.nsIn K fg_SHAPES "input" = some (some (.str "o" t_SHAPES_8))) (x_SHAPES_9 : PySem.W.nsIn K fg_SHAPES "tell" = some (some (.str "y" t_SHAPES_9))) (x_SHAPES_10 : PySem.W.nsIn K fg_SHAPES "call" = some (some (.str "opY" t_SHAPES_10))) (x_SHAPES_11 : PySem.W.nsIn K fg_SHAPES "return" = some (some (.str "y" t_SHAPES_11))) (x_SHAPES_12 : PySem.W.nsIn K fg_SHAPES "jump" = some (some (.str "r" t_SHAPES_12))) (x_SHAPES_13 : PySem.W.nsIn K fg_SHAPES "less" = some (some (.str "yyr" t_SHAPES_13))) (x_SHAPES_14 : PySem.W.nsIn K fg_SHAPES "same" = some (some (.str "yyr" t_SHAPES_14))) (x_SHAPES_15 : PySem.W.nsIn K fg_SHAPES "is" = some (some (.str "ywr" t_SHAPES_15))) (x_SHAPES_16 : PySem.W.nsIn K fg_SHAPES "use" = some (some (.str "xtY" t_SHAPES_16)))
    {t_MODULUS : Tok} (g_MODULUS : PySem.W.nsIn K mainGlobals "MODULUS" = some (some (.int 1000003 t_MODULUS))) :
    ∃ fd : FuncData, (∀ (s : Shared) (v : Value), BindsTo s fd ⟨[v], []⟩ [("script", v)]) ∧ ∀ base : Heap, K.In base → base.Ns mainGlobals mg → FnD P w K mg base CX0 17 fa fd ["script"] sp_law := by
  have e := hfa.symm.trans (PySem.W.mg_of X G a_law)
  cases e
  have T : Txt K w mg := ⟨PySem.W.mg_none_of X G z_all, PySem.W.mg_none_of X G z_bool, PySem.W.mg_none_of X G z_dict, PySem.W.mg_none_of X G z_enumerate, PySem.W.mg_none_of X G z_int, PySem.W.mg_none_of X G z_isinstance, PySem.W.mg_none_of X G z_len, PySem.W.mg_none_of X G z_list, PySem.W.mg_none_of X G z_max, PySem.W.mg_none_of X G z_range, PySem.W.mg_none_of X G z_repr, PySem.W.mg_none_of X G z_set, PySem.W.mg_none_of X G z_sorted, PySem.W.mg_none_of X G z_str, PySem.W.mg_none_of X G z_tuple, PySem.W.mg_none_of X G z_zip, ⟨fg_SHAPES, PySem.W.mg_of X G g_SHAPES, look_all [("copy", "xy"), ("none", "x"), ("number", "xn"), ("plus", "xyy"), ("minus", "xyy"), ("times", "xyy"), ("make", "xkY"), ("read", "xyf"), ("input", "o"), ("tell", "y"), ("call", "opY"), ("return", "y"), ("jump", "r"), ("less", "yyr"), ("same", "yyr"), ("is", "ywr"), ("use", "xtY")] fun q hq => by
    simp only [List.mem_cons, List.not_mem_nil, or_false] at hq
    rcases hq with rfl | rfl | rfl | rfl | rfl | rfl | rfl | rfl | rfl | rfl | rfl | rfl | rfl | rfl | rfl | rfl | rfl
    · exact ⟨_, _, _, h_SHAPES, y_SHAPES, x_SHAPES_0, ⟨_, rfl⟩⟩
    · exact ⟨_, _, _, h_SHAPES, y_SHAPES, x_SHAPES_1, ⟨_, rfl⟩⟩
    · exact ⟨_, _, _, h_SHAPES, y_SHAPES, x_SHAPES_2, ⟨_, rfl⟩⟩
    · exact ⟨_, _, _, h_SHAPES, y_SHAPES, x_SHAPES_3, ⟨_, rfl⟩⟩
    · exact ⟨_, _, _, h_SHAPES, y_SHAPES, x_SHAPES_4, ⟨_, rfl⟩⟩
    · exact ⟨_, _, _, h_SHAPES, y_SHAPES, x_SHAPES_5, ⟨_, rfl⟩⟩
    · exact ⟨_, _, _, h_SHAPES, y_SHAPES, x_SHAPES_6, ⟨_, rfl⟩⟩
    · exact ⟨_, _, _, h_SHAPES, y_SHAPES, x_SHAPES_7, ⟨_, rfl⟩⟩
    · exact ⟨_, _, _, h_SHAPES, y_SHAPES, x_SHAPES_8, ⟨_, rfl⟩⟩
    · exact ⟨_, _, _, h_SHAPES, y_SHAPES, x_SHAPES_9, ⟨_, rfl⟩⟩
    · exact ⟨_, _, _, h_SHAPES, y_SHAPES, x_SHAPES_10, ⟨_, rfl⟩⟩
    · exact ⟨_, _, _, h_SHAPES, y_SHAPES, x_SHAPES_11, ⟨_, rfl⟩⟩
    · exact ⟨_, _, _, h_SHAPES, y_SHAPES, x_SHAPES_12, ⟨_, rfl⟩⟩
    · exact ⟨_, _, _, h_SHAPES, y_SHAPES, x_SHAPES_13, ⟨_, rfl⟩⟩
    · exact ⟨_, _, _, h_SHAPES, y_SHAPES, x_SHAPES_14, ⟨_, rfl⟩⟩
    · exact ⟨_, _, _, h_SHAPES, y_SHAPES, x_SHAPES_15, ⟨_, rfl⟩⟩
    · exact ⟨_, _, _, h_SHAPES, y_SHAPES, x_SHAPES_16, ⟨_, rfl⟩⟩⟩, ⟨t_MODULUS, PySem.W.mg_of X G g_MODULUS⟩⟩
  have F_is_integer := fun_mk (st := s_is_integer) l_is_integer c_is_integer k_is_integer
  have F_is_number := fun_mk (st := s_is_number) l_is_number c_is_number k_is_number
  have F_variables_in := fun_mk (st := s_variables_in) l_variables_in c_variables_in k_variables_in
  have F_all_variables := fun_mk (st := s_all_variables) l_all_variables c_all_variables k_all_variables
  have F_kind_of := fun_mk (st := s_kind_of) l_kind_of c_kind_of k_kind_of
  have F_procedure_of := fun_mk (st := s_procedure_of) l_procedure_of c_procedure_of k_procedure_of
  have F_variables_of := fun_mk (st := s_variables_of) l_variables_of c_variables_of k_variables_of
  have F_first_frame := fun_mk (st := s_first_frame) l_first_frame c_first_frame k_first_frame
  have F_is_value := fun_mk (st := s_is_value) l_is_value c_is_value k_is_value
  have F_are_pairs := fun_mk (st := s_are_pairs) l_are_pairs c_are_pairs k_are_pairs
  have F_is_cell_of := fun_mk (st := s_is_cell_of) l_is_cell_of c_is_cell_of k_is_cell_of
  have F_cell_numbers := fun_mk (st := s_cell_numbers) l_cell_numbers c_cell_numbers k_cell_numbers
  have F_is_frame := fun_mk (st := s_is_frame) l_is_frame c_is_frame k_is_frame
  have F_waits_for := fun_mk (st := s_waits_for) l_waits_for c_waits_for k_waits_for
  have F_are_frames := fun_mk (st := s_are_frames) l_are_frames c_are_frames k_are_frames
  have F_is_state := fun_mk (st := s_is_state) l_is_state c_is_state k_is_state
  have F_first_state := fun_mk (st := s_first_state) l_first_state c_first_state k_first_state
  have F__law_deck := fun_mk (st := s__law_deck) l__law_deck c__law_deck k__law_deck
  have F__law_draw := fun_mk (st := s__law_draw) l__law_draw c__law_draw k__law_draw
  have F__law_pick := fun_mk (st := s__law_pick) l__law_pick c__law_pick k__law_pick
  have F__law_words := fun_mk (st := s__law_words) l__law_words c__law_words k__law_words
  have F__law_kinds := fun_mk (st := s__law_kinds) l__law_kinds c__law_kinds k__law_kinds
  have F__law_heads := fun_mk (st := s__law_heads) l__law_heads c__law_heads k__law_heads
  have F__law_number := fun_mk (st := s__law_number) l__law_number c__law_number k__law_number
  have F__law_row := fun_mk (st := s__law_row) l__law_row c__law_row k__law_row
  have F__law_program := fun_mk (st := s__law_program) l__law_program c__law_program k__law_program
  have F__law_rows := fun_mk (st := s__law_rows) l__law_rows c__law_rows k__law_rows
  have F__law_variables := fun_mk (st := s__law_variables) l__law_variables c__law_variables k__law_variables
  have F__law_value := fun_mk (st := s__law_value) l__law_value c__law_value k__law_value
  have F__law_cells := fun_mk (st := s__law_cells) l__law_cells c__law_cells k__law_cells
  have F__law_chain := fun_mk (st := s__law_chain) l__law_chain c__law_chain k__law_chain
  have F__law_frames := fun_mk (st := s__law_frames) l__law_frames c__law_frames k__law_frames
  have F__law_made := fun_mk (st := s__law_made) l__law_made c__law_made k__law_made
  have F__law_int := fun_mk (st := s__law_int) l__law_int c__law_int k__law_int
  have F__law_fine := fun_mk (st := s__law_fine) l__law_fine c__law_fine k__law_fine
  have F__law_pairs_fine := fun_mk (st := s__law_pairs_fine) l__law_pairs_fine c__law_pairs_fine k__law_pairs_fine
  have F__law_names_of := fun_mk (st := s__law_names_of) l__law_names_of c__law_names_of k__law_names_of
  have F__law_cells_fine := fun_mk (st := s__law_cells_fine) l__law_cells_fine c__law_cells_fine k__law_cells_fine
  have F__law_frame_fine := fun_mk (st := s__law_frame_fine) l__law_frame_fine c__law_frame_fine k__law_frame_fine
  have F__law_due := fun_mk (st := s__law_due) l__law_due c__law_due k__law_due
  have F__law_odd := fun_mk (st := s__law_odd) l__law_odd c__law_odd k__law_odd
  have F__law_bent := fun_mk (st := s__law_bent) l__law_bent c__law_bent k__law_bent
  have F__law_told := fun_mk (st := s__law_told) l__law_told c__law_told k__law_told
  have F_law := fun_mk (st := s_law) l_law c_law k_law
  refine ⟨PySem.W.fnOf "law" "law" (defArgs s_law) (defBody s_law) (defScope s_law) .none kV_law dc_law pm_law an_law cd_law ct_law, fun s v => .of_eq rfl, fun base _ _ => ?_⟩
  have C_is_integer := ok_is_integer (P := P) (w := w) (base := base) T   F_is_integer (PySem.W.mg_of X G a_is_integer)
  have C_is_number := ok_is_number (P := P) (w := w) (base := base) T  C_is_integer F_is_number (PySem.W.mg_of X G a_is_number)
  have C_variables_in := ok_variables_in (P := P) (w := w) (base := base) T   F_variables_in (PySem.W.mg_of X G a_variables_in)
  have C_all_variables := ok_all_variables (P := P) (w := w) (base := base) T  C_variables_in F_all_variables (PySem.W.mg_of X G a_all_variables)
  have C_kind_of := ok_kind_of (P := P) (w := w) (base := base) T   F_kind_of (PySem.W.mg_of X G a_kind_of)
  have C_procedure_of := ok_procedure_of (P := P) (w := w) (base := base) T   F_procedure_of (PySem.W.mg_of X G a_procedure_of)
  have C_variables_of := ok_variables_of (P := P) (w := w) (base := base) T  C_procedure_of C_all_variables F_variables_of (PySem.W.mg_of X G a_variables_of)
  have C_first_frame := ok_first_frame (P := P) (w := w) (base := base) T  C_procedure_of C_variables_of F_first_frame (PySem.W.mg_of X G a_first_frame)
  have C_is_value := ok_is_value (P := P) (w := w) (base := base) T  C_is_number C_is_integer F_is_value (PySem.W.mg_of X G a_is_value)
  have C_are_pairs := ok_are_pairs (P := P) (w := w) (base := base) T  C_is_value F_are_pairs (PySem.W.mg_of X G a_are_pairs)
  have C_is_cell_of := ok_is_cell_of (P := P) (w := w) (base := base) T  C_kind_of C_is_integer C_are_pairs F_is_cell_of (PySem.W.mg_of X G a_is_cell_of)
  have C_cell_numbers := ok_cell_numbers (P := P) (w := w) (base := base) T  C_is_cell_of F_cell_numbers (PySem.W.mg_of X G a_cell_numbers)
  have C_is_frame := ok_is_frame (P := P) (w := w) (base := base) T  C_is_integer C_are_pairs C_variables_of C_procedure_of F_is_frame (PySem.W.mg_of X G a_is_frame)
  have C_waits_for := ok_waits_for (P := P) (w := w) (base := base) T  C_procedure_of F_waits_for (PySem.W.mg_of X G a_waits_for)
  have C_are_frames := ok_are_frames (P := P) (w := w) (base := base) T  C_waits_for C_is_frame F_are_frames (PySem.W.mg_of X G a_are_frames)
  have C_is_state := ok_is_state (P := P) (w := w) (base := base) T  C_cell_numbers C_are_frames C_is_integer F_is_state (PySem.W.mg_of X G a_is_state)
  have C_first_state := ok_first_state (P := P) (w := w) (base := base) T  C_first_frame F_first_state (PySem.W.mg_of X G a_first_state)
  have C__law_deck := ok__law_deck (P := P) (w := w) (base := base) T   F__law_deck (PySem.W.mg_of X G a__law_deck)
  have C__law_draw := ok__law_draw (P := P) (w := w) (base := base) T   F__law_draw (PySem.W.mg_of X G a__law_draw)
  have C__law_pick := ok__law_pick (P := P) (w := w) (base := base) T  C__law_draw F__law_pick (PySem.W.mg_of X G a__law_pick)
  have C__law_words := ok__law_words (P := P) (w := w) (base := base) T  C__law_draw F__law_words (PySem.W.mg_of X G a__law_words)
  have C__law_kinds := ok__law_kinds (P := P) (w := w) (base := base) T  C__law_words C__law_draw F__law_kinds (PySem.W.mg_of X G a__law_kinds)
  have C__law_heads := ok__law_heads (P := P) (w := w) (base := base) T  C__law_words C__law_draw F__law_heads (PySem.W.mg_of X G a__law_heads)
  have C__law_number := ok__law_number (P := P) (w := w) (base := base) T  C__law_draw F__law_number (PySem.W.mg_of X G a__law_number)
  have C__law_row := ok__law_row (P := P) (w := w) (base := base) T  C__law_pick C__law_draw C__law_number F__law_row (PySem.W.mg_of X G a__law_row)
  have C__law_program := ok__law_program (P := P) (w := w) (base := base) T  C__law_kinds C__law_heads C__law_words C__law_draw C__law_row C__law_pick F__law_program (PySem.W.mg_of X G a__law_program)
  have C__law_rows := ok__law_rows (P := P) (w := w) (base := base) T   F__law_rows (PySem.W.mg_of X G a__law_rows)
  have C__law_variables := ok__law_variables (P := P) (w := w) (base := base) T   F__law_variables (PySem.W.mg_of X G a__law_variables)
  have C__law_value := ok__law_value (P := P) (w := w) (base := base) T  C__law_draw C__law_number C__law_pick F__law_value (PySem.W.mg_of X G a__law_value)
  have C__law_cells := ok__law_cells (P := P) (w := w) (base := base) T  C__law_draw C__law_pick C__law_value F__law_cells (PySem.W.mg_of X G a__law_cells)
  have C__law_chain := ok__law_chain (P := P) (w := w) (base := base) T  C__law_draw C__law_rows C__law_pick F__law_chain (PySem.W.mg_of X G a__law_chain)
  have C__law_frames := ok__law_frames (P := P) (w := w) (base := base) T  C__law_value C__law_variables F__law_frames (PySem.W.mg_of X G a__law_frames)
  have C__law_made := ok__law_made (P := P) (w := w) (base := base) T  C__law_draw F__law_made (PySem.W.mg_of X G a__law_made)
  have C__law_int := ok__law_int (P := P) (w := w) (base := base) T   F__law_int (PySem.W.mg_of X G a__law_int)
  have C__law_fine := ok__law_fine (P := P) (w := w) (base := base) T  C__law_int F__law_fine (PySem.W.mg_of X G a__law_fine)
  have C__law_pairs_fine := ok__law_pairs_fine (P := P) (w := w) (base := base) T  C__law_fine F__law_pairs_fine (PySem.W.mg_of X G a__law_pairs_fine)
  have C__law_names_of := ok__law_names_of (P := P) (w := w) (base := base) T   F__law_names_of (PySem.W.mg_of X G a__law_names_of)
  have C__law_cells_fine := ok__law_cells_fine (P := P) (w := w) (base := base) T  C__law_names_of C__law_pairs_fine C__law_int F__law_cells_fine (PySem.W.mg_of X G a__law_cells_fine)
  have C__law_frame_fine := ok__law_frame_fine (P := P) (w := w) (base := base) T  C__law_pairs_fine C__law_int C__law_variables C__law_rows F__law_frame_fine (PySem.W.mg_of X G a__law_frame_fine)
  have C__law_due := ok__law_due (P := P) (w := w) (base := base) T  C__law_cells_fine C__law_int C__law_rows C__law_frame_fine F__law_due (PySem.W.mg_of X G a__law_due)
  have C__law_odd := ok__law_odd (P := P) (w := w) (base := base) T  C__law_pick C__law_draw F__law_odd (PySem.W.mg_of X G a__law_odd)
  have C__law_bent := ok__law_bent (P := P) (w := w) (base := base) T  C__law_odd C__law_draw F__law_bent (PySem.W.mg_of X G a__law_bent) 12
  have C__law_told := ok__law_told (P := P) (w := w) (base := base) T  C_is_state C__law_due F__law_told (PySem.W.mg_of X G a__law_told)
  have C_law := ok_law (P := P) (w := w) (base := base) T  C__law_deck C__law_program C__law_chain C__law_cells C__law_bent C__law_frames C__law_made C__law_draw C__law_told C_is_state C_first_state C__law_variables C__law_rows F_law (PySem.W.mg_of X G a_law)
  obtain ⟨f0, fd0, r0, _, m0, fn0⟩ := C_law
  have e0 := (PySem.W.mg_of X G a_law).symm.trans m0
  cases e0
  obtain ⟨oc0, od0, kV0, dc0, pm0, an0, cd0, ct0, sl0, ef, lk, _⟩ := fn0.ex
  have el := l_law.symm.trans lk
  subst ef
  cases el
  exact r0
end K10
open PySem PySem.W PyProof.Rows
set_option maxRecDepth 100000 in
set_option maxHeartbeats 0 in
theorem PySem.Challenge.cw_reinways_k10_states_of_any_value_holds : PySem.Challenge.rw_reinways_k10_states_of_any_value.Holds := by
  w_on; o_law; k_head; (case hw => w_witness2)
  k_fill
  refine DL.walkD (l := PySem.Challenge.rw_reinways_k10_states_of_any_value) (n := 63) (k := 17) (x := "script") (sp := K10.sp_law) rfl (by decide) rfl ⟨rfl, by decide, by decide⟩ (fun w h Y => PySem.W.kIn_of Y) ?F K10.law_ok
  case F =>
    intro w mg fa h KX G hmg
    refine' K10.all_mk KX G hmg ?a_is_integer ?l_is_integer ?c_is_integer ?k_is_integer ?a_is_number ?l_is_number ?c_is_number ?k_is_number ?a_variables_in ?l_variables_in ?c_variables_in ?k_variables_in ?a_all_variables ?l_all_variables ?c_all_variables ?k_all_variables ?a_kind_of ?l_kind_of ?c_kind_of ?k_kind_of ?a_procedure_of ?l_procedure_of ?c_procedure_of ?k_procedure_of ?a_variables_of ?l_variables_of ?c_variables_of ?k_variables_of ?a_first_frame ?l_first_frame ?c_first_frame ?k_first_frame ?a_is_value ?l_is_value ?c_is_value ?k_is_value ?a_are_pairs ?l_are_pairs ?c_are_pairs ?k_are_pairs ?a_is_cell_of ?l_is_cell_of ?c_is_cell_of ?k_is_cell_of ?a_cell_numbers ?l_cell_numbers ?c_cell_numbers ?k_cell_numbers ?a_is_frame ?l_is_frame ?c_is_frame ?k_is_frame ?a_waits_for ?l_waits_for ?c_waits_for ?k_waits_for ?a_are_frames ?l_are_frames ?c_are_frames ?k_are_frames ?a_is_state ?l_is_state ?c_is_state ?k_is_state ?a_first_state ?l_first_state ?c_first_state ?k_first_state ?a__law_deck ?l__law_deck ?c__law_deck ?k__law_deck ?a__law_draw ?l__law_draw ?c__law_draw ?k__law_draw ?a__law_pick ?l__law_pick ?c__law_pick ?k__law_pick ?a__law_words ?l__law_words ?c__law_words ?k__law_words ?a__law_kinds ?l__law_kinds ?c__law_kinds ?k__law_kinds ?a__law_heads ?l__law_heads ?c__law_heads ?k__law_heads ?a__law_number ?l__law_number ?c__law_number ?k__law_number ?a__law_row ?l__law_row ?c__law_row ?k__law_row ?a__law_program ?l__law_program ?c__law_program ?k__law_program ?a__law_rows ?l__law_rows ?c__law_rows ?k__law_rows ?a__law_variables ?l__law_variables ?c__law_variables ?k__law_variables ?a__law_value ?l__law_value ?c__law_value ?k__law_value ?a__law_cells ?l__law_cells ?c__law_cells ?k__law_cells ?a__law_chain ?l__law_chain ?c__law_chain ?k__law_chain ?a__law_frames ?l__law_frames ?c__law_frames ?k__law_frames ?a__law_made ?l__law_made ?c__law_made ?k__law_made ?a__law_int ?l__law_int ?c__law_int ?k__law_int ?a__law_fine ?l__law_fine ?c__law_fine ?k__law_fine ?a__law_pairs_fine ?l__law_pairs_fine ?c__law_pairs_fine ?k__law_pairs_fine ?a__law_names_of ?l__law_names_of ?c__law_names_of ?k__law_names_of ?a__law_cells_fine ?l__law_cells_fine ?c__law_cells_fine ?k__law_cells_fine ?a__law_frame_fine ?l__law_frame_fine ?c__law_frame_fine ?k__law_frame_fine ?a__law_due ?l__law_due ?c__law_due ?k__law_due ?a__law_odd ?l__law_odd ?c__law_odd ?k__law_odd ?a__law_bent ?l__law_bent ?c__law_bent ?k__law_bent ?a__law_told ?l__law_told ?c__law_told ?k__law_told ?a_law ?l_law ?c_law ?k_law ?z_all ?z_bool ?z_dict ?z_enumerate ?z_int ?z_isinstance ?z_len ?z_list ?z_max ?z_range ?z_repr ?z_set ?z_sorted ?z_str ?z_tuple ?z_zip ?g_SHAPES ?h_SHAPES ?y_SHAPES ?x_SHAPES_0 ?x_SHAPES_1 ?x_SHAPES_2 ?x_SHAPES_3 ?x_SHAPES_4 ?x_SHAPES_5 ?x_SHAPES_6 ?x_SHAPES_7 ?x_SHAPES_8 ?x_SHAPES_9 ?x_SHAPES_10 ?x_SHAPES_11 ?x_SHAPES_12 ?x_SHAPES_13 ?x_SHAPES_14 ?x_SHAPES_15 ?x_SHAPES_16 ?g_MODULUS
    (case a_is_integer => k_is)
    (case l_is_integer => k_is)
    (case c_is_integer => k_is)
    (case k_is_integer => k_is)
    (case a_is_number => k_is)
    (case l_is_number => k_is)
    (case c_is_number => k_is)
    (case k_is_number => k_is)
    (case a_variables_in => k_is)
    (case l_variables_in => k_is)
    (case c_variables_in => k_is)
    (case k_variables_in => k_is)
    (case a_all_variables => k_is)
    (case l_all_variables => k_is)
    (case c_all_variables => k_is)
    (case k_all_variables => k_is)
    (case a_kind_of => k_is)
    (case l_kind_of => k_is)
    (case c_kind_of => k_is)
    (case k_kind_of => k_is)
    (case a_procedure_of => k_is)
    (case l_procedure_of => k_is)
    (case c_procedure_of => k_is)
    (case k_procedure_of => k_is)
    (case a_variables_of => k_is)
    (case l_variables_of => k_is)
    (case c_variables_of => k_is)
    (case k_variables_of => k_is)
    (case a_first_frame => k_is)
    (case l_first_frame => k_is)
    (case c_first_frame => k_is)
    (case k_first_frame => k_is)
    (case a_is_value => k_is)
    (case l_is_value => k_is)
    (case c_is_value => k_is)
    (case k_is_value => k_is)
    (case a_are_pairs => k_is)
    (case l_are_pairs => k_is)
    (case c_are_pairs => k_is)
    (case k_are_pairs => k_is)
    (case a_is_cell_of => k_is)
    (case l_is_cell_of => k_is)
    (case c_is_cell_of => k_is)
    (case k_is_cell_of => k_is)
    (case a_cell_numbers => k_is)
    (case l_cell_numbers => k_is)
    (case c_cell_numbers => k_is)
    (case k_cell_numbers => k_is)
    (case a_is_frame => k_is)
    (case l_is_frame => k_is)
    (case c_is_frame => k_is)
    (case k_is_frame => k_is)
    (case a_waits_for => k_is)
    (case l_waits_for => k_is)
    (case c_waits_for => k_is)
    (case k_waits_for => k_is)
    (case a_are_frames => k_is)
    (case l_are_frames => k_is)
    (case c_are_frames => k_is)
    (case k_are_frames => k_is)
    (case a_is_state => k_is)
    (case l_is_state => k_is)
    (case c_is_state => k_is)
    (case k_is_state => k_is)
    (case a_first_state => k_is)
    (case l_first_state => k_is)
    (case c_first_state => k_is)
    (case k_first_state => k_is)
    (case a__law_deck => k_is)
    (case l__law_deck => k_is)
    (case c__law_deck => k_is)
    (case k__law_deck => k_is)
    (case a__law_draw => k_is)
    (case l__law_draw => k_is)
    (case c__law_draw => k_is)
    (case k__law_draw => k_is)
    (case a__law_pick => k_is)
    (case l__law_pick => k_is)
    (case c__law_pick => k_is)
    (case k__law_pick => k_is)
    (case a__law_words => k_is)
    (case l__law_words => k_is)
    (case c__law_words => k_is)
    (case k__law_words => k_is)
    (case a__law_kinds => k_is)
    (case l__law_kinds => k_is)
    (case c__law_kinds => k_is)
    (case k__law_kinds => k_is)
    (case a__law_heads => k_is)
    (case l__law_heads => k_is)
    (case c__law_heads => k_is)
    (case k__law_heads => k_is)
    (case a__law_number => k_is)
    (case l__law_number => k_is)
    (case c__law_number => k_is)
    (case k__law_number => k_is)
    (case a__law_row => k_is)
    (case l__law_row => k_is)
    (case c__law_row => k_is)
    (case k__law_row => k_is)
    (case a__law_program => k_is)
    (case l__law_program => k_is)
    (case c__law_program => k_is)
    (case k__law_program => k_is)
    (case a__law_rows => k_is)
    (case l__law_rows => k_is)
    (case c__law_rows => k_is)
    (case k__law_rows => k_is)
    (case a__law_variables => k_is)
    (case l__law_variables => k_is)
    (case c__law_variables => k_is)
    (case k__law_variables => k_is)
    (case a__law_value => k_is)
    (case l__law_value => k_is)
    (case c__law_value => k_is)
    (case k__law_value => k_is)
    (case a__law_cells => k_is)
    (case l__law_cells => k_is)
    (case c__law_cells => k_is)
    (case k__law_cells => k_is)
    (case a__law_chain => k_is)
    (case l__law_chain => k_is)
    (case c__law_chain => k_is)
    (case k__law_chain => k_is)
    (case a__law_frames => k_is)
    (case l__law_frames => k_is)
    (case c__law_frames => k_is)
    (case k__law_frames => k_is)
    (case a__law_made => k_is)
    (case l__law_made => k_is)
    (case c__law_made => k_is)
    (case k__law_made => k_is)
    (case a__law_int => k_is)
    (case l__law_int => k_is)
    (case c__law_int => k_is)
    (case k__law_int => k_is)
    (case a__law_fine => k_is)
    (case l__law_fine => k_is)
    (case c__law_fine => k_is)
    (case k__law_fine => k_is)
    (case a__law_pairs_fine => k_is)
    (case l__law_pairs_fine => k_is)
    (case c__law_pairs_fine => k_is)
    (case k__law_pairs_fine => k_is)
    (case a__law_names_of => k_is)
    (case l__law_names_of => k_is)
    (case c__law_names_of => k_is)
    (case k__law_names_of => k_is)
    (case a__law_cells_fine => k_is)
    (case l__law_cells_fine => k_is)
    (case c__law_cells_fine => k_is)
    (case k__law_cells_fine => k_is)
    (case a__law_frame_fine => k_is)
    (case l__law_frame_fine => k_is)
    (case c__law_frame_fine => k_is)
    (case k__law_frame_fine => k_is)
    (case a__law_due => k_is)
    (case l__law_due => k_is)
    (case c__law_due => k_is)
    (case k__law_due => k_is)
    (case a__law_odd => k_is)
    (case l__law_odd => k_is)
    (case c__law_odd => k_is)
    (case k__law_odd => k_is)
    (case a__law_bent => k_is)
    (case l__law_bent => k_is)
    (case c__law_bent => k_is)
    (case k__law_bent => k_is)
    (case a__law_told => k_is)
    (case l__law_told => k_is)
    (case c__law_told => k_is)
    (case k__law_told => k_is)
    (case a_law => k_is)
    (case l_law => k_is)
    (case c_law => k_is)
    (case k_law => k_is)
    (case z_all => k_is)
    (case z_bool => k_is)
    (case z_dict => k_is)
    (case z_enumerate => k_is)
    (case z_int => k_is)
    (case z_isinstance => k_is)
    (case z_len => k_is)
    (case z_list => k_is)
    (case z_max => k_is)
    (case z_range => k_is)
    (case z_repr => k_is)
    (case z_set => k_is)
    (case z_sorted => k_is)
    (case z_str => k_is)
    (case z_tuple => k_is)
    (case z_zip => k_is)
    (case g_SHAPES => k_is)
    (case h_SHAPES => k_is)
    (case y_SHAPES => repeat first | exact True.intro | refine ⟨⟨_, _, rfl, rfl⟩, ?_⟩)
    (case x_SHAPES_0 => k_is)
    (case x_SHAPES_1 => k_is)
    (case x_SHAPES_2 => k_is)
    (case x_SHAPES_3 => k_is)
    (case x_SHAPES_4 => k_is)
    (case x_SHAPES_5 => k_is)
    (case x_SHAPES_6 => k_is)
    (case x_SHAPES_7 => k_is)
    (case x_SHAPES_8 => k_is)
    (case x_SHAPES_9 => k_is)
    (case x_SHAPES_10 => k_is)
    (case x_SHAPES_11 => k_is)
    (case x_SHAPES_12 => k_is)
    (case x_SHAPES_13 => k_is)
    (case x_SHAPES_14 => k_is)
    (case x_SHAPES_15 => k_is)
    (case x_SHAPES_16 => k_is)
    (case g_MODULUS => k_is)
#print axioms PySem.Challenge.cw_reinways_k10_states_of_any_value_holds
