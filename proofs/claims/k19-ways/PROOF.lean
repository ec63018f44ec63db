import PyProof.Rows.All
import Wide.All
import OpenK.AllK
import Wide.FinOn
import HandS.ForMost
import HandS.Flow
import HandS.IsInst
import HandS.Walk
import HandS.Exc
import HandS.WordsExc
import HandS.Deep
import HandS.TupAny
import HandS.DictTup
import HandS.SortInts
import HandS.Set
import HandS.Strs
import HandS.SetIn
import HandS.TupLen
import PyProof.Rows.ReprR
import PyProof.ReprLen
import HandS.Small
import HandS.WordsDict
import HandS.Style
import HandS.Iter
import HandS.Zip
import HandS.Ends
import HandS.EndBits
import KE.GoesZip
import KE.GoesMore
import HandS.SetFor
import HandS.More
import PyProof.SetRoads
import PyProof.Rows.SortShellAny
import HandS.DictComp
import HandS.NoneIn
import HandS.TupMul
import PySem.Challenge.RW_reinways_k19_ways_of_any_value
set_option Elab.async false
set_option maxRecDepth 100000
set_option maxHeartbeats 4000000
set_option linter.all false
/-! The data layer: values as trees, mutable objects in a store; readings over these. -/
namespace DL
open PySem L2

inductive D where
  | at (v : V)
  | tup (l : List D)
  | fl (l : List D)
  | wt (l : List D)
  deriving Inhabited

abbrev D.int (i : Int) : D := .at (.int i)
abbrev D.str (s : Str) : D := .at (.str s)
abbrev D.bl (b : Bool) : D := .at (.bl b)
abbrev D.non : D := .at .non
abbrev D.ref (a : Addr) : D := .at (.ref a)

mutual
def D.dec : (x y : D) → Decidable (x = y)
  | .at u, .at v => if h : u = v then .isTrue (h ▸ rfl) else .isFalse fun e => h (D.at.inj e)
  | .at _, .tup _ => .isFalse fun e => nomatch e
  | .tup _, .at _ => .isFalse fun e => nomatch e
  | .at _, .fl _ => .isFalse fun e => nomatch e
  | .fl _, .at _ => .isFalse fun e => nomatch e
  | .tup _, .fl _ => .isFalse fun e => nomatch e
  | .fl _, .tup _ => .isFalse fun e => nomatch e
  | .wt _, .at _ => .isFalse fun e => nomatch e
  | .at _, .wt _ => .isFalse fun e => nomatch e
  | .wt _, .tup _ => .isFalse fun e => nomatch e
  | .tup _, .wt _ => .isFalse fun e => nomatch e
  | .wt _, .fl _ => .isFalse fun e => nomatch e
  | .fl _, .wt _ => .isFalse fun e => nomatch e
  | .wt xs, .wt ys => match D.decs xs ys with
    | .isTrue h => .isTrue (h ▸ rfl)
    | .isFalse h => .isFalse fun e => h (D.wt.inj e)
  | .tup xs, .tup ys => match D.decs xs ys with
    | .isTrue h => .isTrue (h ▸ rfl)
    | .isFalse h => .isFalse fun e => h (D.tup.inj e)
  | .fl xs, .fl ys => match D.decs xs ys with
    | .isTrue h => .isTrue (h ▸ rfl)
    | .isFalse h => .isFalse fun e => h (D.fl.inj e)
def D.decs : (xs ys : List D) → Decidable (xs = ys)
  | [], [] => .isTrue rfl
  | [], _ :: _ => .isFalse fun e => nomatch e
  | _ :: _, [] => .isFalse fun e => nomatch e
  | x :: xs, y :: ys => match D.dec x y, D.decs xs ys with
    | .isTrue h, .isTrue k => .isTrue (by rw [h, k])
    | .isFalse h, _ => .isFalse fun e => h (List.cons.inj e).1
    | _, .isFalse h => .isFalse fun e => h (List.cons.inj e).2
end
instance : DecidableEq D := D.dec

/-! ### the store -/
inductive MO where
  | lst (xs : List D)
  | dk (kvs : List (Key × D))
  | dt (kvs : List (List Key × D))
  | ins (C : Addr) (fs : List (Str × D))
abbrev Sto := Addr → Option MO
def up (S : Sto) (a : Addr) (o : MO) : Sto := fun b => if b = a then some o else S b
def del (S : Sto) (a : Addr) : Sto := fun b => if b = a then none else S b
theorem up_same {S : Sto} {a : Addr} {o : MO} : up S a o a = some o := by unfold up; rw [if_pos rfl]
theorem up_ne {S : Sto} {a b : Addr} {o : MO} (h : b ≠ a) : up S a o b = S b := by unfold up; rw [if_neg h]
theorem up_up {S : Sto} {a : Addr} {o u : MO} : up (up S a o) a u = up S a u := by funext b; unfold up; split <;> rfl
theorem del_same {S : Sto} {a : Addr} : del S a a = none := by unfold del; rw [if_pos rfl]
theorem del_ne {S : Sto} {a b : Addr} (h : b ≠ a) : del S a b = S b := by unfold del; rw [if_neg h]
theorem sne {S : Sto} {a b : Addr} {o : MO} (h : S a = some o) (k : S b = none) : a ≠ b := fun e => by subst e; rw [h] at k; cases k

/-- the written part, and the addresses that nobody may take for frozen -/
structure Kx where
  k : PySem.W.Frag
  n : Addr → Prop
/-- a list of the written part -/
def Wl (K : PySem.W.Frag) (a : Addr) (xs : List V) : Prop := ∃ (o : Obj) (its : Array Value) (n : Nat), K.lookup a = some o ∧ o.cls = .type "list" ∧ o.dict = none ∧ o.data = .seq its n ∧ its.size ≤ sizeLine ∧ Vals xs its.toList
/-- a tuple of the written part -/
def Wt (K : PySem.W.Frag) (a : Addr) (xs : List V) : Prop := ∃ (o : Obj) (its : Array Value) (n : Nat), K.lookup a = some o ∧ o.cls = .type "tuple" ∧ o.data = .seq its n ∧ its.size ≤ sizeLine ∧ Vals xs its.toList
/-- a list that nobody may change: the store does not speak of it -/
def Fz (K : Kx) (H : Hp) (S : Sto) (a : Addr) (xs : List V) : Prop := (Rd H a (.lst xs) ∧ S a = none ∧ ¬ K.n a) ∨ Wl K.k a xs
theorem Fz.sq {K : Kx} {H : Hp} {S : Sto} {a : Addr} {xs : List V} (h : Fz K H S a xs) : SqL K.k H a xs := h.elim (fun x => .inl x.1) .inr
section
variable (K : Kx) (H : Hp) (S : Sto)
mutual
/-- the value v stands for the tree -/
def RD : V → D → Prop
  | v, .at u => v = u
  | v, .tup ds => ∃ a vs, v = .ref a ∧ H a = some (.tup vs) ∧ RDs vs ds
  | v, .wt ds => ∃ a vs, v = .ref a ∧ Wt K.k a vs ∧ RDs vs ds
  | v, .fl ds => ∃ a vs, v = .ref a ∧ Fz K H S a vs ∧ RDs vs ds
def RDs : List V → List D → Prop
  | [], [] => True
  | v :: vs, d :: ds => RD v d ∧ RDs vs ds
  | [], _ :: _ => False
  | _ :: _, [] => False
end
end

section
variable {K K' : Kx} {H H' : Hp} {S S' : Sto}
theorem RDs.nil : RDs K H S [] [] := by unfold RDs; trivial
theorem RDs.cons {v : V} {d : D} {vs : List V} {ds : List D} (a : RD K H S v d) (b : RDs K H S vs ds) : RDs K H S (v :: vs) (d :: ds) := by
  unfold RDs; exact ⟨a, b⟩
theorem RDs.of_cons {v : V} {vs : List V} {d : D} {ds : List D} (h : RDs K H S (v :: vs) (d :: ds)) : RD K H S v d ∧ RDs K H S vs ds := by
  unfold RDs at h; exact h
theorem RDs.inv_cons {vs : List V} {d : D} {ds : List D} (h : RDs K H S vs (d :: ds)) : ∃ v ws, vs = v :: ws ∧ RD K H S v d ∧ RDs K H S ws ds := by
  cases vs with
  | nil => unfold RDs at h; exact h.elim
  | cons v ws => exact ⟨v, ws, rfl, h.of_cons⟩
theorem RDs.inv_nil {vs : List V} (h : RDs K H S vs []) : vs = [] := by
  cases vs with
  | nil => rfl
  | cons v ws => unfold RDs at h; exact h.elim
theorem RDs.length : ∀ {vs : List V} {ds : List D}, RDs K H S vs ds → vs.length = ds.length
  | [], [], _ => rfl
  | v :: vs, d :: ds, h => by
    have q := RDs.length h.of_cons.2
    simp only [List.length_cons, q]
  | [], _ :: _, h => by unfold RDs at h; exact h.elim
  | _ :: _, [], h => by unfold RDs at h; exact h.elim
theorem RDs.get : ∀ {vs : List V} {ds : List D} {i : Nat} {d : D}, RDs K H S vs ds → ds[i]? = some d → ∃ v, vs[i]? = some v ∧ RD K H S v d
  | _, [], _, _, _, e => by simp at e
  | vs, d :: ds, 0, d', h, e => by
    obtain ⟨v, ws, rfl, a, b⟩ := h.inv_cons
    simp only [List.getElem?_cons_zero, Option.some.injEq] at e
    subst e
    exact ⟨v, rfl, a⟩
  | vs, d :: ds, i + 1, d', h, e => by
    obtain ⟨v, ws, rfl, a, b⟩ := h.inv_cons
    simp only [List.getElem?_cons_succ] at e ⊢
    exact RDs.get b e
theorem RDs.getV {vs : List V} {ds : List D} {i : Nat} {v : V} (h : RDs K H S vs ds) (e : vs[i]? = some v) : ∃ d, ds[i]? = some d ∧ RD K H S v d := by
  obtain ⟨hi, _⟩ := List.getElem?_eq_some_iff.mp e
  have hl := h.length
  have q : ds[i]? = some (ds[i]'(by omega)) := by simp [show i < ds.length by omega]
  obtain ⟨v', e', r⟩ := h.get q
  rw [e] at e'; cases e'
  exact ⟨_, q, r⟩
theorem RDs.append : ∀ {vs ws : List V} {ds es : List D}, RDs K H S vs ds → RDs K H S ws es → RDs K H S (vs ++ ws) (ds ++ es)
  | vs, ws, [], es, h, k => by rw [h.inv_nil]; exact k
  | vs, ws, d :: ds, es, h, k => by
    obtain ⟨v, us, rfl, a, b⟩ := h.inv_cons
    exact .cons a (RDs.append b k)
theorem RDs.take : ∀ {vs : List V} {ds : List D} (n : Nat), RDs K H S vs ds → RDs K H S (vs.take n) (ds.take n)
  | vs, ds, 0, h => by simp; exact .nil
  | vs, [], n + 1, h => by rw [h.inv_nil]; exact .nil
  | vs, d :: ds, n + 1, h => by
    obtain ⟨v, us, rfl, a, b⟩ := h.inv_cons
    exact .cons a (RDs.take n b)
theorem RDs.drop : ∀ {vs : List V} {ds : List D} (n : Nat), RDs K H S vs ds → RDs K H S (vs.drop n) (ds.drop n)
  | vs, ds, 0, h => h
  | vs, [], n + 1, h => by rw [h.inv_nil]; exact .nil
  | vs, d :: ds, n + 1, h => by
    obtain ⟨v, us, rfl, a, b⟩ := h.inv_cons
    exact RDs.drop n b
theorem RDs.set {v : V} {d : D} (r : RD K H S v d) : ∀ {vs : List V} {ds : List D} (n : Nat), RDs K H S vs ds → RDs K H S (vs.set n v) (ds.set n d)
  | vs, [], n, h => by rw [h.inv_nil]; exact .nil
  | vs, e :: ds, 0, h => by
    obtain ⟨w, us, rfl, a, b⟩ := h.inv_cons
    exact .cons r b
  | vs, e :: ds, n + 1, h => by
    obtain ⟨w, us, rfl, a, b⟩ := h.inv_cons
    exact .cons a (RDs.set r n b)
theorem RDs.of_get {vs : List V} {ds : List D} (hl : vs.length = ds.length) (h : ∀ (i : Nat) (v : V) (d : D), vs[i]? = some v → ds[i]? = some d → RD K H S v d) : RDs K H S vs ds := by
  induction vs generalizing ds with
  | nil =>
    cases ds with
    | nil => exact .nil
    | cons d ds => simp at hl
  | cons v vs ih =>
    cases ds with
    | nil => simp at hl
    | cons d ds =>
      refine .cons (h 0 v d rfl rfl) (ih (by simpa using hl) fun i u e a b => h (i + 1) u e (by simpa using a) (by simpa using b))
theorem RDs.reverse {vs : List V} {ds : List D} (h : RDs K H S vs ds) : RDs K H S vs.reverse ds.reverse := by
  refine .of_get (by simp [h.length]) fun i v d a b => ?_
  have hl := h.length
  obtain ⟨hi, _⟩ := List.getElem?_eq_some_iff.mp a
  simp only [List.length_reverse] at hi
  rw [List.getElem?_reverse (by omega)] at a
  rw [List.getElem?_reverse (by omega)] at b
  obtain ⟨d', e, r⟩ := h.getV a
  rw [hl] at e
  rw [e] at b
  cases b
  exact r
theorem RDs.dropLast {vs : List V} {ds : List D} (h : RDs K H S vs ds) : RDs K H S vs.dropLast ds.dropLast := by
  rw [List.dropLast_eq_take, List.dropLast_eq_take, h.length]
  exact h.take _
theorem RDs.atoms {vs us : List V} (h : RDs K H S vs (us.map D.at)) : vs = us := by
  induction us generalizing vs with
  | nil => exact h.inv_nil
  | cons u us ih =>
    obtain ⟨v, ws, rfl, a, b⟩ := RDs.inv_cons (d := D.at u) (ds := us.map D.at) h
    have a' : v = u := by unfold RD at a; exact a
    rw [a', ih b]
theorem RDs.of_atoms : ∀ (us : List V), RDs K H S us (us.map D.at)
  | [] => .nil
  | u :: us => .cons (d := D.at u) (by unfold RD; rfl) (RDs.of_atoms us)
theorem RD.at_ {v u : V} (h : RD K H S v (.at u)) : v = u := by unfold RD at h; exact h
theorem RD.of (v : V) : RD K H S v (.at v) := by unfold RD; rfl
theorem RD.tup_ {v : V} {ds : List D} (h : RD K H S v (.tup ds)) : ∃ a vs, v = .ref a ∧ H a = some (.tup vs) ∧ RDs K H S vs ds := by unfold RD at h; exact h
theorem RD.of_tup {a : Addr} {vs : List V} {ds : List D} (h : H a = some (.tup vs)) (k : RDs K H S vs ds) : RD K H S (.ref a) (.tup ds) := by
  unfold RD; exact ⟨a, vs, rfl, h, k⟩

theorem RD.wt_ {v : V} {ds : List D} (h : RD K H S v (.wt ds)) : ∃ a vs, v = .ref a ∧ Wt K.k a vs ∧ RDs K H S vs ds := by unfold RD at h; exact h
theorem RD.of_wt {a : Addr} {vs : List V} {ds : List D} (h : Wt K.k a vs) (k : RDs K H S vs ds) : RD K H S (.ref a) (.wt ds) := by
  unfold RD; exact ⟨a, vs, rfl, h, k⟩
theorem RD.fl_ {v : V} {ds : List D} (h : RD K H S v (.fl ds)) : ∃ a vs, v = .ref a ∧ Fz K H S a vs ∧ RDs K H S vs ds := by unfold RD at h; exact h
theorem RD.of_fl {a : Addr} {vs : List V} {ds : List D} (h : Fz K H S a vs) (k : RDs K H S vs ds) : RD K H S (.ref a) (.fl ds) := by
  unfold RD; exact ⟨a, vs, rfl, h, k⟩
/-- tuples and frozen lists stay -/
structure TupLe (K : Kx) (H : Hp) (S : Sto) (K' : Kx) (H' : Hp) (S' : Sto) : Prop where
  t : ∀ a xs, H a = some (.tup xs) → H' a = some (.tup xs)
  w : ∀ a xs, Wt K.k a xs → Wt K'.k a xs
  l : ∀ a xs, Fz K H S a xs → Fz K' H' S' a xs
mutual
theorem RD.le (le : TupLe K H S K' H' S') : ∀ {v : V} {d : D}, RD K H S v d → RD K' H' S' v d
  | v, .at u, h => by rw [h.at_]; exact .of _
  | v, .tup ds, h => by
    obtain ⟨a, vs, rfl, t, r⟩ := h.tup_
    exact .of_tup (le.t _ _ t) (RDs.le le r)
  | v, .wt ds, h => by
    obtain ⟨a, vs, rfl, t, r⟩ := h.wt_
    exact .of_wt (le.w _ _ t) (RDs.le le r)
  | v, .fl ds, h => by
    obtain ⟨a, vs, rfl, t, r⟩ := h.fl_
    exact .of_fl (le.l _ _ t) (RDs.le le r)
theorem RDs.le (le : TupLe K H S K' H' S') : ∀ {vs : List V} {ds : List D}, RDs K H S vs ds → RDs K' H' S' vs ds
  | vs, [], h => by rw [h.inv_nil]; exact .nil
  | vs, d :: ds, h => by
    obtain ⟨v, ws, rfl, a, b⟩ := h.inv_cons
    exact .cons (RD.le le a) (RDs.le le b)
end
end

end DL

/-! Data layer, second part: how the store lies over the abstract heap; readings over data, lifted. -/
namespace DL
open PySem L2

/-- what the store says of an address, over the abstract heap -/
def RO (K : Kx) (H : Hp) (S : Sto) (a : Addr) : MO → Prop
  | .lst ds => ∃ vs, H a = some (.lst vs) ∧ RDs K H S vs ds
  | .dk kvs => ∃ ks, H a = some (.dK ks) ∧ ks.map (·.1) = kvs.map (·.1) ∧ RDs K H S (ks.map (·.2)) (kvs.map (·.2))
  | .dt kvs => ∃ ks, H a = some (.dT ks) ∧ ks.map (·.1) = kvs.map (·.1) ∧ RDs K H S (ks.map (·.2)) (kvs.map (·.2))
  | .ins C fs => ∃ dx gs, H a = some (.ins C dx gs) ∧ gs.map (·.1) = fs.map (·.1) ∧ RDs K H S (gs.map (·.2)) (fs.map (·.2))
/-- the store is held -/
structure RS (K : Kx) (H : Hp) (S : Sto) : Prop where
  ob : ∀ a o, S a = some o → RO K H S a o
  hid : ∀ a, K.n a → ∃ o, H a = some o
  hidS : ∀ a, K.n a → S a = none
/-- the names' values are held -/
def RE (K : Kx) (H : Hp) (S : Sto) (σ : L2.St) (δ : List (Option D)) : Prop := σ.length = δ.length ∧ ∀ (i : Nat) (d : D), δ[i]? = some (some d) → ∃ v, σ[i]? = some (some v) ∧ RD K H S v d
/-- what the store does not speak of stays as it is -/
def Fr (H : Hp) (S : Sto) (H' : Hp) (S' : Sto) : Prop := ∀ a o, H a = some o → S a = none → H' a = some o ∧ S' a = none
/-- a smaller store -/
def Sub (S S' : Sto) : Prop := ∀ a o, S a = some o → S' a = some o

section
variable {K K' : Kx} {H H' H'' : Hp} {S S' S'' : Sto}
theorem Sub.refl : Sub S S := fun _ _ h => h
theorem Sub.trans (a : Sub S S') (b : Sub S' S'') : Sub S S'' := fun c o h => b c o (a c o h)
theorem Sub.non (a : Sub S S') {p : Addr} (h : S' p = none) : S p = none := by
  cases e : S p with
  | none => rfl
  | some o => rw [a p o e] at h; cases h
theorem Sub.u (a : Sub S S') {p : Addr} {o : MO} (h : S p = none) : Sub S (up S' p o) := fun b u e => by
  rw [up_ne (sne e h)]; exact a b u e
theorem Sub.un (a : Sub S S') {p : Addr} {o : MO} (h : S' p = none) : Sub S (up S' p o) := a.u (a.non h)
theorem Sub.u2 (a : Sub S S') {p : Addr} {o : MO} : Sub (up S p o) (up S' p o) := fun b u e => by
  by_cases z : b = p
  · subst z; rw [up_same] at e ⊢; exact e
  · rw [up_ne z] at e ⊢; exact a b u e
theorem Fr.refl : Fr H S H S := fun _ _ h k => ⟨h, k⟩
theorem Fr.trans (a : Fr H S H' S') (b : Fr H' S' H'' S'') : Fr H S H'' S'' := fun c o h k => let ⟨h', k'⟩ := a c o h k; b c o h' k'
theorem Fr.sub (a : Fr H S H' S') (b : Sub S'' S') : Fr H S H' S'' := fun c o h k => let ⟨h', k'⟩ := a c o h k; ⟨h', b.non k'⟩
/-- a tracked thing is no tuple -/
def notTup : HO → Prop
  | .tup _ => False
  | .frz _ _ => False
  | _ => True
theorem RO.some {a : Addr} {o : MO} (h : RO K H S a o) : ∃ u, H a = some u ∧ notTup u := by
  cases o with
  | lst ds => obtain ⟨vs, h1, h2⟩ := h; exact ⟨_, h1, trivial⟩
  | dk kvs => obtain ⟨ks, h1, h2, h3⟩ := h; exact ⟨_, h1, trivial⟩
  | dt kvs => obtain ⟨ks, h1, h2, h3⟩ := h; exact ⟨_, h1, trivial⟩
  | ins C fs => obtain ⟨dx, gs, h1, h2, h3⟩ := h; exact ⟨_, h1, trivial⟩
theorem RS.nofz (r : RS K H S) {a : Addr} {u : HO} (h : H a = some u) (n : ¬ notTup u) : S a = none := by
  cases e : S a with
  | none => rfl
  | some o =>
    obtain ⟨u', h1, h2⟩ := (r.ob a o e).some
    rw [h] at h1; cases h1; exact (n h2).elim
theorem RS.le (r : RS K H S) (f : Fr H S H' S') : TupLe K H S K H' S' := by
  refine ⟨fun a xs h => (f a _ h (r.nofz h fun z => z)).1, fun _ _ h => h, fun a xs h => ?_⟩
  rcases h with ⟨h | ⟨o, h⟩, n⟩ | h
  · exact .inl ⟨.inl (f a _ h n.1).1, (f a _ h n.1).2, n.2⟩
  · exact .inl ⟨.inr ⟨o, (f a _ h n.1).1⟩, (f a _ h n.1).2, n.2⟩
  · exact .inr h
theorem Sub.le (b : Sub S' S) : TupLe K H S K H S' := ⟨fun a xs h => h, fun _ _ h => h, fun a xs h => h.elim (fun ⟨x, n, m⟩ => .inl ⟨x, b.non n, m⟩) .inr⟩
theorem TupLe.trans {K1 K2 K3 : Kx} {H1 H2 H3 : Hp} {S1 S2 S3 : Sto} (a : TupLe K1 H1 S1 K2 H2 S2) (b : TupLe K2 H2 S2 K3 H3 S3) : TupLe K1 H1 S1 K3 H3 S3 := ⟨fun c xs h => b.t c xs (a.t c xs h), fun c xs h => b.w c xs (a.w c xs h), fun c xs h => b.l c xs (a.l c xs h)⟩
theorem RE.le {σ : L2.St} {δ : List (Option D)} (le : TupLe K H S K' H' S') (r : RE K H S σ δ) : RE K' H' S' σ δ :=
  ⟨r.1, fun i d e => let ⟨v, h, q⟩ := r.2 i d e; ⟨v, h, q.le le⟩⟩
theorem RE.set {σ : L2.St} {δ : List (Option D)} (r : RE K H S σ δ) {v : V} {d : D} (q : RD K H S v d) (i : Nat) : RE K H S (σ.set i (some v)) (δ.set i (some d)) := by
  refine ⟨by simp [r.1], fun j e h => ?_⟩
  by_cases hj : i = j
  · subst hj
    by_cases hl : i < δ.length
    · rw [List.getElem?_set_self hl] at h
      cases h
      exact ⟨v, by rw [List.getElem?_set_self (by rw [r.1]; exact hl)], q⟩
    · rw [List.getElem?_eq_none (by simp; omega)] at h
      cases h
  · rw [List.getElem?_set_ne hj] at h ⊢
    exact r.2 j e h
theorem RO.le (le : TupLe K H S K' H' S') {a : Addr} {o : MO} (e : H' a = H a) (h : RO K H S a o) : RO K' H' S' a o := by
  cases o with
  | lst ds => obtain ⟨vs, h1, h2⟩ := h; exact ⟨vs, e.trans h1, h2.le le⟩
  | dk kvs => obtain ⟨ks, h1, h2, h3⟩ := h; exact ⟨ks, e.trans h1, h2, h3.le le⟩
  | dt kvs => obtain ⟨ks, h1, h2, h3⟩ := h; exact ⟨ks, e.trans h1, h2, h3.le le⟩
  | ins C fs => obtain ⟨dx, gs, h1, h2, h3⟩ := h; exact ⟨dx, gs, e.trans h1, h2, h3.le le⟩
theorem RS.free (r : RS K H S) {p : Addr} (h : H p = none) : S p = none := by
  cases e : S p with
  | none => rfl
  | some o =>
    obtain ⟨u, h1, _⟩ := (r.ob p o e).some
    rw [h] at h1; cases h1
theorem RS.sub (r : RS K H S) (h : Sub S' S) : RS K H S' := ⟨fun a o e => (r.ob a o (h a o e)).le h.le rfl, r.hid, fun a n => h.non (r.hidS a n)⟩
theorem RS.kn (r : RS K H S) {p : Addr} {o : MO} (h : S p = some o) : ¬ K.n p := fun z => by rw [r.hidS p z] at h; cases h
theorem hid_upd {p : Addr} {o : HO} (r : ∀ a, K.n a → ∃ o, H a = some o) : ∀ a, K.n a → ∃ u, upd H p o a = some u := fun a h => by
  by_cases z : a = p
  · subst z; exact ⟨o, upd_same⟩
  · rw [upd_ne z]; exact r a h
theorem RS.nhid (r : RS K H S) {p : Addr} (h : H p = none) : ¬ K.n p := fun z => by
  obtain ⟨o, e⟩ := r.hid p z
  rw [h] at e; cases e
/-- a tuple new, or any other thing that the store does not speak of -/
theorem RS.laid (r : RS K H S) {p : Addr} {o : HO} (h : H p = none) : RS K (upd H p o) S ∧ Fr H S (upd H p o) S ∧ TupLe K H S K (upd H p o) S := by
  have f : Fr H S (upd H p o) S := fun a u e k => ⟨by rw [upd_ne (ne_of_none e h)]; exact e, k⟩
  have le := r.le f
  refine ⟨⟨fun a u e => ?_, hid_upd r.hid, r.hidS⟩, f, le⟩
  have q := r.ob a u e
  have ne : a ≠ p := fun z => by subst z; rw [r.free h] at e; cases e
  exact q.le le (upd_ne ne)
/-- a mutable thing new -/
theorem RS.new (r : RS K H S) {p : Addr} {o : HO} {m : MO} (h : H p = none) (q : TupLe K H S K (upd H p o) (up S p m) → RO K (upd H p o) (up S p m) p m) : RS K (upd H p o) (up S p m) ∧ Fr H S (upd H p o) (up S p m) := by
  have f : Fr H S (upd H p o) (up S p m) := fun x u e k => by
    have ne := ne_of_none e h
    exact ⟨by rw [upd_ne ne]; exact e, by rw [up_ne ne]; exact k⟩
  have le := r.le f
  refine ⟨⟨fun x u e => ?_, hid_upd r.hid, fun a n => by rw [up_ne (fun z => by subst z; exact r.nhid h n)]; exact r.hidS a n⟩, f⟩
  by_cases z : x = p
  · subst z; rw [up_same] at e; cases e; exact q le
  · rw [up_ne z] at e; exact (r.ob x u e).le le (upd_ne z)
/-- a mutable thing changed -/
theorem RS.write (r : RS K H S) {p : Addr} {o : HO} {m m' : MO} (h : S p = some m) (q : TupLe K H S K (upd H p o) (up S p m') → RO K (upd H p o) (up S p m') p m') : RS K (upd H p o) (up S p m') ∧ Fr H S (upd H p o) (up S p m') := by
  have f : Fr H S (upd H p o) (up S p m') := fun a u e k => by
    have ne : a ≠ p := fun z => by subst z; rw [h] at k; cases k
    exact ⟨by rw [upd_ne ne]; exact e, by rw [up_ne ne]; exact k⟩
  have le := r.le f
  refine ⟨⟨fun x u e => ?_, hid_upd r.hid, fun a n => by rw [up_ne (fun z => by subst z; exact r.kn h n)]; exact r.hidS a n⟩, f⟩
  by_cases z : x = p
  · subst z; rw [up_same] at e; cases e; exact q le
  · rw [up_ne z] at e; exact (r.ob x u e).le le (upd_ne z)
end

/-! ### readings over data -/
abbrev DSt := List (Option D)
abbrev KD := D → Sto → Prop
abbrev TDE := DSt → Sto → KD → Prop
abbrev TDT := DSt → Sto → (Bool → Sto → Prop) → Prop
abbrev TDA := DSt → Sto → (List D → Sto → Prop) → Prop
structure DEnds where
  nx : DSt → Sto → Prop
  rt : KD
  bk : DSt → Sto → Prop := fun _ _ => False
  ct : DSt → Sto → Prop := fun _ _ => False
abbrev TDS := DEnds → DSt → Sto → Prop
abbrev TDG := D → DSt → Sto → (DSt → Sto → Prop) → Prop
abbrev TDGs := List D → DSt → Sto → (DSt → Sto → Prop) → Prop

section
variable (K : PySem.W.Frag)
/-- behind a step -/
structure Bh (K : Kx) (H : Hp) (S : Sto) (H' : Hp) (S' : Sto) : Prop where
  fr : Fr H S H' S'
  rs : RS K H' S'
def lE (t : TDE) : TE := fun σ H Q => ∃ N δ S Q', RE ⟨K, N⟩ H S σ δ ∧ RS ⟨K, N⟩ H S ∧ t δ S Q' ∧ ∀ d S' v H', Bh ⟨K, N⟩ H S H' S' → RD ⟨K, N⟩ H' S' v d → Q' d S' → Q v H'
def lT (t : TDT) : TT := fun σ H Q => ∃ N δ S Q', RE ⟨K, N⟩ H S σ δ ∧ RS ⟨K, N⟩ H S ∧ t δ S Q' ∧ ∀ b S' H', Bh ⟨K, N⟩ H S H' S' → Q' b S' → Q b H'
def lA (t : TDA) : TA := fun σ H Q => ∃ N δ S Q', RE ⟨K, N⟩ H S σ δ ∧ RS ⟨K, N⟩ H S ∧ t δ S Q' ∧ ∀ ds S' vs H', Bh ⟨K, N⟩ H S H' S' → RDs ⟨K, N⟩ H' S' vs ds → Q' ds S' → Q vs H'
def lG (t : TDG) : TG := fun v σ H Q => ∃ N d δ S Q', RD ⟨K, N⟩ H S v d ∧ RE ⟨K, N⟩ H S σ δ ∧ RS ⟨K, N⟩ H S ∧ t d δ S Q' ∧ ∀ δ' S' σ' H', Bh ⟨K, N⟩ H S H' S' → RE ⟨K, N⟩ H' S' σ' δ' → Q' δ' S' → Q σ' H'
def lGs (t : TDGs) : TGs := fun vs σ H Q => ∃ N ds δ S Q', RDs ⟨K, N⟩ H S vs ds ∧ RE ⟨K, N⟩ H S σ δ ∧ RS ⟨K, N⟩ H S ∧ t ds δ S Q' ∧ ∀ δ' S' σ' H', Bh ⟨K, N⟩ H S H' S' → RE ⟨K, N⟩ H' S' σ' δ' → Q' δ' S' → Q σ' H'
structure LEnds (K : Kx) (D' : DEnds) (H : Hp) (S : Sto) (D : Ends) : Prop where
  nx : ∀ δ' S' σ' H', Bh K H S H' S' → RE K H' S' σ' δ' → D'.nx δ' S' → D.nx σ' H'
  rt : ∀ d S' v H', Bh K H S H' S' → RD K H' S' v d → D'.rt d S' → D.rt v H'
  bk : ∀ δ' S' σ' H', Bh K H S H' S' → RE K H' S' σ' δ' → D'.bk δ' S' → D.bk σ' H'
  ct : ∀ δ' S' σ' H', Bh K H S H' S' → RE K H' S' σ' δ' → D'.ct δ' S' → D.ct σ' H'
def lS (t : TDS) : TS := fun D σ H => ∃ N δ S D', RE ⟨K, N⟩ H S σ δ ∧ RS ⟨K, N⟩ H S ∧ t D' δ S ∧ LEnds ⟨K, N⟩ D' H S D
end

section
variable {K : Kx} {H H' H'' : Hp} {S S' S'' : Sto}
theorem Bh.refl (r : RS K H S) : Bh K H S H S := ⟨.refl, r⟩
theorem Bh.trans (a : Bh K H S H' S') (b : Bh K H' S' H'' S'') : Bh K H S H'' S'' := ⟨a.fr.trans b.fr, b.rs⟩
theorem LEnds.from {D' : DEnds} {D : Ends} (l : LEnds K D' H S D) (b : Bh K H S H' S') : LEnds K D' H' S' D :=
  ⟨fun δ' S2 σ' H2 c => l.nx δ' S2 σ' H2 (b.trans c), fun d S2 v H2 c => l.rt d S2 v H2 (b.trans c), fun δ' S2 σ' H2 c => l.bk δ' S2 σ' H2 (b.trans c), fun δ' S2 σ' H2 c => l.ct δ' S2 σ' H2 (b.trans c)⟩
end

section
variable {X : Cx}
theorem PE.wk {e : Expr} {t t' : TE} (h : PE X e t) (k : ∀ σ H Q, t' σ H Q → t σ H Q) : PE X e t' := ⟨fun pins s σ H Q I q => h.run pins s σ H Q I (k σ H Q q)⟩
theorem PT.wk {e : Expr} {t t' : TT} (h : PT X e t) (k : ∀ σ H Q, t' σ H Q → t σ H Q) : PT X e t' := ⟨fun pins s σ H Q I q => h.run pins s σ H Q I (k σ H Q q)⟩
theorem PW.wk {e : Expr} {t t' : TT} (h : PW X e t) (k : ∀ σ H Q, t' σ H Q → t σ H Q) : PW X e t' := ⟨fun wh pins s σ H Q I q => h.run wh pins s σ H Q I (k σ H Q q)⟩
theorem PA.wk {e : List Expr} {t t' : TA} (h : PA X e t) (k : ∀ σ H Q, t' σ H Q → t σ H Q) : PA X e t' := ⟨fun pos pins s σ H Q I q => h.run pos pins s σ H Q I (k σ H Q q)⟩
theorem PS.wk {st : Stmt} {t t' : TS} (h : PS X st t) (k : ∀ D σ H, t' D σ H → t D σ H) : PS X st t' := ⟨fun pins s σ H D I q => h.run pins s σ H D I (k D σ H q)⟩
theorem PSs.wk {st : List Stmt} {t t' : TS} (h : PSs X st t) (k : ∀ D σ H, t' D σ H → t D σ H) : PSs X st t' := ⟨fun pins s σ H D I q => h.run pins s σ H D I (k D σ H q)⟩
theorem PG.wk {e : Expr} {t t' : TG} (h : PG X e t) (k : ∀ v σ H Q, t' v σ H Q → t v σ H Q) : PG X e t' := ⟨fun pins s σ H v u Q I r q => h.run pins s σ H v u Q I r (k v σ H Q q)⟩
theorem PGs.wk {e : List Expr} {t t' : TGs} (h : PGs X e t) (k : ∀ v σ H Q, t' v σ H Q → t v σ H Q) : PGs X e t' := ⟨fun pins s σ H v u Q I r q => h.run pins s σ H v u Q I r (k v σ H Q q)⟩

/-! names, constants -/
def dVar (i : Nat) : TDE := fun δ S Q => ∃ d, δ[i]? = some (some d) ∧ Q d S
theorem de_var (i : Nat) {x : Str} {pos : Pos} (hN : X.N[i]? = some x := by rfl) (hv : Vis X.env.scope x := by first | exact Or.inl rfl | exact Or.inr (Or.inl rfl) | exact Or.inr (Or.inr rfl)) (hd : (x == ("__debug__" : Str)) = false := by decide)
    (hcd : (x == ("__classdict__" : Str)) = false := by decide) : PE X (.Name x pos) (lE X.K (dVar i)) :=
  PE.wk (pv i hN hv hd hcd) fun σ H Q ⟨N, δ, S, Q', re, rs, ⟨d, e, q⟩, k⟩ => by
    obtain ⟨v, h, r⟩ := re.2 i d e
    exact ⟨v, h, k d S v H (.refl rs) r q⟩
def dC (d : D) : TDE := fun _ S Q => Q d S
theorem de_of {e : Expr} {v : V} {d : D} (h : PE X e (tC v)) (r : ∀ N H S, RD ⟨X.K, N⟩ H S v d) : PE X e (lE X.K (dC d)) :=
  PE.wk h fun σ H Q ⟨N, δ, S, Q', re, rs, q, k⟩ => k d S v H (.refl rs) (r N H S) q
theorem de_int {i j pos} : PE X (.Constant (.int i) j pos) (lE X.K (dC (.int i))) := de_of pe_int fun _ _ _ => .of _
theorem de_bl {b j pos} : PE X (.Constant (.bool b) j pos) (lE X.K (dC (.bl b))) := de_of pe_bl fun _ _ _ => .of _
theorem de_non {j pos} : PE X (.Constant .none j pos) (lE X.K (dC .non)) := de_of pe_non fun _ _ _ => .of _
theorem de_str {x j pos} : PE X (.Constant (.str x) j pos) (lE X.K (dC (.str x))) := de_of pe_str fun _ _ _ => .of _
/-- a constant of the module: a written thing -/
theorem de_glob {x : Str} {v : V} {u : Value} {d : D} {pos : Pos} (hg : Gl X x) (hm : X.mg x = some u) (r : RelV v u) (q : ∀ N H S, RD ⟨X.K, N⟩ H S v d) (hd : (x == ("__debug__" : Str)) = false := by decide) : PE X (.Name x pos) (lE X.K (dC d)) :=
  de_of (pe_glob hg hm r hd) q

/-! two things by values -/
abbrev RD2 := D → D → Sto → KD → Prop
abbrev RD1 := D → Sto → KD → Prop
abbrev RDL := List D → Sto → KD → Prop
def l2 (K : PySem.W.Frag) (r : RD2) : R2 := fun v u H Q => ∃ N x y S Q', RD ⟨K, N⟩ H S v x ∧ RD ⟨K, N⟩ H S u y ∧ RS ⟨K, N⟩ H S ∧ r x y S Q' ∧ ∀ d S' w H', Bh ⟨K, N⟩ H S H' S' → RD ⟨K, N⟩ H' S' w d → Q' d S' → Q w H'
def l1 (K : PySem.W.Frag) (r : RD1) : V → Hp → VK → Prop := fun v H Q => ∃ N x S Q', RD ⟨K, N⟩ H S v x ∧ RS ⟨K, N⟩ H S ∧ r x S Q' ∧ ∀ d S' w H', Bh ⟨K, N⟩ H S H' S' → RD ⟨K, N⟩ H' S' w d → Q' d S' → Q w H'
def lL (K : PySem.W.Frag) (r : RDL) : List V → Hp → VK → Prop := fun vs H Q => ∃ N xs S Q', RDs ⟨K, N⟩ H S vs xs ∧ RS ⟨K, N⟩ H S ∧ r xs S Q' ∧ ∀ d S' w H', Bh ⟨K, N⟩ H S H' S' → RD ⟨K, N⟩ H' S' w d → Q' d S' → Q w H'
def dOp (r : RD2) (ta tb : TDE) : TDE := fun δ S Q => ta δ S fun x S1 => tb δ S1 fun y S2 => r x y S2 Q
def dUn (r : RD1) (ta : TDE) : TDE := fun δ S Q => ta δ S fun x S1 => r x S1 Q
theorem lift_op {K : PySem.W.Frag} {r : RD2} {ta tb : TDE} {σ : L2.St} {H : Hp} {Q : VK} (h : lE K (dOp r ta tb) σ H Q) : tOp (l2 K r) (lE K ta) (lE K tb) σ H Q := by
  obtain ⟨N, δ, S, Q', re, rs, q, k⟩ := h
  refine ⟨N, δ, S, _, re, rs, q, fun x S1 v H1 b1 rx q1 => ?_⟩
  refine ⟨N, δ, S1, _, re.le (rs.le b1.fr), b1.rs, q1, fun y S2 u H2 b2 ry q2 => ?_⟩
  exact ⟨N, x, y, S2, Q', rx.le (b1.rs.le b2.fr), ry, b2.rs, q2, fun d S' w H' b3 => k d S' w H' ((b1.trans b2).trans b3)⟩
theorem lift_un {K : PySem.W.Frag} {r : RD1} {ta : TDE} {σ : L2.St} {H : Hp} {Q : VK} (h : lE K (dUn r ta) σ H Q) : tUn (l1 K r) (lE K ta) σ H Q := by
  obtain ⟨N, δ, S, Q', re, rs, q, k⟩ := h
  refine ⟨N, δ, S, _, re, rs, q, fun x S1 v H1 b1 rx q1 => ?_⟩
  exact ⟨N, x, S1, Q', rx, b1.rs, q1, fun d S' w H' b3 => k d S' w H' (b1.trans b3)⟩
variable {a b c : Expr} {ta tb tc : TDE} {pos : Pos} {r r' : RD2}
theorem de_op {op : Operator} (ho : OpR X (binaryOp op) (l2 X.K r)) (ha : PE X a (lE X.K ta)) (hb : PE X b (lE X.K tb)) : PE X (.BinOp a op b pos) (lE X.K (dOp r ta tb)) :=
  PE.wk (pe_op ho ha hb) fun _ _ _ h => lift_op h
theorem de_un {op : UnaryOp} {r : RD1} (ho : UnR X (unaryOp op) (l1 X.K r)) (ha : PE X a (lE X.K ta)) : PE X (.UnaryOp op a pos) (lE X.K (dUn r ta)) :=
  PE.wk (pe_un ho ha) fun _ _ _ h => lift_un h
theorem de_cmp {op : CmpOp} (ho : OpR X (compareOp op) (l2 X.K r)) (ha : PE X a (lE X.K ta)) (hb : PE X b (lE X.K tb)) (hm : behindInMarks op b = false := by first | exact nobehind _ (by decide) (by decide) | rfl) : PE X (.Compare a [op] [b] pos) (lE X.K (dOp r ta tb)) :=
  PE.wk (pe_cmpR ho ha hb hm) fun _ _ _ h => lift_op h
theorem de_ix (ho : IxR X (l2 X.K r)) (ha : PE X a (lE X.K ta)) (hb : PE X b (lE X.K tb)) (hs : PlainIx b := by exact fun _ _ => rfl) : PE X (.Subscript a b pos) (lE X.K (dOp r ta tb)) :=
  PE.wk (pe_ix ho ha hb hs) fun _ _ _ h => lift_op h
/-- a < b < c -/
def dChain (r r' : RD2) (ta tb tc : TDE) : TDE := fun δ S Q => ta δ S fun x S1 => tb δ S1 fun y S2 => r x y S2 fun z S3 => ∃ k, z = .bl k ∧ (if k = true then tc δ S3 fun w S4 => r' y w S4 Q else Q (.bl false) S3)
theorem de_chain {op op' : CmpOp} (ho : OpR X (compareOp op) (l2 X.K r)) (ho' : OpR X (compareOp op') (l2 X.K r')) (ha : PE X a (lE X.K ta)) (hb : PE X b (lE X.K tb)) (hc : PE X c (lE X.K tc)) (hm : lastMarks [op, op'] [b, c] = false := by first | rfl | decide) : PE X (.Compare a [op, op'] [b, c] pos) (lE X.K (dChain r r' ta tb tc)) :=
  PE.wk (pe_chain ho ho' ha hb hc hm) fun σ H Q ⟨N, δ, S, Q', re, rs, q, k⟩ => by
    refine ⟨N, δ, S, _, re, rs, q, fun x S1 v H1 b1 rx q1 => ?_⟩
    refine ⟨N, δ, S1, _, re.le (rs.le b1.fr), b1.rs, q1, fun y S2 u H2 b2 ry q2 => ?_⟩
    refine ⟨N, x, y, S2, _, rx.le (b1.rs.le b2.fr), ry, b2.rs, q2, fun z S3 w H3 b3 rz q3 => ?_⟩
    obtain ⟨i, rfl, q3⟩ := q3
    refine ⟨i, rz.at_, ?_⟩
    have bb := (b1.trans b2).trans b3
    cases i with
    | true =>
      rw [if_pos rfl] at q3 ⊢
      refine ⟨N, δ, S3, _, re.le (rs.le bb.fr), b3.rs, q3, fun w' S4 x' H4 b4 rw' q4 => ?_⟩
      exact ⟨N, y, w', S4, Q', (ry.le (b2.rs.le b3.fr)).le (b3.rs.le b4.fr), rw', b4.rs, q4, fun d S' w2 H' b5 => k d S' w2 H' ((bb.trans b4).trans b5)⟩
    | false =>
      rw [if_neg Bool.false_ne_true] at q3 ⊢
      exact k _ S3 _ H3 bb (.of _) q3

/-! tests -/
/-- a value's truth -/
def lTr (K : PySem.W.Frag) (r : D → Sto → (Bool → Sto → Prop) → Prop) : V → Hp → (Bool → Hp → Prop) → Prop := fun v H Q => ∃ N x S Q', RD ⟨K, N⟩ H S v x ∧ RS ⟨K, N⟩ H S ∧ r x S Q' ∧ ∀ b S' H', Bh ⟨K, N⟩ H S H' S' → Q' b S' → Q b H'
def dTr (r : D → Sto → (Bool → Sto → Prop) → Prop) (ta : TDE) : TDT := fun δ S Q => ta δ S fun x S1 => r x S1 Q
theorem dt_tr {r : D → Sto → (Bool → Sto → Prop) → Prop} (hr : TruR X (lTr X.K r)) {e : Expr} {t : TDE} (he : PE X e (lE X.K t)) (hw : ∀ whole, isTrue e X.env whole = (do let v ← whole; standAt e.pos; holding [v] (truthy v)) := by intro _; rfl) : PT X e (lT X.K (dTr r t)) := by
  refine ⟨fun pins s σ H Q I h => ?_⟩
  obtain ⟨N, δ, S, Q', re, rs, q, k⟩ := h
  refine PyProof.Rows.isTrue_plain (thn (he.run pins s σ H _ I ⟨N, δ, S, _, re, rs, q, fun x S1 v H1 b1 rx q1 => (show lTr X.K r v H1 Q from ⟨N, x, S1, Q', rx, b1.rs, q1, fun b S' H' b2 => k b S' H' (b1.trans b2)⟩)⟩) fun v s1 hh => ?_) (hw _)
  obtain ⟨x, H1, I1, r1, q1⟩ := hh
  exact hr pins s1 σ H1 x v Q I1 r1 q1
/-- a comparison as a test: its value a bool -/
def dB (t : TDE) : TDT := fun δ S Q => t δ S fun x S1 => ∃ c, x = .bl c ∧ Q c S1
theorem lift_B {K : PySem.W.Frag} {t : TDE} {σ : L2.St} {H : Hp} {Q : Bool → Hp → Prop} (h : lT K (dB t) σ H Q) : tB (lE K t) σ H Q := by
  obtain ⟨N, δ, S, Q', re, rs, q, k⟩ := h
  refine ⟨N, δ, S, _, re, rs, q, fun x S1 v H1 b1 rx q1 => ?_⟩
  obtain ⟨c, rfl, q1⟩ := q1
  exact ⟨c, rx.at_, k c S1 H1 b1 q1⟩
theorem dt_val {e : Expr} {t : TDE} (h : PE X e (lE X.K t)) (he : ∀ whole, isTrue e X.env whole = (do let v ← whole; standAt e.pos; holding [v] (truthy v)) := by intro _; rfl) : PT X e (lT X.K (dB t)) :=
  PT.wk (pt_val h he) fun _ _ _ h => lift_B h
theorem dt_cmp {op : CmpOp} (ho : OpR X (compareOp op) (l2 X.K r)) (ha : PE X a (lE X.K ta)) (hb : PE X b (lE X.K tb)) (hm : behindInMarks op b = false := by first | exact nobehind _ (by decide) (by decide) | rfl) : PT X (.Compare a [op] [b] pos) (lT X.K (dB (dOp r ta tb))) :=
  PT.wk (pt_cmpR ho ha hb hm) fun _ _ _ ⟨N, δ, S, Q', re, rs, q, k⟩ => by
    refine ⟨N, δ, S, _, re, rs, q, fun x S1 v H1 b1 rx q1 => ?_⟩
    refine ⟨N, δ, S1, _, re.le (rs.le b1.fr), b1.rs, q1, fun y S2 u H2 b2 ry q2 => ?_⟩
    refine ⟨N, x, y, S2, _, rx.le (b1.rs.le b2.fr), ry, b2.rs, q2, fun z S3 w H3 b3 rz q3 => ?_⟩
    obtain ⟨c, rfl, q3⟩ := q3
    exact ⟨c, rz.at_, k c S3 H3 ((b1.trans b2).trans b3) q3⟩
def dAnd (t u : TDT) : TDT := fun δ S Q => t δ S fun c S1 => if c = true then u δ S1 Q else Q false S1
def dOr (t u : TDT) : TDT := fun δ S Q => t δ S fun c S1 => if c = true then Q true S1 else u δ S1 Q
def dNot (t : TDT) : TDT := fun δ S Q => t δ S fun c S1 => Q (!c) S1
variable {tA tB' : TDT} {rest : List Expr}
theorem dw_and1 (ha : PT X a (lT X.K tA)) : PW X (.BoolOp .And [a] pos) (lT X.K tA) := pw_and1 ha
theorem dw_or1 (ha : PT X a (lT X.K tA)) : PW X (.BoolOp .Or [a] pos) (lT X.K tA) := pw_or1 ha
theorem dw_and (ha : PT X a (lT X.K tA)) (hb : PW X (.BoolOp .And (b :: rest) pos) (lT X.K tB')) : PW X (.BoolOp .And (a :: b :: rest) pos) (lT X.K (dAnd tA tB')) :=
  PW.wk (pw_and ha hb) fun _ _ _ ⟨N, δ, S, Q', re, rs, q, k⟩ => by
    refine ⟨N, δ, S, _, re, rs, q, fun c S1 H1 b1 q1 => ?_⟩
    cases c with
    | true => rw [if_pos rfl] at q1 ⊢; exact ⟨N, δ, S1, Q', re.le (rs.le b1.fr), b1.rs, q1, fun c S' H' b2 => k c S' H' (b1.trans b2)⟩
    | false => rw [if_neg Bool.false_ne_true] at q1 ⊢; exact k _ S1 H1 b1 q1
theorem dw_or (ha : PT X a (lT X.K tA)) (hb : PW X (.BoolOp .Or (b :: rest) pos) (lT X.K tB')) : PW X (.BoolOp .Or (a :: b :: rest) pos) (lT X.K (dOr tA tB')) :=
  PW.wk (pw_or ha hb) fun _ _ _ ⟨N, δ, S, Q', re, rs, q, k⟩ => by
    refine ⟨N, δ, S, _, re, rs, q, fun c S1 H1 b1 q1 => ?_⟩
    cases c with
    | true => rw [if_pos rfl] at q1 ⊢; exact k _ S1 H1 b1 q1
    | false => rw [if_neg Bool.false_ne_true] at q1 ⊢; exact ⟨N, δ, S1, Q', re.le (rs.le b1.fr), b1.rs, q1, fun c S' H' b2 => k c S' H' (b1.trans b2)⟩
theorem dt_not (ha : PT X a (lT X.K tA)) : PT X (.UnaryOp .Not a pos) (lT X.K (dNot tA)) :=
  PT.wk (pt_not ha) fun _ _ _ ⟨N, δ, S, Q', re, rs, q, k⟩ => ⟨N, δ, S, _, re, rs, q, fun c S1 H1 b1 q1 => k _ S1 H1 b1 q1⟩
def dIf (t : TDT) (ta tb : TDE) : TDE := fun δ S Q => t δ S fun c S1 => if c = true then ta δ S1 Q else tb δ S1 Q
theorem de_ifExp (hc : PT X c (lT X.K tA)) (ha : PE X a (lE X.K ta)) (hb : PE X b (lE X.K tb)) : PE X (.IfExp c a b pos) (lE X.K (dIf tA ta tb)) :=
  PE.wk (pe_ifExp hc ha hb) fun _ _ _ ⟨N, δ, S, Q', re, rs, q, k⟩ => by
    refine ⟨N, δ, S, _, re, rs, q, fun i S1 H1 b1 q1 => ?_⟩
    cases i with
    | true => rw [if_pos rfl] at q1 ⊢; exact ⟨N, δ, S1, Q', re.le (rs.le b1.fr), b1.rs, q1, fun d S' v H' b2 => k d S' v H' (b1.trans b2)⟩
    | false => rw [if_neg Bool.false_ne_true] at q1 ⊢; exact ⟨N, δ, S1, Q', re.le (rs.le b1.fr), b1.rs, q1, fun d S' v H' b2 => k d S' v H' (b1.trans b2)⟩
/-- and, or, not as values of bools -/
def dAndV (ta tb : TDE) : TDE := fun δ S Q => ta δ S fun x S1 => ∃ c, x = .bl c ∧ if c = true then tb δ S1 Q else Q (.bl false) S1
def dOrV (ta tb : TDE) : TDE := fun δ S Q => ta δ S fun x S1 => ∃ c, x = .bl c ∧ if c = true then Q (.bl true) S1 else tb δ S1 Q
def dNotV (ta : TDE) : TDE := fun δ S Q => ta δ S fun x S1 => ∃ c, x = .bl c ∧ Q (.bl (!c)) S1
theorem de_one {op} {t : TDE} (h : PE X a (lE X.K t)) : PE X (.BoolOp op [a] pos) (lE X.K t) := pe_one h
theorem de_and (ha : PE X a (lE X.K ta)) (hb : PE X (.BoolOp .And (b :: rest) pos) (lE X.K tb)) : PE X (.BoolOp .And (a :: b :: rest) pos) (lE X.K (dAndV ta tb)) :=
  PE.wk (pe_and ha hb) fun _ _ _ ⟨N, δ, S, Q', re, rs, q, k⟩ => by
    refine ⟨N, δ, S, _, re, rs, q, fun x S1 v H1 b1 rx q1 => ?_⟩
    obtain ⟨c, rfl, q1⟩ := q1
    refine ⟨c, rx.at_, ?_⟩
    cases c with
    | true => rw [if_pos rfl] at q1 ⊢; exact ⟨N, δ, S1, Q', re.le (rs.le b1.fr), b1.rs, q1, fun d S' v H' b2 => k d S' v H' (b1.trans b2)⟩
    | false => rw [if_neg Bool.false_ne_true] at q1 ⊢; exact k _ S1 _ H1 b1 (.of _) q1
theorem de_or (ha : PE X a (lE X.K ta)) (hb : PE X (.BoolOp .Or (b :: rest) pos) (lE X.K tb)) : PE X (.BoolOp .Or (a :: b :: rest) pos) (lE X.K (dOrV ta tb)) :=
  PE.wk (pe_or ha hb) fun _ _ _ ⟨N, δ, S, Q', re, rs, q, k⟩ => by
    refine ⟨N, δ, S, _, re, rs, q, fun x S1 v H1 b1 rx q1 => ?_⟩
    obtain ⟨c, rfl, q1⟩ := q1
    refine ⟨c, rx.at_, ?_⟩
    cases c with
    | true => rw [if_pos rfl] at q1 ⊢; exact k _ S1 _ H1 b1 (.of _) q1
    | false => rw [if_neg Bool.false_ne_true] at q1 ⊢; exact ⟨N, δ, S1, Q', re.le (rs.le b1.fr), b1.rs, q1, fun d S' v H' b2 => k d S' v H' (b1.trans b2)⟩
theorem de_not (ha : PE X a (lE X.K ta)) : PE X (.UnaryOp .Not a pos) (lE X.K (dNotV ta)) :=
  PE.wk (pe_not ha) fun _ _ _ ⟨N, δ, S, Q', re, rs, q, k⟩ => by
    refine ⟨N, δ, S, _, re, rs, q, fun x S1 v H1 b1 rx q1 => ?_⟩
    obtain ⟨c, rfl, q1⟩ := q1
    exact ⟨c, rx.at_, k _ S1 _ H1 b1 (.of _) q1⟩

/-! arguments, displays -/
def dNil : TDA := fun _ S Q => Q [] S
def dCons (ta : TDE) (tr : TDA) : TDA := fun δ S Q => ta δ S fun x S1 => tr δ S1 fun xs S2 => Q (x :: xs) S2
variable {e : Expr} {es : List Expr} {te : TDE} {t : TDA}
theorem da_nil : PA X [] (lA X.K dNil) := PA.wk pa_nil fun σ H Q ⟨N, δ, S, Q', re, rs, q, k⟩ => k [] S [] H (.refl rs) .nil q
theorem da_cons (ha : PE X e (lE X.K te)) (hr : PA X es (lA X.K t)) (hs : starEach (e :: es) X.env = (false, eval e X.env) :: starEach es X.env := by rfl) : PA X (e :: es) (lA X.K (dCons te t)) :=
  PA.wk (pa_cons ha hr hs) fun σ H Q ⟨N, δ, S, Q', re, rs, q, k⟩ => by
    refine ⟨N, δ, S, _, re, rs, q, fun x S1 v H1 b1 rx q1 => ?_⟩
    refine ⟨N, δ, S1, _, re.le (rs.le b1.fr), b1.rs, q1, fun xs S2 vs H2 b2 rxs q2 => ?_⟩
    exact k (x :: xs) S2 (v :: vs) H2 (b1.trans b2) (.cons (rx.le (b1.rs.le b2.fr)) rxs) q2
def dTup (t : TDA) : TDE := fun δ S Q => t δ S fun xs S1 => xs.length ≤ sizeLine ∧ Q (.tup xs) S1
def dLst (t : TDA) : TDE := fun δ S Q => t δ S fun xs S1 => xs.length ≤ sizeLine ∧ ∀ p, S1 p = none → Q (.ref p) (up S1 p (.lst xs))
theorem new_tup {K : Kx} {H : Hp} {S : Sto} {p : Addr} {vs : List V} {ds : List D} (rs : RS K H S) (np : H p = none) (r : RDs K H S vs ds) : Bh K H S (upd H p (.tup vs)) S ∧ RD K (upd H p (.tup vs)) S (.ref p) (.tup ds) := by
  obtain ⟨a, b, c⟩ := rs.laid (o := .tup vs) np
  exact ⟨⟨b, a⟩, .of_tup upd_same (r.le c)⟩
theorem new_fl {K : Kx} {H : Hp} {S : Sto} {p : Addr} {vs : List V} {ds : List D} (rs : RS K H S) (np : H p = none) (r : RDs K H S vs ds) : Bh K H S (upd H p (.lst vs)) S ∧ RD K (upd H p (.lst vs)) S (.ref p) (.fl ds) := by
  obtain ⟨a, b, c⟩ := rs.laid (o := .lst vs) np
  exact ⟨⟨b, a⟩, .of_fl (.inl ⟨.inl upd_same, rs.free np, rs.nhid np⟩) (r.le c)⟩
theorem new_lst {K : Kx} {H : Hp} {S : Sto} {p : Addr} {vs : List V} {ds : List D} (rs : RS K H S) (np : H p = none) (r : RDs K H S vs ds) : Bh K H S (upd H p (.lst vs)) (up S p (.lst ds)) := by
  obtain ⟨a, b⟩ := rs.new (o := .lst vs) (m := .lst ds) np fun c => ⟨vs, upd_same, r.le c⟩
  exact ⟨b, a⟩
/-- a list that nobody will change any more -/
def dLf (t : TDA) : TDE := fun δ S Q => t δ S fun xs S1 => xs.length ≤ sizeLine ∧ Q (.fl xs) S1
theorem de_lf (h : PA X es (lA X.K t)) : PE X (.List es pos) (lE X.K (dLf t)) :=
  PE.wk (pe_lst h) fun σ H Q ⟨N, δ, S, Q', re, rs, q, k⟩ => by
    refine ⟨N, δ, S, _, re, rs, q, fun xs S1 vs H1 b1 rx q1 => ?_⟩
    refine ⟨by rw [rx.length]; exact q1.1, fun p np => ?_⟩
    obtain ⟨b2, r2⟩ := new_fl b1.rs np rx
    exact k _ S1 _ _ (b1.trans b2) r2 q1.2
theorem de_tup {x1} (h : PA X es (lA X.K t)) : PE X (.Tuple es x1 pos) (lE X.K (dTup t)) :=
  PE.wk (pe_tup h) fun σ H Q ⟨N, δ, S, Q', re, rs, q, k⟩ => by
    refine ⟨N, δ, S, _, re, rs, q, fun xs S1 vs H1 b1 rx q1 => ?_⟩
    refine ⟨by rw [rx.length]; exact q1.1, fun p np => ?_⟩
    obtain ⟨b2, r2⟩ := new_tup b1.rs np rx
    exact k _ S1 _ _ (b1.trans b2) r2 q1.2
theorem de_lst (h : PA X es (lA X.K t)) : PE X (.List es pos) (lE X.K (dLst t)) :=
  PE.wk (pe_lst h) fun σ H Q ⟨N, δ, S, Q', re, rs, q, k⟩ => by
    refine ⟨N, δ, S, _, re, rs, q, fun xs S1 vs H1 b1 rx q1 => ?_⟩
    refine ⟨by rw [rx.length]; exact q1.1, fun p np => ?_⟩
    exact k _ _ _ _ (b1.trans (new_lst b1.rs np rx)) (.of _) (q1.2 p (b1.rs.free np))
end

/-! ### statements -/
section
variable {X : Cx} {st : Stmt} {rest : List Stmt} {t u : TDS} {e : Expr} {te : TDE} {pos : Pos}
def dNext : TDS := fun D δ S => D.nx δ S
def dSeq (t u : TDS) : TDS := fun D δ S => t { D with nx := u D } δ S
theorem dss_nil : PSs X [] (lS X.K dNext) := PSs.wk pss_nil fun D σ H ⟨N, δ, S, D', re, rs, q, l⟩ => l.nx δ S σ H (.refl rs) re q
theorem dss_cons (h1 : PS X st (lS X.K t)) (h2 : PSs X rest (lS X.K u)) : PSs X (st :: rest) (lS X.K (dSeq t u)) :=
  PSs.wk (pss_cons h1 h2) fun D σ H ⟨N, δ, S, D', re, rs, q, l⟩ => by
    refine ⟨N, δ, S, _, re, rs, q, fun δ' S' σ' H' b r q' => ?_, l.rt, l.bk, l.ct⟩
    exact ⟨N, δ', S', D', r, b.rs, q', l.from b⟩
theorem dss_one (h1 : PS X st (lS X.K t)) : PSs X [st] (lS X.K t) := pss_one h1
def dBreak : TDS := fun D δ S => D.bk δ S
def dCont : TDS := fun D δ S => D.ct δ S
theorem ds_pass : PS X (.Pass pos) (lS X.K dNext) := PS.wk ps_pass fun D σ H ⟨N, δ, S, D', re, rs, q, l⟩ => l.nx δ S σ H (.refl rs) re q
theorem ds_break : PS X (.Break pos) (lS X.K dBreak) := PS.wk ps_break fun D σ H ⟨N, δ, S, D', re, rs, q, l⟩ => l.bk δ S σ H (.refl rs) re q
theorem ds_continue : PS X (.Continue pos) (lS X.K dCont) := PS.wk ps_continue fun D σ H ⟨N, δ, S, D', re, rs, q, l⟩ => l.ct δ S σ H (.refl rs) re q
def dDrop (te : TDE) : TDS := fun D δ S => te δ S fun _ S1 => D.nx δ S1
theorem ds_expr (he : PE X e (lE X.K te)) (hs : swapsWith e none pos.line X.env = pure false := by rfl) : PS X (.Expr e pos) (lS X.K (dDrop te)) :=
  PS.wk (ps_expr he hs) fun D σ H ⟨N, δ, S, D', re, rs, q, l⟩ => ⟨N, δ, S, _, re, rs, q, fun d S1 v H1 b1 _ q1 => l.nx δ S1 σ H1 b1 (re.le (rs.le b1.fr)) q1⟩
def dRet (te : TDE) : TDS := fun D δ S => te δ S D.rt
theorem ds_ret (he : PE X e (lE X.K te)) : PS X (.Return (some e) pos) (lS X.K (dRet te)) :=
  PS.wk (ps_ret he) fun D σ H ⟨N, δ, S, D', re, rs, q, l⟩ => ⟨N, δ, S, _, re, rs, q, fun d S1 v H1 b1 r1 q1 => l.rt d S1 v H1 b1 r1 q1⟩
def dRetN : TDS := fun D _ S => D.rt .non S
theorem ds_retN : PS X (.Return none pos) (lS X.K dRetN) := PS.wk ps_retN fun D σ H ⟨N, δ, S, D', re, rs, q, l⟩ => l.rt _ S _ H (.refl rs) (.of _) q
def dIfS (c : TDT) (t u : TDS) : TDS := fun D δ S => c δ S fun b S1 => if b = true then t D δ S1 else u D δ S1
theorem ds_if {c : Expr} {a b : List Stmt} {tc : TDT} (hc : PT X c (lT X.K tc)) (ha : PSs X a (lS X.K t)) (hb : PSs X b (lS X.K u)) : PS X (.If c a b pos) (lS X.K (dIfS tc t u)) :=
  PS.wk (ps_if hc ha hb) fun D σ H ⟨N, δ, S, D', re, rs, q, l⟩ => by
    refine ⟨N, δ, S, _, re, rs, q, fun i S1 H1 b1 q1 => ?_⟩
    cases i with
    | true => rw [if_pos rfl] at q1 ⊢; exact ⟨N, δ, S1, D', re.le (rs.le b1.fr), b1.rs, q1, l.from b1⟩
    | false => rw [if_neg Bool.false_ne_true] at q1 ⊢; exact ⟨N, δ, S1, D', re.le (rs.le b1.fr), b1.rs, q1, l.from b1⟩
def dNever : TDS := fun _ _ _ => False
theorem ds_never : PS X st (lS X.K dNever) := PS.wk ps_never fun _ _ _ ⟨_, _, _, _, _, _, q, _⟩ => q
theorem dss_never {sts : List Stmt} : PSs X sts (lS X.K dNever) := PSs.wk pss_never fun _ _ _ ⟨_, _, _, _, _, _, q, _⟩ => q
/-! targets -/
def gdName (i : Nat) : TDG := fun d δ S Q => Q (δ.set i (some d)) S
theorem dg_name (i : Nat) {x : Str} (hN : X.N.Nodup) (hi : X.N[i]? = some x := by rfl) (hx : Loc X.env.scope x := by first | exact Or.inl rfl | exact Or.inr rfl) (hf : X.fn x = true ∨ X.env.scope.names.lookup x = some .local := by first | exact .inl rfl | exact .inr rfl | assumption) : PG X (.Name x pos) (lG X.K (gdName i)) :=
  PG.wk (pg_name hN hi hx hf) fun v σ H Q ⟨N, d, δ, S, Q', rd, re, rs, q, k⟩ => k _ S _ H (.refl rs) (re.set rd i) q
def gdNil : TDGs := fun ds δ S Q => ds = [] ∧ Q δ S
def gdCons (t : TDG) (u : TDGs) : TDGs := fun ds δ S Q => ∃ d r, ds = d :: r ∧ t d δ S fun δ' S' => u r δ' S' Q
theorem dgs_nil : PGs X [] (lGs X.K gdNil) := PGs.wk pgs_nil fun v σ H Q ⟨N, d, δ, S, Q', rd, re, rs, q, k⟩ => by
  obtain ⟨rfl, q⟩ := q
  exact ⟨rd.inv_nil, k _ S _ H (.refl rs) re q⟩
theorem dgs_cons {e : Expr} {es : List Expr} {t : TDG} {u : TDGs} (h1 : PG X e (lG X.K t)) (h2 : PGs X es (lGs X.K u))
    (hs : (assignEach (e :: es) X.env).map (·.2) = assign e X.env :: (assignEach es X.env).map (·.2) := by rfl) : PGs X (e :: es) (lGs X.K (gdCons t u)) :=
  PGs.wk (pgs_cons h1 h2 hs) fun vs σ H Q ⟨N, ds, δ, S, Q', rd, re, rs, q, k⟩ => by
    obtain ⟨d, r, rfl, q⟩ := q
    obtain ⟨v, ws, rfl, r1, r2⟩ := rd.inv_cons
    refine ⟨v, ws, rfl, N, d, δ, S, _, r1, re, rs, q, fun δ' S' σ' H' b r' q' => ?_⟩
    exact ⟨N, r, δ', S', Q', r2.le (rs.le b.fr), r', b.rs, q', fun δ2 S2 σ2 H2 b2 => k δ2 S2 σ2 H2 (b.trans b2)⟩
def gdTup (n : Nat) (t : TDGs) : TDG := fun d δ S Q => ∃ ds, d = .tup ds ∧ ds.length = n ∧ t ds δ S Q
theorem dg_tup {es : List Expr} {k : Nat} {t : TDGs} {n : Nat} (hc : X.calm = true) (h : PGs X es (lGs X.K t))
    (hn : (assignEach es X.env).length = n := by rfl) (hst : (assignEach es X.env).findIdx? (·.1) = none := by rfl) : PG X (.Tuple es k pos) (lG X.K (gdTup n t)) :=
  PG.wk (pg_tup hc h hn hst) fun v σ H Q ⟨N, d, δ, S, Q', rd, re, rs, q, k⟩ => by
    obtain ⟨ds, rfl, hl, q⟩ := q
    obtain ⟨a, vs, rfl, sq, rv⟩ := rd.tup_
    exact ⟨a, vs, rfl, .of sq, by rw [rv.length, hl], N, ds, δ, S, Q', rv, re, rs, q, k⟩
def dAsg (te : TDE) (g : TDG) : TDS := fun D δ S => te δ S fun x S1 => g x δ S1 D.nx
theorem lift_asg {K : PySem.W.Frag} {te : TDE} {g : TDG} {D : Ends} {σ : L2.St} {H : Hp} (h : lS K (dAsg te g) D σ H) : tAsg (lE K te) (lG K g) D σ H := by
  obtain ⟨N, δ, S, D', re, rs, q, l⟩ := h
  refine ⟨N, δ, S, _, re, rs, q, fun d S1 v H1 b1 r1 q1 => ?_⟩
  exact ⟨N, d, δ, S1, _, r1, re.le (rs.le b1.fr), b1.rs, q1, fun δ' S' σ' H' b2 => l.nx δ' S' σ' H' (b1.trans b2)⟩
theorem ds_asg {tg e : Expr} {te : TDE} {g : TDG} (he : PE X e (lE X.K te)) (hg : PG X tg (lG X.K g)) (hs : swapsWithSole [tg] e pos.line X.env = pure false := by rfl) (hw : swappedStores [tg] e X.env = pure none := by rfl)
    (h1 : (assignEach [tg] X.env).map (·.2) = [assign tg X.env] := by rfl) : PS X (.Assign [tg] e pos) (lS X.K (dAsg te g)) :=
  PS.wk (ps_asg he hg hs hw h1) fun _ _ _ h => lift_asg h
theorem ds_set (i : Nat) {x : Str} {e : Expr} {te : TDE} {pos' : Pos} (hN : X.N.Nodup) (he : PE X e (lE X.K te)) (hi : X.N[i]? = some x := by rfl) (hx : Loc X.env.scope x := by first | exact Or.inl rfl | exact Or.inr rfl) (hs : swapsWith e (some (.Name x pos')) pos.line X.env = pure false := by rfl) (hf : X.fn x = true ∨ X.env.scope.names.lookup x = some .local := by first | exact .inl rfl | exact .inr rfl | assumption) :
    PS X (.Assign [.Name x pos'] e pos) (lS X.K (dAsg te (gdName i))) :=
  PS.wk (ps_set hN hi hx he hs hf) fun D σ H ⟨N, δ, S, D', re, rs, q, l⟩ => ⟨N, δ, S, _, re, rs, q, fun d S1 v H1 b1 r1 q1 => l.nx _ S1 _ H1 b1 ((re.le (rs.le b1.fr)).set r1 i) q1⟩
def dPar (i j : Nat) (ta : TDA) : TDS := fun D δ S => ta δ S fun ds S1 => ∃ d e, ds = [d, e] ∧ D.nx ((δ.set i (some d)).set j (some e)) S1
theorem ds_par (i j : Nat) {x y : Str} {a b : Expr} {ta : TDA} {px py pt : Pos} {kt k2 pt2} (hc : X.calm = true) (hN : X.N.Nodup) (ha : PA X [a, b] (lA X.K ta)) (hi : X.N[i]? = some x := by rfl) (hj : X.N[j]? = some y := by rfl) (hij : i ≠ j := by decide)
    (hx : X.env.scope.names.lookup x = some .local := by rfl) (hy : X.env.scope.names.lookup y = some .local := by rfl)
    (hw : swappedStores [.Tuple [.Name x px, .Name y py] kt pt] (.Tuple [a, b] k2 pt2) X.env = pure (some [x, y]) := by rfl)
    (hs : swapsWithSole [.Tuple [.Name x px, .Name y py] kt pt] (.Tuple [a, b] k2 pt2) pos.line X.env = pure false := by rfl) :
    PS X (.Assign [.Tuple [.Name x px, .Name y py] kt pt] (.Tuple [a, b] k2 pt2) pos) (lS X.K (dPar i j ta)) :=
  PS.wk (ps_par hc hN hi hj hij hx hy ha hw hs) fun D σ H ⟨N, δ, S, D', re, rs, q, l⟩ => by
    refine ⟨N, δ, S, _, re, rs, q, fun ds S1 vs H1 b1 r1 q1 => ?_⟩
    obtain ⟨d, e, rfl, q1⟩ := q1
    obtain ⟨v, ws, rfl, ra, rb⟩ := r1.inv_cons
    obtain ⟨w, ws', rfl, rb, rc⟩ := rb.inv_cons
    rw [rc.inv_nil]
    exact ⟨v, w, rfl, l.nx _ S1 _ H1 b1 (((re.le (rs.le b1.fr)).set ra i).set rb j) q1⟩
/-! while -/
def dWhile (c : TDT) (tb : TDS) : TDS := fun D δ S => ∃ W : Nat → DSt → Sto → Prop, (∃ m, W m δ S) ∧ ∀ m δ S, W m δ S →
  c δ S fun b S1 => if b = true then tb { D with nx := fun δ' S' => ∃ m', m' < m ∧ W m' δ' S', ct := fun δ' S' => ∃ m', m' < m ∧ W m' δ' S', bk := D.nx } δ S1 else D.nx δ S1
theorem ds_while {c : Expr} {body : List Stmt} {tc : TDT} {tb : TDS} (hp : PassesOwn (model X.prog X.w) X.A X.env X.xe) (hc : PT X c (lT X.K tc)) (hb : PSs X body (lS X.K tb)) : PS X (.While c body [] pos) (lS X.K (dWhile tc tb)) :=
  PS.wk (ps_while hp hc hb) fun D σ H ⟨N, δ, S, D', re, rs, q, l⟩ => by
    obtain ⟨W, ⟨m, w0⟩, turn⟩ := q
    refine ⟨fun n σ1 H1 => ∃ δ1 S1, W n δ1 S1 ∧ RE ⟨X.K, N⟩ H1 S1 σ1 δ1 ∧ Bh ⟨X.K, N⟩ H S H1 S1, ⟨m, δ, S, w0, re, .refl rs⟩, ?_⟩
    rintro n σ1 H1 ⟨δ1, S1, w1, re1, b1⟩
    refine ⟨N, δ1, S1, _, re1, b1.rs, turn n δ1 S1 w1, fun i S2 H2 b2 q2 => ?_⟩
    have b12 := b1.trans b2
    have re2 := re1.le (b1.rs.le b2.fr)
    cases i with
    | false =>
      rw [if_neg Bool.false_ne_true] at q2
      exact iteF (l.nx δ1 S2 σ1 H2 b12 re2 q2)
    | true =>
      rw [if_pos rfl] at q2
      refine iteT ⟨fun σ' H' => ∃ m' δ' S', m' < n ∧ W m' δ' S' ∧ RE ⟨X.K, N⟩ H' S' σ' δ' ∧ Bh ⟨X.K, N⟩ H S H' S', fun σ' H' ⟨m', δ', S', h1, h2, h3, h4⟩ => ⟨m', h1, δ', S', h2, h3, h4⟩, ?_⟩
      refine ⟨N, δ1, S2, _, re2, b2.rs, q2, ⟨?_, ?_, ?_, ?_⟩⟩
      · rintro δ' S' σ' H' b3 r3 ⟨m', h1, h2⟩
        exact ⟨m', δ', S', h1, h2, r3, b12.trans b3⟩
      · intro d S' v H' b3 r3 q3
        exact l.rt d S' v H' (b12.trans b3) r3 q3
      · intro δ' S' σ' H' b3 r3 q3
        exact l.nx δ' S' σ' H' (b12.trans b3) r3 q3
      · rintro δ' S' σ' H' b3 r3 ⟨m', h1, h2⟩
        exact ⟨m', δ', S', h1, h2, r3, b12.trans b3⟩
end
end DL

/-! Data layer, third part: defs and their calls, loops, comprehensions. -/
namespace DL
open PySem L2 PyProof.Rows

/-! ### a def's promise, kept where no repr is under way -/
structure FnG (P : Program) (w : World) (K : PySem.W.Frag) (mg : Str → Option Value) (base : Heap) (CX : CXT) (k : Nat) (f : Addr) (fd : FuncData) (ps : List Str) (sp : Sp) : Prop where
  len : ∀ vs H Q E, sp vs H Q E → vs.length = ps.length
  run : ∀ (A : Around) (outer : List Env) (s : Shared) (H : Hp) (args : Args) (us : List Value) (vs : List V) (Q : VK) (E : XK), Room k A → A.guards = some [] →
    Env0 P w K mg base A outer s H → BindsTo s fd args (ps.zip us) → Vals vs us → sp vs H Q E → codeAny (model P w) A (.call (.ref f) args) (CR CX outer P w H s Q E) s
/-- room, and no guard -/
structure Rg (k : Nat) (A : Around) : Prop where
  r : Room k A
  g : A.guards = some []
theorem Rg.mono {j k : Nat} {A : Around} (r : Rg k A) (h : j ≤ k) : Rg j A := ⟨r.r.mono h, r.g⟩
section
variable {X : Cx} {CX : CXT} {k : Nat} {f C : Addr} {fd : FuncData} {ps : List Str} {sp : Sp} {E : XK}
/-- the value f called with values -/
def CallG (X : Cx) (f : Addr) (sp : Sp) (E : XK) (dv : List V) : Prop := ∀ (pins : List (Addr × Obj)) (σ : L2.St) (H : Hp) (s : Shared) (Q : VK) (us : List Value) (vs : List V), Inv X pins σ H s → Vals vs us → sp (vs ++ dv) H Q E →
  wpAny (model X.prog X.w) X.A (call (.ref f) us) (EP X pins σ Q) X.xe s
theorem FnG.call {dv : List V} {ds : List Value} (F : FnG X.prog X.w X.K X.mg X.base CX k f fd ps sp) (hr : Rg k X.A) (hb : Binds X.K fd ps ds) (hd : Vals dv ds) (hx : Passes CX X E) : CallG X f sp E dv := by
  intro pins σ H s Q us vs I rv h
  have rr : Vals (vs ++ dv) (us ++ ds) := rv.append hd
  have hl : (us ++ ds).length = ps.length := rr.length.symm.trans (F.len _ _ _ _ h)
  apply wpAny_call
  apply codeAny_mono (F.run X.A X.stack s H ⟨us, []⟩ (us ++ ds) (vs ++ dv) Q E hr.r hr.g I.env0 (hb s us I.kIn hl) rr h)
  intro res s' hq
  match res, hq with
  | .error e, hq => exact hx pins σ H s e s' I hq
  | .ok (.ret u), hq => exact I.after hq
  | .ok .next, hq => exact hq.elim
  | .ok .brk, hq => exact hq.elim
  | .ok .cont, hq => exact hq.elim
variable {x m : Str} {p pos apos : Pos} {e o : Expr} {es : List Expr} {ta : TE} {t : TA} {dv : List V}
/-- f(e, ..) of a def of the module -/
theorem pg_call (G : CallG X f sp E dv) (hg : Gl X x) (hm : X.mg x = some (.ref f)) (hk : PySem.W.keepIn X.K (.ref f) = true) (ha : PA X (e :: es) t) (hdb : (x == ("__debug__" : Str)) = false := by decide)
    (he : starEach (e :: es) X.env = (false, eval e X.env) :: starEach es X.env := by rfl) (hpl : (backTo pos (starEach es X.env)).any (·.1) = false := by rfl) : PE X (.Call (.Name x p) (e :: es) [] pos) (tCall sp dv E t) := by
  constructor
  intro pins s σ H Q I h
  apply wpAny_Call_Name_kw
  apply ld_glob I hg hm _ hdb
  apply PySem.W.callWith_K (h₀ := X.base) I.ok.mod.kin hk _ he hpl
  apply thn (ha.run pos pins s σ H _ I h)
  rintro us s1 ⟨vs, H1, I1, rv, q⟩
  exact ⟨I1.kIn, G pins σ H1 s1 Q us vs I1 rv q⟩
theorem pg_call0 (G : CallG X f sp E dv) (hg : Gl X x) (hm : X.mg x = some (.ref f)) (hk : PySem.W.keepIn X.K (.ref f) = true) (hdb : (x == ("__debug__" : Str)) = false := by decide) : PE X (.Call (.Name x p) [] [] pos) (tCall sp dv E tNil) := by
  constructor
  intro pins s σ H Q I h
  apply wpAny_Call_Name_kw
  apply ld_glob I hg hm _ hdb
  apply PySem.W.callWith_K0 I.kIn hk
  exact G pins σ H s Q [] [] I .nil h
/-- with keywords -/
def CallGK (X : Cx) (f : Addr) (sp : Sp) (E : XK) (ks : List Str) (gV : List V → List V → List V) : Prop := ∀ (pins : List (Addr × Obj)) (σ : L2.St) (H : Hp) (s : Shared) (Q : VK) (us ws : List Value) (vs zs : List V), Inv X pins σ H s → Vals vs us → Vals zs ws → sp (gV vs zs) H Q E →
  wpAny (model X.prog X.w) X.A (call (.ref f) us (ks.zip ws)) (EP X pins σ Q) X.xe s
theorem FnG.callK {ks : List Str} {g : List Value → List Value → List Value} {gV : List V → List V → List V} (F : FnG X.prog X.w X.K X.mg X.base CX k f fd ps sp) (hr : Rg k X.A) (hb : KBinds X.K fd ps ks g gV) (hx : Passes CX X E) : CallGK X f sp E ks gV := by
  intro pins σ H s Q us ws vs zs I rv rz h
  have rr := hb.rel rv rz
  have hl : (g us ws).length = ps.length := rr.length.symm.trans (F.len _ _ _ _ h)
  apply wpAny_call
  apply codeAny_mono (F.run X.A X.stack s H ⟨us, ks.zip ws⟩ (g us ws) (gV vs zs) Q E hr.r hr.g I.env0 (hb.to s us ws I.kIn hl) rr h)
  intro res s' hq
  match res, hq with
  | .error e, hq => exact hx pins σ H s e s' I hq
  | .ok (.ret u), hq => exact I.after hq
  | .ok .next, hq => exact hq.elim
  | .ok .brk, hq => exact hq.elim
  | .ok .cont, hq => exact hq.elim
theorem pg_callK {ks : List Str} {gV : List V → List V → List V} {kws : List Keyword} {tk : TA} (G : CallGK X f sp E ks gV) (hg : Gl X x) (hm : X.mg x = some (.ref f)) (hk : PySem.W.keepIn X.K (.ref f) = true)
    (ha : PA X (e :: es) t) (hkw : PK X kws tk) (hall : (backToKw pos (keywordEach kws X.env)).all (·.1.isSome) = true := by rfl) (hks : (backToKw pos (keywordEach kws X.env)).filterMap (·.1) = ks := by rfl) (hdb : (x == ("__debug__" : Str)) = false := by decide)
    (he : starEach (e :: es) X.env = (false, eval e X.env) :: starEach es X.env := by rfl) (hpl : ((backTo pos (starEach (e :: es) X.env)).any (·.1) || (backToKw pos (keywordEach kws X.env)).any (·.1.isNone)) = false := by rfl) :
    PE X (.Call (.Name x p) (e :: es) kws pos) (tCallK sp gV E t tk) := by
  constructor
  intro pins s σ H Q I h
  apply wpAny_Call_Name_kw
  apply ld_glob I hg hm _ hdb
  apply PySem.W.callWith_KW (h₀ := X.base) I.ok.mod.kin hk hall _ hpl he
  apply thn (ha.run pos pins s σ H _ I h)
  rintro us s1 ⟨vs, H1, I1, rv, q⟩
  apply thn (hkw.run pos pins s1 σ H1 _ I1 q)
  rintro ws s2 ⟨zs, H2, I2, rz, q2⟩
  rw [hks]
  exact ⟨I2.kIn, G pins σ H2 s2 Q us ws vs zs I2 rv rz q2⟩
theorem pg_callK0 {ks : List Str} {gV : List V → List V → List V} {kws : List Keyword} {tk : TA} (G : CallGK X f sp E ks gV) (hg : Gl X x) (hm : X.mg x = some (.ref f)) (hk : PySem.W.keepIn X.K (.ref f) = true)
    (hkw : PK X kws tk) (hall : (backToKw pos (keywordEach kws X.env)).all (·.1.isSome) = true := by rfl) (hks : (backToKw pos (keywordEach kws X.env)).filterMap (·.1) = ks := by rfl) (hdb : (x == ("__debug__" : Str)) = false := by decide)
    (hpl : ((backTo pos (starEach [] X.env)).any (·.1) || (backToKw pos (keywordEach kws X.env)).any (·.1.isNone)) = false := by rfl) :
    PE X (.Call (.Name x p) [] kws pos) (tCallK sp gV E tNil tk) := by
  constructor
  intro pins s σ H Q I h
  apply wpAny_Call_Name_kw
  apply ld_glob I hg hm _ hdb
  apply PySem.W.callWith_KW0 (h₀ := X.base) I.ok.mod.kin hk hall _ hpl
  apply thn (hkw.run pos pins s σ H _ I h)
  rintro ws s2 ⟨zs, H2, I2, rz, q2⟩
  rw [hks]
  exact ⟨I2.kIn, G pins σ H2 s2 Q [] ws [] zs I2 .nil rz q2⟩
end
/-- a def by its body -/
theorem fnG_of {CX : CXT} {P : Program} {w : World} {K : PySem.W.Frag} {mg : Str → Option Value} {base : Heap} {k : Nat} {x qual : Str} {st : Stmt} {f : Addr} {fd : FuncData} {N ps : List Str} {sp : Sp} (F : Fun K x qual st f fd) (S : FnScope N ps (defScope st))
    (len : ∀ vs H Q E, sp vs H Q E → vs.length = ps.length)
    (hbody : ∀ (cdv : Value) (A : Around) (outer : List Env) (s : Shared) (H : Hp) (vs : List V) (Q : VK) (E : XK), PySem.W.codeIn K cdv qual = true → Rg k (A.deeper (envOfC qual (defScope st) s.heap.objs.size f cdv)) → sp vs H Q E →
      ∃ t, PSs (cxOf CX P w K mg base N qual (defScope st) f cdv A outer s H E) (defBody st) t ∧ t { nx := fun _ H' => Q .non H', rt := Q } (L2.start N vs) H) : FnG P w K mg base CX (k + 1) f fd ps sp := by
  obtain ⟨oc, od, kV, doc, pm, an, cdv, ct, osl, rfl, lk, hcd⟩ := F.ex
  refine ⟨len, ?_⟩
  intro A outer s H args us vs Q E hr hg e0 hb rv hsp
  have hl := len _ _ _ _ hsp
  have KX : K.In s.heap := e0.mod.kin.keeps fun b o e => (e0.bs b o e).1
  have lim : s.heap.NoLimit := e0.mod.nolimit.keeps fun b o e => (e0.bs b o e).1
  have kinds : ∀ y ∈ ps.zip us, (defScope st).names.lookup y.1 = some .local ∨ ((defScope st).names.lookup y.1 = some .cell ∧ ((cellsFrom (s.heap.objs.size + 1) (defScope st).names []).lookup y.1).isSome = true) := by
    rintro ⟨n, v⟩ hy
    have hn := (List.of_mem_zip hy).1
    exact (S.par n hn).elim Or.inl fun q => Or.inr ⟨q, PySem.W.cellsFrom_some _ _ _ (.inl q)⟩
  apply codeAny_call_function hr.depth (KX _ _ lk) rfl S.co S.gen rfl (PySem.W.codeRec_of KX hcd)
  apply hb
  apply wpAny_newFunctionEnv_cells S.kind kinds
  intro env he s1 xc
  subst he
  refine ⟨lim.keeps xc.toInCall.keep, codeAny_func ?_⟩
  obtain ⟨t, ht, hq⟩ := hbody cdv A outer s H vs Q E hcd ⟨hr.deeper _, hg⟩ hsp
  have I : Inv (cxOf CX P w K mg base N qual (defScope st) f cdv A outer s H E) [] (L2.start N vs) H s1 := inv_start S hr.hd e0 hl rv xc
  apply wpAny_mono (ht.run [] s1 (L2.start N vs) H _ I hq) _ fun _ _ z => z
  intro fl s' hs
  match fl, hs with
  | .ret u, ⟨v, σ', H', J, rv, q⟩ => exact ⟨v, H', J.os, J.bare, J.base, J.hok, rv, q⟩
  | .next, ⟨σ', H', J, q⟩ => exact ⟨V.non, H', J.os, J.bare, J.base, J.hok, rfl, q⟩
  | .brk, ⟨_, _, _, q⟩ => exact q.elim
  | .cont, ⟨_, _, _, q⟩ => exact q.elim

/-! ### promises over data -/
/-- an exception: its class, its attributes, the store -/
abbrev XD := Value → List (Str × D) → Sto → Prop
abbrev SpD := List D → Sto → KD → XD → Prop
def X0 : XD := fun _ _ _ => False
section
variable (K : PySem.W.Frag)
/-- how an exception's attributes lie -/
def XAt (K : Kx) (H' : Hp) (S' : Sto) (fs : List (Str × D)) (dd : Option Addr) : Prop := (fs = [] ∧ dd = none) ∨ ∃ dx gs, dd = some dx ∧ H' dx = some (.xd gs) ∧ gs.map (·.1) = fs.map (·.1) ∧ RDs K H' S' (gs.map (·.2)) (fs.map (·.2))
def lSp (sp : SpD) : Sp := fun vs H Q E => ∃ N ds S Q' E', RDs ⟨K, N⟩ H S vs ds ∧ RS ⟨K, N⟩ H S ∧ sp ds S Q' E' ∧ (∀ d S' v H', Bh ⟨K, N⟩ H S H' S' → RD ⟨K, N⟩ H' S' v d → Q' d S' → Q v H') ∧
  ∀ c fs S' dd H', Bh ⟨K, N⟩ H S H' S' → XAt ⟨K, N⟩ H' S' fs dd → E' c fs S' → E c dd H'
end
abbrev FnD (P : Program) (w : World) (K : PySem.W.Frag) (mg : Str → Option Value) (base : Heap) (CX : CXT) (k : Nat) (f : Addr) (fd : FuncData) (ps : List Str) (sp : SpD) : Prop := FnG P w K mg base CX k f fd ps (lSp K sp)
/-- the names' values at the entry -/
def startD (N : List Str) (ds : List D) : DSt := ds.map some ++ List.replicate (N.length - ds.length) none
theorem re_start {K : Kx} {H : Hp} {S : Sto} {N : List Str} {vs : List V} {ds : List D} (r : RDs K H S vs ds) : RE K H S (L2.start N vs) (startD N ds) := by
  have hl := r.length
  refine ⟨by simp [L2.start, startD, hl], fun i d e => ?_⟩
  unfold startD at e
  by_cases hi : i < ds.length
  · rw [List.getElem?_append_left (by simpa using hi), List.getElem?_map] at e
    cases q : ds[i]? with
    | none => rw [q] at e; cases e
    | some d' =>
      rw [q] at e
      cases e
      obtain ⟨v, hv, rv⟩ := r.get q
      refine ⟨v, ?_, rv⟩
      unfold L2.start
      rw [List.getElem?_append_left (by simp; omega), List.getElem?_map, hv]
      rfl
  · rw [List.getElem?_append_right (by simpa using hi), List.getElem?_replicate] at e
    split at e <;> cases e
/-- a value may be seen as another one, over a smaller store -/
def VW (d : D) (S' : Sto) (d1 : D) (S1 : Sto) : Prop := Sub S1 S' ∧ ∀ K H v, RS K H S' → RD K H S' v d → RD K H S1 v d1
theorem VW.refl (d : D) (S : Sto) : VW d S d S := ⟨.refl, fun _ _ _ _ h => h⟩
theorem VW.sub {d : D} {S S1 : Sto} (h : Sub S1 S) : VW d S d S1 := ⟨h, fun _ _ _ _ r => r.le h.le⟩
/-- a list that is handed out is changed no more -/
theorem VW.fz {p : Addr} {ds : List D} {S S1 : Sto} (h : Sub S1 S) (e : S p = some (.lst ds)) (n : S1 p = none) : VW (.ref p) S (.fl ds) S1 := by
  refine ⟨h, fun K H v rs r => ?_⟩
  rw [r.at_]
  obtain ⟨vs, h1, h2⟩ := rs.ob p _ e
  exact .of_fl (.inl ⟨.inl h1, n, rs.kn e⟩) (h2.le h.le)
/-- what a body is to reach -/
def bodyE (Q : KD) : DEnds where
  nx := fun _ S' => ∃ S1, Sub S1 S' ∧ Q .non S1
  rt := fun d S' => ∃ d1 S1, VW d S' d1 S1 ∧ Q d1 S1
section
variable {P : Program} {w : World} {K : PySem.W.Frag} {mg : Str → Option Value} {base : Heap} {CX : CXT} {k : Nat} {x qual : Str} {st : Stmt} {f : Addr} {fd : FuncData} {N ps : List Str} {sp : SpD}
/-- a def that lets nothing out -/
theorem okD (F : Fun K x qual st f fd) (S : FnScope N ps (defScope st)) (len : ∀ ds S Q E, sp ds S Q E → ds.length = ps.length)
    (hbody : ∀ (cdv : Value) (A : Around) (outer : List Env) (s : Shared) (H : Hp) (E : XK) (ds : List D) (S : Sto) (Q : KD) (E' : XD), PySem.W.codeIn K cdv qual = true → Rg k (A.deeper (envOfC qual (defScope st) s.heap.objs.size f cdv)) → sp ds S Q E' →
      ∃ t, PSs (cxOf CX P w K mg base N qual (defScope st) f cdv A outer s H E).nox (defBody st) (lS K t) ∧ t (bodyE Q) (startD N ds) S) : FnD P w K mg base CX (k + 1) f fd ps sp := by
  refine fnG_of F S (fun vs H Q E => ?_) fun cdv A outer s H vs Q E hcd hr h => ?_
  · rintro ⟨N, ds, S, Q', E', r, rs, q, _⟩
    exact r.length.trans (len _ _ _ _ q)
  · obtain ⟨N', ds, S, Q', E', r, rs, q, k1, k2⟩ := h
    obtain ⟨t, ht, hq⟩ := hbody cdv A outer s H E ds S Q' E' hcd hr q
    refine ⟨_, ht.nox, N', startD N ds, S, bodyE Q', re_start r, rs, hq, ⟨?_, ?_, fun _ _ _ _ _ _ z => z.elim, fun _ _ _ _ _ _ z => z.elim⟩⟩
    · rintro δ' S' σ' H' b re ⟨S1, su, q1⟩
      exact k1 .non S1 .non H' ⟨b.fr.sub su, b.rs.sub su⟩ (.of _) q1
    · rintro d S' v H' b rv ⟨d1, S1, ⟨su, vw⟩, q1⟩
      exact k1 d1 S1 v H' ⟨b.fr.sub su, b.rs.sub su⟩ (vw _ _ _ b.rs rv) q1
end

/-! ### calls over data -/
section
variable {X : Cx} {CX : CXT} {k : Nat} {f C : Addr} {fd : FuncData} {ps : List Str} {sp : SpD}
def dCall (sp : SpD) (dv : List D) (E : XD) (t : TDA) : TDE := fun δ S Q => t δ S fun ds S1 => sp (ds ++ dv) S1 Q E
/-- an exception of the callee, lifted -/
def lX (K : PySem.W.Frag) (E : XD) : XK := fun c dd H' => ∃ N fs S', RS ⟨K, N⟩ H' S' ∧ XAt ⟨K, N⟩ H' S' fs dd ∧ E c fs S'
theorem lX0 {K : PySem.W.Frag} : lX K X0 = E0 := by
  funext c dd H'
  apply propext
  constructor
  · rintro ⟨_, _, _, _, _, h⟩; exact h
  · intro h; exact h.elim
theorem lift_sp {K : PySem.W.Frag} {N : Addr → Prop} {sp : SpD} {E : XD} {ds : List D} {S : Sto} {Q' : KD} {vs : List V} {H : Hp} {Q : VK} (r : RDs ⟨K, N⟩ H S vs ds) (rs : RS ⟨K, N⟩ H S) (q : sp ds S Q' E) (kk : ∀ d S' v H', Bh ⟨K, N⟩ H S H' S' → RD ⟨K, N⟩ H' S' v d → Q' d S' → Q v H') : lSp K sp vs H Q (lX K E) :=
  ⟨N, ds, S, Q', E, r, rs, q, kk, fun c fs S' dd H' b e h => ⟨N, fs, S', b.rs, e, h⟩⟩
variable {x m : Str} {p pos apos : Pos} {e o : Expr} {es : List Expr} {ta : TDE} {t : TDA}
theorem de_call (F : FnD X.prog X.w X.K X.mg X.base CX0 k f fd ps sp) (hr : Rg k X.A) (hb : Binds X.K fd ps []) (hg : Gl X x) (hm : X.mg x = some (.ref f)) (hk : PySem.W.keepIn X.K (.ref f) = true) (ha : PA X (e :: es) (lA X.K t)) (hdb : (x == ("__debug__" : Str)) = false := by decide)
    (he : starEach (e :: es) X.env = (false, eval e X.env) :: starEach es X.env := by rfl) (hpl : (backTo pos (starEach es X.env)).any (·.1) = false := by rfl) : PE X (.Call (.Name x p) (e :: es) [] pos) (lE X.K (dCall sp [] X0 t)) := by
  refine PE.wk (pg_call (F.call hr hb .nil pass0) hg hm hk ha hdb he hpl) fun σ H Q h => ?_
  obtain ⟨N, δ, S, Q', re, rs, q, kk⟩ := h
  refine ⟨N, δ, S, _, re, rs, q, fun ds S1 vs H1 b1 r1 q1 => ?_⟩
  rw [List.append_nil] at q1 ⊢
  rw [← lX0 (K := X.K)]
  exact lift_sp r1 b1.rs q1 fun d S' v H' b2 => kk d S' v H' (b1.trans b2)
/-- with defaults -/
theorem de_callD {dv : List V} {dd : List D} {us : List Value} (F : FnD X.prog X.w X.K X.mg X.base CX0 k f fd ps sp) (hr : Rg k X.A) (hb : Binds X.K fd ps us) (hd : Vals dv us) (hdd : ∀ N H S, RDs ⟨X.K, N⟩ H S dv dd) (hg : Gl X x) (hm : X.mg x = some (.ref f)) (hk : PySem.W.keepIn X.K (.ref f) = true) (ha : PA X (e :: es) (lA X.K t)) (hdb : (x == ("__debug__" : Str)) = false := by decide)
    (he : starEach (e :: es) X.env = (false, eval e X.env) :: starEach es X.env := by rfl) (hpl : (backTo pos (starEach es X.env)).any (·.1) = false := by rfl) : PE X (.Call (.Name x p) (e :: es) [] pos) (lE X.K (dCall sp dd X0 t)) := by
  refine PE.wk (pg_call (F.call hr hb hd pass0) hg hm hk ha hdb he hpl) fun σ H Q h => ?_
  obtain ⟨N, δ, S, Q', re, rs, q, kk⟩ := h
  refine ⟨N, δ, S, _, re, rs, q, fun ds S1 vs H1 b1 r1 q1 => ?_⟩
  rw [← lX0 (K := X.K)]
  exact lift_sp (r1.append (hdd _ _ _)) b1.rs q1 fun d S' v H' b2 => kk d S' v H' (b1.trans b2)
theorem de_call0 (F : FnD X.prog X.w X.K X.mg X.base CX0 k f fd ps sp) (hr : Rg k X.A) (hb : Binds X.K fd ps []) (hg : Gl X x) (hm : X.mg x = some (.ref f)) (hk : PySem.W.keepIn X.K (.ref f) = true) (hdb : (x == ("__debug__" : Str)) = false := by decide) : PE X (.Call (.Name x p) [] [] pos) (lE X.K (dCall sp [] X0 dNil)) := by
  refine PE.wk (pg_call0 (F.call hr hb .nil pass0) hg hm hk hdb) fun σ H Q h => ?_
  obtain ⟨N, δ, S, Q', re, rs, q, kk⟩ := h
  show lSp X.K sp ([] ++ []) H Q E0
  rw [← lX0 (K := X.K)]
  exact lift_sp .nil rs q kk
/-- keywords: how they are put in order, for values and for data -/
structure PutK (gV : List V → List V → List V) (gD : List D → List D → List D) : Prop where
  to : ∀ {K : Kx} {H : Hp} {S : Sto} {vs zs : List V} {ds es : List D}, RDs K H S vs ds → RDs K H S zs es → RDs K H S (gV vs zs) (gD ds es)
def dCallK (sp : SpD) (gD : List D → List D → List D) (E : XD) (t tk : TDA) : TDE := fun δ S Q => t δ S fun ds S1 => tk δ S1 fun es S2 => sp (gD ds es) S2 Q E
theorem dk_nil : PK X [] (lA X.K dNil) := ⟨fun pos pins s σ H Q I ⟨N, δ, S, Q', re, rs, q, k⟩ => pk_nil.run pos pins s σ H Q I (k [] S [] H (.refl rs) .nil q)⟩
theorem dk_cons {nm : Option Str} {kpos : Pos} {kws : List Keyword} {te : TDE} (ha : PE X e (lE X.K te)) (hr : PK X kws (lA X.K t)) : PK X (⟨nm, e, kpos⟩ :: kws) (lA X.K (dCons te t)) :=
  ⟨fun pos pins s σ H Q I ⟨N, δ, S, Q', re, rs, q, k⟩ => (pk_cons ha hr).run pos pins s σ H Q I (by
    refine ⟨N, δ, S, _, re, rs, q, fun x S1 v H1 b1 rx q1 => ?_⟩
    refine ⟨N, δ, S1, _, re.le (rs.le b1.fr), b1.rs, q1, fun xs S2 vs H2 b2 rxs q2 => ?_⟩
    exact k (x :: xs) S2 (v :: vs) H2 (b1.trans b2) (.cons (rx.le (b1.rs.le b2.fr)) rxs) q2)⟩
theorem de_callK {ks : List Str} {g : List Value → List Value → List Value} {gV : List V → List V → List V} {gD : List D → List D → List D} {kws : List Keyword} {tk : TDA} (F : FnD X.prog X.w X.K X.mg X.base CX0 k f fd ps sp) (hr : Rg k X.A) (hb : KBinds X.K fd ps ks g gV) (hd : PutK gV gD)
    (hg : Gl X x) (hm : X.mg x = some (.ref f)) (hk : PySem.W.keepIn X.K (.ref f) = true) (ha : PA X (e :: es) (lA X.K t)) (hkw : PK X kws (lA X.K tk)) (hall : (backToKw pos (keywordEach kws X.env)).all (·.1.isSome) = true := by rfl) (hks : (backToKw pos (keywordEach kws X.env)).filterMap (·.1) = ks := by rfl) (hdb : (x == ("__debug__" : Str)) = false := by decide)
    (he : starEach (e :: es) X.env = (false, eval e X.env) :: starEach es X.env := by rfl) (hpl : ((backTo pos (starEach (e :: es) X.env)).any (·.1) || (backToKw pos (keywordEach kws X.env)).any (·.1.isNone)) = false := by rfl) :
    PE X (.Call (.Name x p) (e :: es) kws pos) (lE X.K (dCallK sp gD X0 t tk)) := by
  refine PE.wk (pg_callK (F.callK hr hb pass0) hg hm hk ha hkw hall hks hdb he hpl) fun σ H Q h => ?_
  obtain ⟨N, δ, S, Q', re, rs, q, kk⟩ := h
  refine ⟨N, δ, S, _, re, rs, q, fun ds S1 vs H1 b1 r1 q1 => ?_⟩
  refine ⟨N, δ, S1, _, re.le (rs.le b1.fr), b1.rs, q1, fun es S2 zs H2 b2 r2 q2 => ?_⟩
  rw [← lX0 (K := X.K)]
  exact lift_sp (hd.to (r1.le (b1.rs.le b2.fr)) r2) b2.rs q2 fun d S' v H' b3 => kk d S' v H' ((b1.trans b2).trans b3)
theorem de_callK0 {ks : List Str} {g : List Value → List Value → List Value} {gV : List V → List V → List V} {gD : List D → List D → List D} {kws : List Keyword} {tk : TDA} (F : FnD X.prog X.w X.K X.mg X.base CX0 k f fd ps sp) (hr : Rg k X.A) (hb : KBinds X.K fd ps ks g gV) (hd : PutK gV gD)
    (hg : Gl X x) (hm : X.mg x = some (.ref f)) (hk : PySem.W.keepIn X.K (.ref f) = true) (hkw : PK X kws (lA X.K tk)) (hall : (backToKw pos (keywordEach kws X.env)).all (·.1.isSome) = true := by rfl) (hks : (backToKw pos (keywordEach kws X.env)).filterMap (·.1) = ks := by rfl) (hdb : (x == ("__debug__" : Str)) = false := by decide)
    (hpl : ((backTo pos (starEach [] X.env)).any (·.1) || (backToKw pos (keywordEach kws X.env)).any (·.1.isNone)) = false := by rfl) :
    PE X (.Call (.Name x p) [] kws pos) (lE X.K (dCallK sp gD X0 dNil tk)) := by
  refine PE.wk (pg_callK0 (F.callK hr hb pass0) hg hm hk hkw hall hks hdb hpl) fun σ H Q h => ?_
  obtain ⟨N, δ, S, Q', re, rs, q, kk⟩ := h
  refine ⟨N, δ, S, _, re, rs, q, fun es S2 zs H2 b2 r2 q2 => ?_⟩
  rw [← lX0 (K := X.K)]
  exact lift_sp (hd.to .nil r2) b2.rs q2 fun d S' v H' b3 => kk d S' v H' (b2.trans b3)
/-- built-ins by name -/
def dCB (r : RDL) (t : TDA) : TDE := fun δ S Q => t δ S fun ds S1 => r ds S1 Q
theorem lift_cb {K : PySem.W.Frag} {r : RDL} {t : TDA} {σ : L2.St} {H : Hp} {Q : VK} (h : lE K (dCB r t) σ H Q) : tCB (lL K r) (lA K t) σ H Q := by
  obtain ⟨N, δ, S, Q', re, rs, q, kk⟩ := h
  exact ⟨N, δ, S, _, re, rs, q, fun ds S1 vs H1 b1 r1 q1 => ⟨N, ds, S1, Q', r1, b1.rs, q1, fun d S' w H' b2 => kk d S' w H' (b1.trans b2)⟩⟩
theorem de_callB {id : String} {r : RDL} (hc : CallR X (.builtin id) (lL X.K r)) (hg : Gl X x) (hm : X.mg x = none) (ha : PA X (e :: es) (lA X.K t)) (hv : bootBuiltins x = some (.builtin id) := by first | decide +kernel) (hn : x ≠ "__name__" := by decide) (hdb : (x == ("__debug__" : Str)) = false := by decide)
    (he : starEach (e :: es) X.env = (false, eval e X.env) :: starEach es X.env := by rfl) (hpl : (backTo pos (starEach es X.env)).any (·.1) = false := by rfl) : PE X (.Call (.Name x p) (e :: es) [] pos) (lE X.K (dCB r t)) :=
  PE.wk (pe_callB hc hg hm hv ha hn hdb he hpl) fun _ _ _ h => lift_cb h
theorem de_callTy {T : String} {r : RDL} (hc : CallR X (.type T) (lL X.K r)) (hg : Gl X x) (hm : X.mg x = none) (ha : PA X (e :: es) (lA X.K t)) (hv : bootBuiltins x = some (.type T) := by first | decide +kernel) (hn : x ≠ "__name__" := by decide) (hdb : (x == ("__debug__" : Str)) = false := by decide)
    (he : starEach (e :: es) X.env = (false, eval e X.env) :: starEach es X.env := by rfl) (hpl : (backTo pos (starEach es X.env)).any (·.1) = false := by rfl) : PE X (.Call (.Name x p) (e :: es) [] pos) (lE X.K (dCB r t)) :=
  PE.wk (pe_callTy hc hg hm hv ha hn hdb he hpl) fun _ _ _ h => lift_cb h
end

/-! ### what is walked -/
/-- at turn i, over a store: an item, or the end -/
abbrev ItD := Nat → Sto → Option (Option D)
abbrev TDI := DSt → Sto → (ItD → Sto → Prop) → Prop
/-- the walk of data, seen below -/
def ItRel (K : Kx) (H0 : Hp) (S0 : Sto) (J : ItD) (Jv : It) : Prop := ∀ (M : Addr → Prop) i H S, Bh ⟨K.k, M⟩ H0 S0 H S → TupLe K H0 S0 ⟨K.k, M⟩ H S →
  (J i S = some none → Jv.stop i H) ∧ ∀ d, J i S = some (some d) → Jv.go i H ∧ ∀ x H', Jv.yld i H x H' → Bh ⟨K.k, M⟩ H S H' S ∧ RD ⟨K.k, M⟩ H' S x d
def lI (K : PySem.W.Frag) (t : TDI) : TI := fun σ H R => ∃ N δ S R', RE ⟨K, N⟩ H S σ δ ∧ RS ⟨K, N⟩ H S ∧ t δ S R' ∧ ∀ J S' Jv H', Bh ⟨K, N⟩ H S H' S' → ItRel ⟨K, N⟩ H' S' J Jv → R' J S' → R Jv H'
def seqI (ds : List D) : ItD := fun i _ => some ds[i]?
def listI (a : Addr) : ItD := fun i S => match S a with
  | some (.lst xs) => some xs[i]?
  | _ => none
section
variable {X : Cx} {tg iter e : Expr} {te : TDE} {pos p : Pos}
theorem PI.wk {t t' : TI} (h : PI X tg e t) (k : ∀ σ H R, t' σ H R → t σ H R) : PI X tg e t' := ⟨fun pins s σ H Q I q => h.run pins s σ H Q I (k σ H Q q)⟩
/-- a tuple's items, a frozen list's, a list's as it stands -/
def iSeq (te : TDE) : TDI := fun δ S R => te δ S fun x S1 => (∃ ds, x = .tup ds ∧ R (seqI ds) S1) 
theorem rel_tup {K : Kx} {H0 : Hp} {S0 : Sto} {a : Addr} {vs : List V} {ds : List D} (rs : RS K H0 S0) (h : ∀ H, (∀ xs, H0 a = some (.tup xs) → H a = some (.tup xs)) → SqT K.k H a vs) (r : RDs K H0 S0 vs ds) : ItRel K H0 S0 (seqI ds) (Itt K.k a) := by
  intro M i H S b le
  have h' := h H fun xs e => le.t _ _ e
  have r' := r.le le
  refine ⟨fun e => ?_, fun d e => ?_⟩
  · have e' : ds[i]? = none := Option.some.inj e
    exact ⟨vs, h', by rw [r.length]; exact List.getElem?_eq_none_iff.mp e'⟩
  · have e' : ds[i]? = some d := Option.some.inj e
    obtain ⟨v, hv, rv⟩ := r'.get e'
    refine ⟨⟨vs, v, h', hv⟩, fun x H' y => ?_⟩
    obtain ⟨rfl, y⟩ := y
    have q := y vs h'
    rw [hv] at q
    cases q
    exact ⟨.refl b.rs, rv⟩
theorem rel_fl {K : Kx} {H0 : Hp} {S0 : Sto} {a : Addr} {vs : List V} {ds : List D} (rs : RS K H0 S0) (h : Fz K H0 S0 a vs) (r : RDs K H0 S0 vs ds) : ItRel K H0 S0 (seqI ds) (Itl K.k a) := by
  intro M i H S b le
  have h' := (le.l _ _ h).sq
  have r' := r.le le
  refine ⟨fun e => ?_, fun d e => ?_⟩
  · have e' : ds[i]? = none := Option.some.inj e
    exact ⟨vs, h', by rw [r.length]; exact List.getElem?_eq_none_iff.mp e'⟩
  · have e' : ds[i]? = some d := Option.some.inj e
    obtain ⟨v, hv, rv⟩ := r'.get e'
    refine ⟨⟨vs, v, h', hv⟩, fun x H' y => ?_⟩
    obtain ⟨rfl, y⟩ := y
    have q := y vs h'
    rw [hv] at q
    cases q
    exact ⟨.refl b.rs, rv⟩
theorem rel_lst {K : Kx} {H0 : Hp} {S0 : Sto} {a : Addr} : ItRel K H0 S0 (listI a) (Itl K.k a) := by
  intro M i H S b le
  unfold listI
  cases e0 : S a with
  | none => exact ⟨fun e => by simp at e, fun d e => by simp at e⟩
  | some o =>
    cases o with
    | lst xs =>
      obtain ⟨vs, h1, h2⟩ := b.rs.ob a _ e0
      have h' : SqL K.k H a vs := .of h1
      refine ⟨fun e => ?_, fun d e => ?_⟩
      · have e' : xs[i]? = none := Option.some.inj e
        exact ⟨vs, h', by rw [h2.length]; exact List.getElem?_eq_none_iff.mp e'⟩
      · have e' : xs[i]? = some d := Option.some.inj e
        obtain ⟨v, hv, rv⟩ := h2.get e'
        refine ⟨⟨vs, v, h', hv⟩, fun x H' y => ?_⟩
        obtain ⟨rfl, y⟩ := y
        have q := y vs h'
        rw [hv] at q
        cases q
        exact ⟨.refl b.rs, rv⟩
    | _ => exact ⟨fun e => by simp at e, fun d e => by simp at e⟩
/-- a tuple is walked -/
def iTupD (te : TDE) : TDI := fun δ S R => te δ S fun x S1 => ∃ ds, (x = .tup ds ∨ x = .wt ds) ∧ R (seqI ds) S1
theorem di_tup (he : PE X e (lE X.K te)) : PI X tg e (lI X.K (iTupD te)) :=
  PI.wk (pi_tup he) fun σ H R ⟨N, δ, S, R', re, rs, q, kk⟩ => by
    refine ⟨N, δ, S, _, re, rs, q, fun x S1 v H1 b1 rv q1 => ?_⟩
    obtain ⟨ds, (rfl | rfl), q1⟩ := q1
    · obtain ⟨a, vs, rfl, sq, r⟩ := rv.tup_
      exact ⟨a, rfl, ⟨vs, .of sq⟩, kk _ S1 _ H1 b1 (rel_tup b1.rs (fun H f => .of (f _ sq)) r) q1⟩
    · obtain ⟨a, vs, rfl, sq, r⟩ := rv.wt_
      exact ⟨a, rfl, ⟨vs, .inr sq⟩, kk _ S1 _ H1 b1 (rel_tup b1.rs (fun H f => .inr sq) r) q1⟩
/-- a list is walked: a frozen one, one as it stands, one that is frozen by being walked -/
def iLstD (te : TDE) : TDI := fun δ S R => te δ S fun x S1 => (∃ ds, x = .fl ds ∧ R (seqI ds) S1) ∨ ∃ a ds, x = .ref a ∧ S1 a = some (.lst ds) ∧ (R (listI a) S1 ∨ R (seqI ds) (del S1 a))
theorem di_lst (he : PE X e (lE X.K te)) : PI X tg e (lI X.K (iLstD te)) :=
  PI.wk (pi_list he) fun σ H R ⟨N, δ, S, R', re, rs, q, kk⟩ => by
    refine ⟨N, δ, S, _, re, rs, q, fun x S1 v H1 b1 rv q1 => ?_⟩
    rcases q1 with ⟨ds, rfl, q1⟩ | ⟨a, ds, rfl, e, q1⟩
    · obtain ⟨a, vs, rfl, fz, r⟩ := rv.fl_
      exact ⟨a, rfl, ⟨vs, fz.sq⟩, kk _ S1 _ H1 b1 (rel_fl b1.rs fz r) q1⟩
    · have := rv.at_
      subst this
      obtain ⟨vs, h1, h2⟩ := b1.rs.ob a _ e
      refine ⟨a, rfl, ⟨vs, .of h1⟩, ?_⟩
      rcases q1 with q1 | q1
      · exact kk _ S1 _ H1 b1 rel_lst q1
      · have su : Sub (del S1 a) S1 := fun b o z => by
          by_cases hb : b = a
          · subst hb; rw [del_same] at z; cases z
          · rw [del_ne hb] at z; exact z
        have b2 : Bh ⟨X.K, N⟩ H S H1 (del S1 a) := ⟨b1.fr.sub su, b1.rs.sub su⟩
        exact kk _ _ _ H1 b2 (rel_fl b2.rs (.inl ⟨.inl h1, del_same, b1.rs.kn e⟩) (h2.le su.le)) q1
def rangeI (lo : Int) (n : Nat) : ItD := fun i _ => some (if i < n then some (.int (lo + i)) else none)
theorem rel_range {K : Kx} {H0 : Hp} {S0 : Sto} {lo : Int} {n : Nat} : ItRel K H0 S0 (rangeI lo n) (Itr lo n) := by
  intro M i H S b le
  unfold rangeI
  refine ⟨fun e => ?_, fun d e => ?_⟩
  · show n ≤ i
    by_cases h : i < n
    · rw [if_pos h] at e; cases e
    · omega
  · by_cases h : i < n
    · rw [if_pos h] at e
      cases e
      refine ⟨h, fun x H' y => ?_⟩
      obtain ⟨rfl, rfl⟩ := y
      exact ⟨.refl b.rs, .of _⟩
    · rw [if_neg h] at e; cases e
def iRange1 (t : TDA) : TDI := fun δ S R => t δ S fun ds S1 => ∃ j : Int, ds = [.int j] ∧ -(2 ^ 62) ≤ j ∧ j < 2 ^ 62 ∧ R (rangeI 0 j.toNat) S1
theorem RDs.one {K : Kx} {H : Hp} {S : Sto} {vs : List V} {u : V} (r : RDs K H S vs [.at u]) : vs = [u] := RDs.atoms (us := [u]) r
theorem RDs.two {K : Kx} {H : Hp} {S : Sto} {vs : List V} {u w : V} (r : RDs K H S vs [.at u, .at w]) : vs = [u, w] := RDs.atoms (us := [u, w]) r
theorem di_range1 {a : Expr} {ta : TDA} (hg : Gl X "range") (hm : X.mg "range" = none) (ha : PA X [a] (lA X.K ta)) (hs : starEach [a] X.env = [(false, eval a X.env)] := by rfl) : PI X tg (.Call (.Name "range" p) [a] [] pos) (lI X.K (iRange1 ta)) :=
  PI.wk (pi_range1 hg hm ha hs) fun σ H R ⟨N, δ, S, R', re, rs, q, kk⟩ => by
    refine ⟨N, δ, S, _, re, rs, q, fun ds S1 vs H1 b1 rv q1 => ?_⟩
    obtain ⟨j, rfl, h1, h2, q1⟩ := q1
    exact ⟨j, rv.one, h1, h2, kk _ S1 _ H1 b1 rel_range q1⟩
def iRange2 (t : TDA) : TDI := fun δ S R => t δ S fun ds S1 => ∃ i j : Int, ds = [.int i, .int j] ∧ (-(2 ^ 62) ≤ i ∧ i < 2 ^ 62 ∧ -(2 ^ 62) ≤ j ∧ j < 2 ^ 62) ∧ R (rangeI i (j - i).toNat) S1
theorem di_range2 {a b : Expr} {ta : TDA} (hg : Gl X "range") (hm : X.mg "range" = none) (ha : PA X [a, b] (lA X.K ta)) (hs : starEach [a, b] X.env = [(false, eval a X.env), (false, eval b X.env)] := by rfl) (hs2 : starEach [b] X.env = [(false, eval b X.env)] := by rfl) :
    PI X tg (.Call (.Name "range" p) [a, b] [] pos) (lI X.K (iRange2 ta)) :=
  PI.wk (pi_range2 hg hm ha hs hs2) fun σ H R ⟨N, δ, S, R', re, rs, q, kk⟩ => by
    refine ⟨N, δ, S, _, re, rs, q, fun ds S1 vs H1 b1 rv q1 => ?_⟩
    obtain ⟨i, j, rfl, h1, q1⟩ := q1
    exact ⟨i, j, rv.two, h1, kk _ S1 _ H1 b1 rel_range q1⟩
end

/-! ### for, comprehensions -/
section
variable {X : Cx}
def dFor (wi : TDI) (g : TDG) (tb : TDS) : TDS := fun D δ S => wi δ S fun J S1 => ∃ (W : Nat → DSt → Sto → Prop) (n : Nat), W 0 δ S1 ∧ ∀ i δ S, W i δ S → ∃ r, J i S = some r ∧ (r = none → D.nx δ S) ∧
  ∀ x, r = some x → i < n ∧ g x δ S fun δ2 S2 => tb { D with nx := W (i + 1), ct := W (i + 1), bk := D.nx } δ2 S2
theorem ds_for {tg iter : Expr} {body : List Stmt} {wi : TDI} {g : TDG} {tb : TDS} {pos : Pos} (hp : PassesOwn (model X.prog X.w) X.A X.env X.xe) (hc : X.calm = true) (hi : PI X tg iter (lI X.K wi)) (hg : PG X tg (lG X.K g)) (hb : PSs X body (lS X.K tb))
    (hs : ∀ x, foldedSetIterable iter X.env x = pure x := by intro _; rfl) : PS X (.For tg iter body [] pos) (lS X.K (dFor wi g tb)) :=
  PS.wk (ps_for hp hc hi hg hb hs) fun D σ H ⟨N, δ, S, D', re, rs, q, l⟩ => by
    refine ⟨N, δ, S, _, re, rs, q, fun J S1 Jv H1 b1 rel q1 => ?_⟩
    obtain ⟨W, n, w0, turn⟩ := q1
    refine ⟨fun i m σ2 H2 => ∃ δ2 S2, m = n - i ∧ W i δ2 S2 ∧ RE ⟨X.K, N⟩ H2 S2 σ2 δ2 ∧ Bh ⟨X.K, N⟩ H1 S1 H2 S2, ⟨n, δ, S1, rfl, w0, re.le (rs.le b1.fr), .refl b1.rs⟩, ?_⟩
    rintro i m σ2 H2 ⟨δ2, S2, rfl, w2, re2, b2⟩
    obtain ⟨r, hr, hn, hgo⟩ := turn i δ2 S2 w2
    obtain ⟨r1, r2⟩ := rel N i H2 S2 b2 (b1.rs.le b2.fr)
    cases r with
    | none => exact .inl ⟨r1 hr, l.nx _ _ _ _ (b1.trans b2) re2 (hn rfl)⟩
    | some x =>
      obtain ⟨hlt, hgx⟩ := hgo x rfl
      obtain ⟨go, yl⟩ := r2 x hr
      refine .inr ⟨go, fun σ' H' => ∃ δ' S', W (i + 1) δ' S' ∧ RE ⟨X.K, N⟩ H' S' σ' δ' ∧ Bh ⟨X.K, N⟩ H1 S1 H' S', fun σ' H' ⟨δ', S', h1, h2, h3⟩ => ⟨n - (i + 1), by omega, δ', S', rfl, h1, h2, h3⟩, fun v H3 y => ?_⟩
      obtain ⟨b3, rv⟩ := yl v H3 y
      have b13 := b2.trans b3
      refine ⟨N, x, δ2, S2, _, rv, re2.le (b2.rs.le b3.fr), b3.rs, hgx, fun δ4 S4 σ4 H4 b4 re4 q4 => ?_⟩
      have b14 := b13.trans b4
      refine ⟨N, δ4, S4, _, re4, b4.rs, q4, ⟨?_, ?_, ?_, ?_⟩⟩
      · intro δ5 S5 σ5 H5 b5 re5 w5; exact ⟨δ5, S5, w5, re5, b14.trans b5⟩
      · intro d S5 v5 H5 b5 r5 w5; exact l.rt _ _ _ _ (b1.trans (b14.trans b5)) r5 w5
      · intro δ5 S5 σ5 H5 b5 re5 w5; exact l.nx _ _ _ _ (b1.trans (b14.trans b5)) re5 w5
      · intro δ5 S5 σ5 H5 b5 re5 w5; exact ⟨δ5, S5, w5, re5, b14.trans b5⟩
/-- over items that stand: Pv by the turn -/
theorem for_seq {ds : List D} {J : ItD} {g : TDG} {tb : TDS} {D : DEnds} {δ : DSt} {S : Sto} (Pv : Nat → DSt → Sto → Prop) (h0 : Pv 0 δ S) (hJ : ∀ i δ S, Pv i δ S → J i S = some ds[i]?)
    (hs : ∀ i x δ S, ds[i]? = some x → Pv i δ S → g x δ S fun δ2 S2 => tb { D with nx := Pv (i + 1), ct := Pv (i + 1), bk := D.nx } δ2 S2) (hd : ∀ i δ S, ds.length ≤ i → Pv i δ S → D.nx δ S) :
    ∃ (W : Nat → DSt → Sto → Prop) (n : Nat), W 0 δ S ∧ ∀ i δ S, W i δ S → ∃ r, J i S = some r ∧ (r = none → D.nx δ S) ∧
      ∀ x, r = some x → i < n ∧ g x δ S fun δ2 S2 => tb { D with nx := W (i + 1), ct := W (i + 1), bk := D.nx } δ2 S2 := by
  refine ⟨Pv, ds.length, h0, fun i δ S p => ⟨ds[i]?, hJ i δ S p, fun e => hd i δ S (List.getElem?_eq_none_iff.mp e) p, fun x e => ⟨(List.getElem?_eq_some_iff.mp e).1, hs i x δ S e p⟩⟩⟩
theorem for_rng {lo : Int} {n : Nat} {g : TDG} {tb : TDS} {D : DEnds} {δ : DSt} {S : Sto} (Pv : Nat → DSt → Sto → Prop) (h0 : Pv 0 δ S)
    (hs : ∀ i δ S, i < n → Pv i δ S → g (.int (lo + i)) δ S fun δ2 S2 => tb { D with nx := Pv (i + 1), ct := Pv (i + 1), bk := D.nx } δ2 S2) (hd : ∀ i δ S, n ≤ i → Pv i δ S → D.nx δ S) :
    ∃ (W : Nat → DSt → Sto → Prop) (m : Nat), W 0 δ S ∧ ∀ i δ S, W i δ S → ∃ r, (rangeI lo n) i S = some r ∧ (r = none → D.nx δ S) ∧
      ∀ x, r = some x → i < m ∧ g x δ S fun δ2 S2 => tb { D with nx := W (i + 1), ct := W (i + 1), bk := D.nx } δ2 S2 := by
  refine ⟨Pv, n, h0, fun i δ S p => ?_⟩
  unfold rangeI
  by_cases h : i < n
  · rw [if_pos h]
    exact ⟨_, rfl, (fun e => nomatch e), fun x e => by cases e; exact ⟨h, hs i δ S h p⟩⟩
  · rw [if_neg h]
    exact ⟨_, rfl, (fun _ => hd i δ S (by omega) p), fun x e => nomatch e⟩
/-- the own names of a block are forgotten -/
def wipeD (δ : DSt) : List Nat → DSt
  | [] => δ
  | v :: vs => (wipeD δ vs).set v none
theorem re_wipe {K : Kx} {H : Hp} {S : Sto} {σ : L2.St} {δ : DSt} (r : RE K H S σ δ) : ∀ vs, RE K H S (wipe σ vs) (wipeD δ vs)
  | [] => r
  | v :: vs => by
    obtain ⟨h1, h2⟩ := re_wipe r vs
    refine ⟨by simp [wipe, wipeD, h1], fun i d e => ?_⟩
    unfold wipeD at e
    by_cases hi : v = i
    · subst hi
      by_cases hl : v < (wipeD δ vs).length
      · rw [List.getElem?_set_self hl] at e; cases e
      · rw [List.getElem?_eq_none (by simp; omega)] at e; cases e
    · rw [List.getElem?_set_ne hi] at e
      unfold wipe
      rw [List.getElem?_set_ne hi]
      exact h2 i d e
theorem wipe_set {σ : L2.St} {i : Nat} {o : Option V} : ∀ {vs : List Nat}, i ∈ vs → wipe (σ.set i o) vs = wipe σ vs
  | v :: vs, h => by
    unfold wipe
    by_cases e : i ∈ vs
    · rw [wipe_set e]
    · have e' : i = v := (List.mem_cons.mp h).resolve_right e
      subst e'
      have : ∀ (ws : List Nat), i ∉ ws → wipe (σ.set i o) ws = (wipe σ ws).set i o := by
        intro ws
        induction ws with
        | nil => intro _; rfl
        | cons w ws ih =>
          intro hw
          have h1 : i ≠ w := fun z => hw (z ▸ List.mem_cons_self)
          have h2 : i ∉ ws := fun z => hw (List.mem_cons_of_mem _ z)
          unfold wipe
          rw [ih h2, List.set_comm _ _ h1]
      rw [this vs e, List.set_set]
theorem wipe_wipe (σ : L2.St) : ∀ vs : List Nat, wipe (wipe σ vs) vs = wipe σ vs
  | [] => rfl
  | v :: vs => by
    have h : wipe ((wipe σ vs).set v none) (v :: vs) = wipe (wipe σ vs) (v :: vs) := wipe_set List.mem_cons_self
    show wipe ((wipe σ vs).set v none) (v :: vs) = (wipe σ vs).set v none
    rw [h]
    show (wipe (wipe σ vs) vs).set v none = _
    rw [wipe_wipe σ vs]
/-- a block's target: below, over data; the other names stay -/
def TgC (K : Kx) (vs : List Nat) (gv : TG) (g : TDG) : Prop := ∀ (v : V) (d : DL.D) (σ : L2.St) (δ : DSt) (H : Hp) (S : Sto) (Q : DSt → Sto → Prop) (R : L2.St → Hp → Prop), RD K H S v d → RE K H S σ δ → RS K H S → g d δ S Q →
  (∀ σ' H' δ' S', wipe σ' vs = wipe σ vs → Bh K H S H' S' → RE K H' S' σ' δ' → Q δ' S' → R σ' H') → gv v σ H R
def TgCs (K : Kx) (vs : List Nat) (gv : TGs) (g : TDGs) : Prop := ∀ (us : List V) (ds : List DL.D) (σ : L2.St) (δ : DSt) (H : Hp) (S : Sto) (Q : DSt → Sto → Prop) (R : L2.St → Hp → Prop), RDs K H S us ds → RE K H S σ δ → RS K H S → g ds δ S Q →
  (∀ σ' H' δ' S', wipe σ' vs = wipe σ vs → Bh K H S H' S' → RE K H' S' σ' δ' → Q δ' S' → R σ' H') → gv us σ H R
theorem tg_name {K : Kx} {vs : List Nat} {i : Nat} (h : i ∈ vs) : TgC K vs (gName i) (gdName i) := fun v d σ δ H S Q R rd re rs q k => k _ _ _ S (wipe_set h) (.refl rs) (re.set rd i) q
theorem tgs_nil {K : Kx} {vs : List Nat} : TgCs K vs gNil gdNil := fun us ds σ δ H S Q R rd re rs q k => by
  obtain ⟨rfl, q⟩ := q
  exact ⟨rd.inv_nil, k _ _ δ S rfl (.refl rs) re q⟩
/-- a name, then others -/
theorem tgs_cons {K : Kx} {vs : List Nat} {i : Nat} {gv : TGs} {g : TDGs} (h : i ∈ vs) (k : TgCs K vs gv g) : TgCs K vs (gCons (gName i) gv) (gdCons (gdName i) g) := fun us ds σ δ H S Q R rd re rs q kk => by
  obtain ⟨d, r, rfl, q⟩ := q
  obtain ⟨v, ws, rfl, r1, r2⟩ := rd.inv_cons
  exact ⟨v, ws, rfl, k ws r (σ.set i (some v)) (δ.set i (some d)) H S Q R r2 (re.set r1 i) rs q fun σ' H' δ' S' e => kk σ' H' δ' S' (e.trans (wipe_set h))⟩
theorem tg_tup {Kf : PySem.W.Frag} {N : Addr → Prop} {vs : List Nat} {n : Nat} {gv : TGs} {g : TDGs} (k : TgCs ⟨Kf, N⟩ vs gv g) : TgC ⟨Kf, N⟩ vs (gTup Kf n gv) (gdTup n g) := fun v d σ δ H S Q R rd re rs q kk => by
  obtain ⟨ds, rfl, hl, q⟩ := q
  obtain ⟨a, us, rfl, sq, rv⟩ := rd.tup_
  exact ⟨a, us, rfl, .of sq, by rw [rv.length, hl], k us ds σ δ H S Q R rv re rs q kk⟩
/-- [e for x in .. if ..]: W by the turn, what is made so far, the store; nobody will change the new list -/
def dLc (wi : TDI) (g : TDG) (tt : TDT) (te : TDE) (vs : List Nat) : TDE := fun δ S Q => wi δ S fun J S1 => ∃ (W : Nat → List DL.D → Sto → Prop) (n : Nat), W 0 [] S1 ∧ ∀ i acc S2, W i acc S2 → ∃ r, J i S2 = some r ∧
  (r = none → Q (.fl acc) S2) ∧
  ∀ x, r = some x → i < n ∧ acc.length < sizeLine ∧ g x (wipeD δ vs) S2 fun δ2 S3 => tt δ2 S3 fun b S4 =>
    if b = true then te δ2 S4 fun y S5 => W (i + 1) (acc ++ [y]) S5 else W (i + 1) acc S4
theorem lift_lc {K : PySem.W.Frag} {wi : TDI} {gv : TG} {g : TDG} {tt : TDT} {te : TDE} (own : List (Str × Nat)) (hgd : ∀ N, TgC ⟨K, N⟩ (own.map (·.2)) gv g) {σ : L2.St} {H : Hp} {Q : VK} (h : lE K (dLc wi g tt te (own.map (·.2))) σ H Q) : tLc (lI K wi) gv (lT K tt) (lE K te) (own.map (·.2)) σ H Q := by
  obtain ⟨N, δ, S, Q', re, rs, q, kk⟩ := h
  refine ⟨N, δ, S, _, re, rs, q, fun J S1 Jv H1 b1 rel q1 A hA => ?_⟩
  obtain ⟨W, n, w0, turn⟩ := q1
  have re1 := re.le (rs.le b1.fr)
  have nA := b1.rs.nhid hA
  have sA := b1.rs.free hA
  obtain ⟨M, hM⟩ : ∃ M : Addr → Prop, M = fun a => N a ∨ a = A := ⟨_, rfl⟩
  -- the new list is hidden while it is made
  obtain ⟨rsA, frA, leA⟩ := b1.rs.laid (o := .lst []) hA
  have leM : ∀ {H2 : Hp} {S2 : Sto}, TupLe ⟨K, M⟩ H2 S2 ⟨K, N⟩ H2 S2 := fun {H2 S2} => ⟨fun a xs z => z, fun _ _ z => z, fun a xs z => z.elim (fun ⟨z1, z2, z3⟩ => .inl ⟨z1, z2, fun hn => z3 (by rw [hM]; exact .inl hn)⟩) .inr⟩
  have leN : TupLe ⟨K, N⟩ H1 S1 ⟨K, M⟩ (upd H1 A (.lst [])) S1 := by
    refine ⟨leA.t, fun _ _ z => z, fun a xs z => ?_⟩
    rcases z with ⟨z1, z2, z3⟩ | z
    · have ne : a ≠ A := fun e => by subst e; rcases z1 with z1 | ⟨o, z1⟩ <;> (rw [hA] at z1; cases z1)
      refine .inl ⟨?_, z2, fun hm => ?_⟩
      · rcases z1 with z1 | ⟨o, z1⟩
        · exact .inl (by rw [upd_ne ne]; exact z1)
        · exact .inr ⟨o, by rw [upd_ne ne]; exact z1⟩
      · rw [hM] at hm; exact hm.elim z3 ne
    · exact .inr z
  have bM : Bh ⟨K, M⟩ H1 S1 (upd H1 A (.lst [])) S1 := by
    refine ⟨frA, fun a o e => ?_, fun a ha => ?_, fun a ha => ?_⟩
    · have ne : a ≠ A := fun z => by subst z; rw [sA] at e; cases e
      exact (b1.rs.ob a o e).le leN (upd_ne ne)
    · rw [hM] at ha
      rcases ha with ha | ha
      · exact hid_upd b1.rs.hid a ha
      · exact ⟨_, by rw [ha]; exact upd_same⟩
    · rw [hM] at ha
      rcases ha with ha | ha
      · exact b1.rs.hidS a ha
      · rw [ha]; exact sA
  -- what a turn leaves: seen without the new list
  have toN : ∀ {H2 : Hp} {S2 : Sto}, Bh ⟨K, M⟩ H1 S1 H2 S2 → Bh ⟨K, N⟩ H1 S1 H2 S2 := fun {H2 S2} b => ⟨b.fr, fun a o e => (b.rs.ob a o e).le leM rfl, fun a ha => b.rs.hid a (by show M a; rw [hM]; exact .inl ha), fun a ha => b.rs.hidS a (by show M a; rw [hM]; exact .inl ha)⟩
  have reM : RE ⟨K, M⟩ (upd H1 A (.lst [])) S1 σ δ := re1.le leN
  refine ⟨fun i m H2 => ∃ acc S2 vs, m = n - i ∧ W i acc S2 ∧ (Bh ⟨K, M⟩ H1 S1 H2 S2 ∧ TupLe ⟨K, N⟩ H1 S1 ⟨K, M⟩ H2 S2) ∧ RE ⟨K, M⟩ H2 S2 σ δ ∧ H2 A = some (.lst vs) ∧ S2 A = none ∧ RDs ⟨K, M⟩ H2 S2 vs acc, ⟨n, [], S1, [], rfl, w0, ⟨bM, leN⟩, reM, upd_same, sA, .nil⟩, ?_⟩
  rintro i m H2 ⟨acc, S2, us, rfl, w2, ⟨b2, l2⟩, re2, hA2, sA2, ra⟩
  obtain ⟨r, hr, hn, hgo⟩ := turn i acc S2 w2
  obtain ⟨r1, r2⟩ := rel M i H2 S2 b2 l2
  cases r with
  | none =>
    refine .inl ⟨r1 hr, ?_⟩
    exact kk _ S2 _ H2 (b1.trans (toN b2)) (.of_fl (.inl ⟨.inl hA2, sA2, nA⟩) (ra.le leM)) (hn rfl)
  | some x =>
    obtain ⟨hlt, hsz, hgx⟩ := hgo x rfl
    obtain ⟨go, yl⟩ := r2 x hr
    refine .inr ⟨go, fun H' => ∃ acc' S' vs', W (i + 1) acc' S' ∧ (Bh ⟨K, M⟩ H1 S1 H' S' ∧ TupLe ⟨K, N⟩ H1 S1 ⟨K, M⟩ H' S') ∧ RE ⟨K, M⟩ H' S' σ δ ∧ H' A = some (.lst vs') ∧ S' A = none ∧ RDs ⟨K, M⟩ H' S' vs' acc', fun H' ⟨a', S', v', h1, h2, h3, h4, h5, h6⟩ => ⟨n - (i + 1), by omega, a', S', v', rfl, h1, h2, h3, h4, h5, h6⟩, fun v H3 y => ?_⟩
    obtain ⟨b3, rv⟩ := yl v H3 y
    have le3 := b2.rs.le b3.fr
    have fin : ∀ {H' : Hp} {S' : Sto}, Bh ⟨K, M⟩ H2 S2 H' S' → H' A = some (.lst us) ∧ S' A = none := fun {H' S'} b => b.fr A _ hA2 sA2
    -- a turn that adds nothing
    have skip : ∀ {H' : Hp} {S' : Sto}, Bh ⟨K, M⟩ H2 S2 H' S' → W (i + 1) acc S' → ∃ acc' S' vs', W (i + 1) acc' S' ∧ (Bh ⟨K, M⟩ H1 S1 H' S' ∧ TupLe ⟨K, N⟩ H1 S1 ⟨K, M⟩ H' S') ∧ RE ⟨K, M⟩ H' S' σ δ ∧ H' A = some (.lst vs') ∧ S' A = none ∧ RDs ⟨K, M⟩ H' S' vs' acc' := fun {H' S'} b w =>
      have le := b2.rs.le b.fr
      ⟨acc, S', us, w, ⟨b2.trans b, l2.trans le⟩, re2.le le, (fin b).1, (fin b).2, ra.le le⟩
    refine hgd M v x (wipe σ (own.map (·.2))) (wipeD δ (own.map (·.2))) H3 S2 _ _ rv (re_wipe (re2.le le3) _) b3.rs hgx fun σ4 H4 δ4 S4 e4 b4 re4 q4 => ?_
    refine ⟨e4.trans (wipe_wipe _ _), ?_⟩
    have b24 := b3.trans b4
    refine ⟨M, δ4, S4, _, re4, b4.rs, q4, fun c S5 H5 b5 q5 => ?_⟩
    have b25 := b24.trans b5
    cases c with
    | false =>
      rw [if_neg Bool.false_ne_true] at q5
      exact iteF (skip b25 q5)
    | true =>
      rw [if_pos rfl] at q5
      refine iteT ⟨M, δ4, S5, _, re4.le (b4.rs.le b5.fr), b5.rs, q5, fun y S6 u H6 b6 r6 q6 => ?_⟩
      have b26 := b25.trans b6
      obtain ⟨hA6, sA6⟩ := fin b26
      have le6 := b2.rs.le b26.fr
      refine ⟨us, hA6, by rw [ra.length]; exact hsz, ?_⟩
      have le7 : TupLe ⟨K, M⟩ H6 S6 ⟨K, M⟩ (upd H6 A (.lst (us ++ [u]))) S6 := by
        refine ⟨fun a xs z => ?_, fun _ _ z => z, fun a xs z => ?_⟩
        · rw [upd_ne (ne_of z hA6 (by intro w; cases w))]; exact z
        · rcases z with ⟨z1, z2, z3⟩ | z
          · have ne : a ≠ A := fun e => z3 (by show M a; rw [hM]; exact .inr e)
            refine .inl ⟨?_, z2, z3⟩
            rcases z1 with z1 | ⟨o, z1⟩
            · exact .inl (by rw [upd_ne ne]; exact z1)
            · exact .inr ⟨o, by rw [upd_ne ne]; exact z1⟩
          · exact .inr z
      have bb := b2.trans b26
      refine ⟨acc ++ [y], S6, us ++ [u], q6, ⟨⟨fun a o e n => ?_, fun a o e => ?_, fun a ha => hid_upd bb.rs.hid a ha, bb.rs.hidS⟩, (l2.trans le6).trans le7⟩, (re2.le le6).le le7, upd_same, sA6, ((ra.le le6).append (.cons r6 .nil)).le le7⟩
      · obtain ⟨z1, z2⟩ := bb.fr a o e n
        exact ⟨by rw [upd_ne (ne_of_none e hA)]; exact z1, z2⟩
      · have ne : a ≠ A := fun z => by subst z; rw [sA6] at e; cases e
        exact (bb.rs.ob a o e).le le7 (upd_ne ne)
theorem de_lc {elt tg iter : Expr} {ifs : List Expr} {scope : Scope} {pos : Pos} {wi : TDI} {gv : TG} {g : TDG} {tt : TDT} {te : TDE} (own : List (Str × Nat)) (hc : X.calm = true) (hN : X.N.Nodup) (hi : PI X tg iter (lI X.K wi)) (ok : BlkOk X.N X.env.scope scope own)
    (hg : ∀ (s : Shared) (H : Hp) (C : Addr) (cl : List (Str × Addr)) (fp : List Addr), PG (X.blk s H scope (compEnvC scope cl C X.env) fp) tg gv) (hgd : ∀ N, TgC ⟨X.K, N⟩ (own.map (·.2)) gv g) (ht : ∀ (s : Shared) (H : Hp) (C : Addr) (cl : List (Str × Addr)) (fp : List Addr), PTs (X.blk s H scope (compEnvC scope cl C X.env) fp) ifs (lT X.K tt))
    (he : ∀ (s : Shared) (H : Hp) (C : Addr) (cl : List (Str × Addr)) (fp : List Addr), PE (X.blk s H scope (compEnvC scope cl C X.env) fp) elt (lE X.K te)) (hs : ∀ x, foldedSetIterable iter X.env x = pure x := by intro _; rfl) :
    PE X (.ListComp elt [⟨tg, iter, ifs, 0⟩] scope pos) (lE X.K (dLc wi g tt te (own.map (·.2)))) := PE.wk (pe_lc hc hN hi ok hg ht he hs) fun σ H Q h => lift_lc own hgd h
/-- name = [..] -/
theorem ds_setLc (i : Nat) {y : Str} {py spos : Pos} {elt tg iter : Expr} {ifs : List Expr} {scope : Scope} {pos : Pos} {wi : TDI} {gv : TG} {g : TDG} {tt : TDT} {te : TDE} (own : List (Str × Nat)) (hc : X.calm = true) (hN : X.N.Nodup) (hi : PI X tg iter (lI X.K wi)) (ok : BlkOk X.N X.env.scope scope own)
    (hg : ∀ (s : Shared) (H : Hp) (C : Addr) (cl : List (Str × Addr)) (fp : List Addr), PG (X.blk s H scope (compEnvC scope cl C X.env) fp) tg gv) (hgd : ∀ N, TgC ⟨X.K, N⟩ (own.map (·.2)) gv g) (ht : ∀ (s : Shared) (H : Hp) (C : Addr) (cl : List (Str × Addr)) (fp : List Addr), PTs (X.blk s H scope (compEnvC scope cl C X.env) fp) ifs (lT X.K tt))
    (he : ∀ (s : Shared) (H : Hp) (C : Addr) (cl : List (Str × Addr)) (fp : List Addr), PE (X.blk s H scope (compEnvC scope cl C X.env) fp) elt (lE X.K te)) (hs : ∀ x, foldedSetIterable iter X.env x = pure x := by intro _; rfl)
    (hy : X.N[i]? = some y := by rfl) (hyl : X.env.scope.names.lookup y = some .local := by rfl) (hsw : swapsWith (.ListComp elt [⟨tg, iter, ifs, 0⟩] scope pos) (some (.Name y py)) spos.line X.env = pure true := by exact sw_true rfl rfl rfl (by decide +kernel)) :
    PS X (.Assign [.Name y py] (.ListComp elt [⟨tg, iter, ifs, 0⟩] scope pos) spos) (lS X.K (dAsg (dLc wi g tt te (own.map (·.2))) (gdName i))) :=
  PS.wk (ps_setLc hc hN hy hyl hsw hi ok hg ht he hs) fun D σ H ⟨N, δ, S, D', re, rs, q, l⟩ => lift_lc own hgd ⟨N, δ, S, _, re, rs, q, fun d S1 v H1 b1 r1 q1 => l.nx _ S1 _ H1 b1 ((re.le (rs.le b1.fr)).set r1 i) q1⟩
def dYes : TDT := fun _ S Q => Q true S
theorem dts_nil : PTs X [] (lT X.K dYes) := ⟨fun pins s σ H Q I ⟨N, δ, S, Q', re, rs, q, k⟩ => pts_nil.run pins s σ H Q I (k _ S H (.refl rs) q)⟩
end
end DL

/-! Data layer, fourth part: operators, comparisons, subscripts, built-ins over data. -/
namespace DL
open PySem L2 PyProof.Rows

theorem ofString_inj {a b : String} : (Str.ofString a = Str.ofString b) ↔ a = b := by
  constructor
  · intro h
    rw [Str.ofString_eq_toList, Str.ofString_eq_toList] at h
    have h1 : a.toList.map Char.toNat = b.toList.map Char.toNat := by
      have := congrArg Str.cps h
      simpa using this
    have h2 : ∀ (l m : List Char), l.map Char.toNat = m.map Char.toNat → l = m := by
      intro l
      induction l with
      | nil => intro m e; cases m with
        | nil => rfl
        | cons _ _ => simp at e
      | cons x xs ih => intro m e; cases m with
        | nil => simp at e
        | cons y ys =>
          simp only [List.map_cons, List.cons.injEq] at e
          rw [ih ys e.2, Char.ext (UInt32.toNat_inj.mp e.1)]
    exact String.ext (h2 _ _ h1)
  · intro h; rw [h]

/-! ### lists, whatever way they stand -/
/-- the items of a list: a frozen one, or one of the store -/
def lsOf (S : Sto) : D → Option (List D)
  | .fl xs => some xs
  | .at (.ref a) => match S a with
    | some (.lst xs) => some xs
    | _ => none
  | _ => none
/-- of a list or a tuple -/
def sqOf (S : Sto) : D → Option (List D)
  | .tup xs => some xs
  | .wt xs => some xs
  | d => lsOf S d
section
variable {K : Kx} {H H' : Hp} {S S' : Sto}
theorem ls_sq {v : V} {d : D} {xs : List D} (rs : RS K H S) (r : RD K H S v d) (h : lsOf S d = some xs) : ∃ a vs, v = .ref a ∧ SqL K.k H a vs ∧ RDs K H S vs xs := by
  unfold lsOf at h
  split at h
  · cases h
    obtain ⟨a, vs, rfl, fz, rv⟩ := r.fl_
    exact ⟨a, vs, rfl, fz.sq, rv⟩
  · rename_i a
    split at h
    · rename_i ys e
      cases h
      obtain ⟨vs, h1, h2⟩ := rs.ob a _ e
      exact ⟨a, vs, r.at_, .of h1, h2⟩
    · cases h
  · cases h
theorem sq_sq {v : V} {d : D} {xs : List D} (rs : RS K H S) (r : RD K H S v d) (h : sqOf S d = some xs) : ∃ a vs, v = .ref a ∧ (SqL K.k H a vs ∨ SqT K.k H a vs) ∧ RDs K H S vs xs := by
  cases d with
  | tup ds =>
    cases h
    obtain ⟨a, vs, rfl, t, rv⟩ := r.tup_
    exact ⟨a, vs, rfl, .inr (.of t), rv⟩
  | wt ds =>
    cases h
    obtain ⟨a, vs, rfl, t, rv⟩ := r.wt_
    exact ⟨a, vs, rfl, .inr (.inr t), rv⟩
  | «at» u =>
    obtain ⟨a, vs, e, q, rv⟩ := ls_sq rs r (show lsOf S (.at u) = some xs from h)
    exact ⟨a, vs, e, .inl q, rv⟩
  | fl ds =>
    obtain ⟨a, vs, e, q, rv⟩ := ls_sq rs r (show lsOf S (.fl ds) = some xs from h)
    exact ⟨a, vs, e, .inl q, rv⟩
end

/-! ### data as such -/
mutual
def toPy : D → PyData
  | .at .non => .none
  | .at (.bl b) => .bool b
  | .at (.int i) => .int i
  | .at (.str s) => .str s
  | .at _ => .dict []
  | .tup l => .tuple (toPys l)
  | .wt l => .tuple (toPys l)
  | .fl l => .list (toPys l)
def toPys : List D → List PyData
  | [] => []
  | d :: ds => toPy d :: toPys ds
end
mutual
/-- data without anything that may change -/
def pur : D → Bool
  | .at .non => true
  | .at (.bl _) => true
  | .at (.int _) => true
  | .at (.str _) => true
  | .at _ => false
  | .tup l => purs l
  | .wt l => purs l
  | .fl l => purs l
def purs : List D → Bool
  | [] => true
  | d :: ds => pur d && purs ds
end
theorem toPys_map : ∀ ds : List D, toPys ds = ds.map toPy
  | [] => by unfold toPys; rfl
  | d :: ds => by unfold toPys; rw [toPys_map ds]; rfl
theorem purs_all : ∀ ds : List D, purs ds = ds.all pur
  | [] => by unfold purs; rfl
  | d :: ds => by unfold purs; rw [purs_all ds]; rfl
section
variable {K : Kx} {H H' : Hp} {S S' : Sto}
mutual
theorem dp_of : ∀ {v : V} {d : D}, RD K H S v d → pur d = true → Dp K.k H v (toPy d)
  | v, .at u, r, p => by
    have e := r.at_
    subst e
    cases v with
    | non => unfold toPy; exact .non
    | bl b => unfold toPy; exact .bl b
    | int i => unfold toPy; exact .int i
    | str s => unfold toPy; exact .str s
    | byt _ => unfold pur at p; cases p
    | flt _ => unfold pur at p; cases p
    | ref _ => unfold pur at p; cases p
    | ty _ => unfold pur at p; cases p
  | v, .tup ds, r, p => by
    obtain ⟨a, vs, rfl, t, rv⟩ := r.tup_
    unfold pur at p
    unfold toPy
    exact .tup (.of t) (dps_of rv p)
  | v, .wt ds, r, p => by
    obtain ⟨a, vs, rfl, t, rv⟩ := r.wt_
    unfold pur at p
    unfold toPy
    exact .tup (.inr t) (dps_of rv p)
  | v, .fl ds, r, p => by
    obtain ⟨a, vs, rfl, t, rv⟩ := r.fl_
    unfold pur at p
    unfold toPy
    exact .lst t.sq (dps_of rv p)
theorem dps_of : ∀ {vs : List V} {ds : List D}, RDs K H S vs ds → purs ds = true → DpAll K.k H vs (toPys ds)
  | vs, [], r, p => by rw [r.inv_nil]; unfold toPys; exact .nil
  | vs, d :: ds, r, p => by
    obtain ⟨v, ws, rfl, r1, r2⟩ := r.inv_cons
    unfold purs at p
    rw [Bool.and_eq_true] at p
    unfold toPys
    exact .cons (dp_of r1 p.1) (dps_of r2 p.2)
end
end
/-- a list of the store, as it stands -/
def rsv (S : Sto) : D → D
  | .at (.ref a) => match S a with
    | some (.lst xs) => .fl xs
    | _ => .at (.ref a)
  | d => d
theorem dp_rsv {K : Kx} {H : Hp} {S : Sto} {v : V} {d : D} (rs : RS K H S) (r : RD K H S v d) (p : pur (rsv S d) = true) : Dp K.k H v (toPy (rsv S d)) := by
  unfold rsv at p ⊢
  split
  · rename_i a
    split
    · rename_i xs e
      dsimp only at p
      rw [e] at p
      obtain ⟨vs, h1, h2⟩ := rs.ob a _ e
      rw [r.at_]
      unfold pur at p
      unfold toPy
      exact .lst (.of h1) (dps_of h2 p)
    · rename_i hn
      dsimp only at p
      split at p
      · rename_i xs e; exact absurd e (hn xs)
      · unfold pur at p; cases p
  · rename_i hn
    split at p
    · exact absurd rfl (hn _)
    · exact dp_of r p
/-- fit to be compared -/
def cmpOk (d : D) : Bool := pur d && SeqAt.shaped (toPy d)

/-! ### arithmetic -/
section
variable {X : Cx}
abbrev iN := Int
def addD (mu : Bool) : RD2 := fun x y S Q => match x, y with
  | .at (.int i), .at (.int j) => Q (.int (i + j)) S
  | .at (.str a), .at (.str b) => a.length + b.length ≤ sizeLine ∧ Q (.str (a ++ b)) S
  | .tup xs, .tup ys => xs.length + ys.length ≤ sizeLine ∧ Q (.tup (xs ++ ys)) S
  | x, y => ∃ xs ys, lsOf S x = some xs ∧ lsOf S y = some ys ∧ xs.length + ys.length ≤ sizeLine ∧ (if mu = true then ∀ p, S p = none → Q (.ref p) (up S p (.lst (xs ++ ys))) else Q (.fl (xs ++ ys)) S)
theorem op_catS : OpR X (binaryOp .Add) (fun x y H Q => ∃ l b xs zs, x = .ref l ∧ y = .ref b ∧ SqL X.K H l xs ∧ SqL X.K H b zs ∧ xs.length + zs.length ≤ sizeLine ∧ ∀ p, H p = none → Q (.ref p) (upd H p (.lst (xs ++ zs)))) := by
  intro pins s σ H x y v u Q I rx ry h
  obtain ⟨l, b, xs, zs, rfl, rfl, hl, hb, hz, q⟩ := h
  cases rx
  cases ry
  obtain ⟨its, r1, pl1, z1⟩ := I.list hl
  obtain ⟨its2, r2, pl2, z2⟩ := I.list hb
  have l1 := r1.length
  have l2 := r2.length
  obtain ⟨⟨cls, dd, data, sl⟩, n, ho, hc, hd, hs⟩ := pl1
  obtain ⟨⟨cls2, dd2, data2, sl2⟩, n2, ho2, hc2, hd2, hs2⟩ := pl2
  simp only at hc hd hs hc2 hd2 hs2
  subst hc hd hs hc2 hd2 hs2
  have lay := list_addW l b its.toArray its2.toArray n n2 none none sl sl2 (by rw [List.size_toArray, List.size_toArray]; omega)
  refine concat_meets ⟨_, ho, rfl⟩ ⟨_, ho2, rfl⟩ noFill_list_add seq_list_add PySem.F.slot_list_add PySem.F.entry_list_add (PySem.F.args_list_add_2 _ _) lay ⟨ho, ho2, ?_⟩
  have e : its.toArray ++ its2.toArray = (its ++ its2).toArray := by simp
  rw [e]
  exact ⟨.ref _, _, I.lnew (t' := s.toks) (r1.append r2) (by rw [List.length_append]; omega), rfl, q _ I.fresh⟩
theorem od_add (mu : Bool) : OpR X (binaryOp .Add) (l2 X.K (addD mu)) := by
  intro pins s σ H v u vv uu Q I rv ru h
  obtain ⟨N, x, y, S, Q', rx, ry, rs, q, k⟩ := h
  have lists : ∀ {xs ys : List D}, lsOf S x = some xs → lsOf S y = some ys → xs.length + ys.length ≤ sizeLine → (if mu = true then ∀ p, S p = none → Q' (.ref p) (up S p (.lst (xs ++ ys))) else Q' (.fl (xs ++ ys)) S) → wpAny (model X.prog X.w) X.A (binaryOp .Add vv uu) (EP X pins σ Q) X.xe s := by
    intro xs ys h1 h2 hz q
    obtain ⟨a, vs, rfl, sa, ra⟩ := ls_sq rs rx h1
    obtain ⟨b, ws, rfl, sb, rb⟩ := ls_sq rs ry h2
    refine op_catS pins s σ H _ _ _ _ Q I rv ru ⟨a, b, vs, ws, rfl, rfl, sa, sb, by rw [ra.length, rb.length]; exact hz, fun p np => ?_⟩
    cases mu with
    | true =>
      rw [if_pos rfl] at q
      exact k _ _ _ _ (new_lst rs np (ra.append rb)) (.of _) (q p (rs.free np))
    | false =>
      obtain ⟨b1, r1⟩ := new_fl rs np (ra.append rb)
      rw [if_neg Bool.false_ne_true] at q
      exact k _ _ _ _ b1 r1 q
  unfold addD at q
  split at q
  · rename_i i j
    exact op_add pins s σ H _ _ _ _ Q I rv ru ⟨i, j, rx.at_, ry.at_, k _ S _ H (.refl rs) (.of _) q⟩
  · rename_i a b
    exact op_add_str pins s σ H _ _ _ _ Q I rv ru ⟨a, b, rx.at_, ry.at_, q.1, k _ S _ H (.refl rs) (.of _) q.2⟩
  · rename_i xs ys
    obtain ⟨a, vs, rfl, ta, ra⟩ := rx.tup_
    obtain ⟨b, ws, rfl, tb, rb⟩ := ry.tup_
    refine op_catA pins s σ H _ _ _ _ Q I rv ru ⟨a, b, vs, ws, rfl, rfl, .of ta, .of tb, by rw [ra.length, rb.length]; exact q.1, fun e => ?_, fun e e2 => ?_, fun e e2 p np => ?_⟩
    · subst e
      have : xs = [] := by
        have := ra.length
        exact List.eq_nil_of_length_eq_zero this.symm
      subst this
      exact k _ S _ H (.refl rs) (.of_tup tb rb) (by simpa using q.2)
    · subst e2
      have : ys = [] := List.eq_nil_of_length_eq_zero rb.length.symm
      subst this
      exact k _ S _ H (.refl rs) (.of_tup ta ra) (by simpa using q.2)
    · obtain ⟨b1, r1⟩ := new_tup rs np (ra.append rb)
      exact k _ S _ _ b1 r1 q.2
  · obtain ⟨xs, ys, h1, h2, hz, q⟩ := q
    exact lists h1 h2 hz q
/-- two ints -/
def intD (C : Int → Int → Prop) (g : Int → Int → V) : RD2 := fun x y S Q => match x, y with
  | .at (.int i), .at (.int j) => C i j ∧ Q (.at (g i j)) S
  | _, _ => False
theorem od_int {f : Value → Value → Sem Value} {C : Int → Int → Prop} {g : Int → Int → V} (h : OpR X f (rI C g)) : OpR X f (l2 X.K (intD C g)) := by
  intro pins s σ H v u vv uu Q I rv ru h'
  obtain ⟨N, x, y, S, Q', rx, ry, rs, q, k⟩ := h'
  unfold intD at q
  split at q
  · rename_i i j
    exact h pins s σ H _ _ _ _ Q I rv ru ⟨i, j, rx.at_, ry.at_, q.1, k _ S _ H (.refl rs) (.of _) q.2⟩
  · exact q.elim
theorem od_sub : OpR X (binaryOp .Sub) (l2 X.K (intD (fun _ _ => True) fun i j => .int (i - j))) := od_int fun pins s σ H x y v u Q I rv ru ⟨i, j, e1, e2, _, q⟩ => op_sub pins s σ H x y v u Q I rv ru ⟨i, j, e1, e2, q⟩
theorem od_mul : OpR X (binaryOp .Mult) (l2 X.K (intD CMul fun i j => .int (i * j))) := od_int op_mul
theorem od_fdiv : OpR X (binaryOp .FloorDiv) (l2 X.K (intD CDiv fun i j => .int (i / j))) := od_int op_fdiv
theorem od_mod : OpR X (binaryOp .Mod) (l2 X.K (intD (fun _ j => 0 < j) fun i j => .int (i % j))) := od_int op_mod
theorem od_pow : OpR X (binaryOp .Pow) (l2 X.K (intD CPow fun i j => .int (i ^ j.toNat))) := od_int op_pow
def negD : RD1 := fun x S Q => match x with
  | .at (.int i) => Q (.int (-i)) S
  | _ => False
theorem ud_neg : UnR X (unaryOp .USub) (l1 X.K negD) := by
  intro pins s σ H v vv Q I rv h'
  obtain ⟨N, x, S, Q', rx, rs, q, k⟩ := h'
  unfold negD at q
  split at q
  · rename_i i
    exact un_neg pins s σ H _ _ Q I rv ⟨i, rx.at_, k _ S _ H (.refl rs) (.of _) q⟩
  · exact q.elim

/-! ### comparisons -/
/-- two ints, or two texts -/
def ltD : RD2 := fun x y S Q => match x, y with
  | .at (.int i), .at (.int j) => Q (.bl (decide (i < j))) S
  | .at (.str a), .at (.str b) => Q (.bl (decide (a.cps.toList < b.cps.toList))) S
  | _, _ => False
theorem od_lt : OpR X (compareOp .Lt) (l2 X.K ltD) := by
  intro pins s σ H v u vv uu Q I rv ru h'
  obtain ⟨N, x, y, S, Q', rx, ry, rs, q, k⟩ := h'
  unfold ltD at q
  split at q
  · rename_i i j
    exact op_lt pins s σ H _ _ _ _ Q I rv ru ⟨i, j, rx.at_, ry.at_, k _ S _ H (.refl rs) (.of _) q⟩
  · rename_i a b
    exact op_lt_str pins s σ H _ _ _ _ Q I rv ru ⟨a, b, rx.at_, ry.at_, k _ S _ H (.refl rs) (.of _) q⟩
  · exact q.elim
theorem od_le : OpR X (compareOp .LtE) (l2 X.K (intD (fun _ _ => True) fun i j => .bl (decide (i ≤ j)))) := od_int fun pins s σ H x y v u Q I rv ru ⟨i, j, e1, e2, _, q⟩ => op_le pins s σ H x y v u Q I rv ru ⟨i, j, e1, e2, q⟩
theorem od_gt : OpR X (compareOp .Gt) (l2 X.K (intD (fun _ _ => True) fun i j => .bl (decide (j < i)))) := od_int fun pins s σ H x y v u Q I rv ru ⟨i, j, e1, e2, _, q⟩ => op_gt pins s σ H x y v u Q I rv ru ⟨i, j, e1, e2, q⟩
theorem od_ge : OpR X (compareOp .GtE) (l2 X.K (intD (fun _ _ => True) fun i j => .bl (decide (j ≤ i)))) := od_int fun pins s σ H x y v u Q I rv ru ⟨i, j, e1, e2, _, q⟩ => op_ge pins s σ H x y v u Q I rv ru ⟨i, j, e1, e2, q⟩
/-- == of data -/
def eqD (neg : Bool) : RD2 := fun x y S Q => match x, y with
  | .at (.int i), .at (.int j) => Q (.bl (xor neg (decide (i = j)))) S
  | .at (.str a), .at (.str b) => Q (.bl (xor neg (decide (a = b)))) S
  | .at .non, .at .non => Q (.bl (xor neg true)) S
  | .at (.str _), .at (.int _) => Q (.bl (xor neg false)) S
  | .at (.int _), .at (.str _) => Q (.bl (xor neg false)) S
  | .at (.str _), .at .non => Q (.bl (xor neg false)) S
  | .at .non, .at (.str _) => Q (.bl (xor neg false)) S
  | .at (.int _), .at .non => Q (.bl (xor neg false)) S
  | .at .non, .at (.int _) => Q (.bl (xor neg false)) S
  | .at (.bl a), .at (.bl b) => Q (.bl (xor neg (decide (a = b)))) S
  | x, y => cmpOk (rsv S x) = true ∧ cmpOk (rsv S y) = true ∧ Q (.bl (xor neg (PyData.eqv (toPy (rsv S x)) (toPy (rsv S y))))) S
theorem eq_scal {neg : Bool} {f : Value → Value → Sem Value} {r : R2} (h : OpR X f r) (hr : ∀ x y H Q, scal x y = true → Q (.bl (xor neg (decide (x = y)))) H → r x y H Q) {pins : List (Addr × Obj)} {s : Shared} {σ : L2.St} {H : Hp} {x y : V} {v u : Value} {Q : VK} (I : Inv X pins σ H s) (rv : RelV x v) (ru : RelV y u) (hs : scal x y = true)
    (q : Q (.bl (xor neg (decide (x = y)))) H) : wpAny (model X.prog X.w) X.A (f v u) (EP X pins σ Q) X.xe s := h pins s σ H x y v u Q I rv ru (hr x y H Q hs q)
theorem od_eqG {neg : Bool} {f : Value → Value → Sem Value} {r r' : R2} (h : OpR X f r) (hr : ∀ x y H Q, scal x y = true → Q (.bl (xor neg (decide (x = y)))) H → r x y H Q)
    (h' : OpR X f r') (hr' : ∀ x y H Q d e, Dp X.K H x d → Dp X.K H y e → SeqAt.shaped d = true → SeqAt.shaped e = true → Q (.bl (xor neg (PyData.eqv d e))) H → r' x y H Q) : OpR X f (l2 X.K (eqD neg)) := by
  intro pins s σ H v u vv uu Q I rv ru hh
  obtain ⟨N, x, y, S, Q', rx, ry, rs, q, k⟩ := hh
  have fin : ∀ {v' u' : V}, RD ⟨X.K, N⟩ H S v (.at v') → RD ⟨X.K, N⟩ H S u (.at u') → scal v' u' = true → Q' (.bl (xor neg (decide (v' = u')))) S → wpAny (model X.prog X.w) X.A (f vv uu) (EP X pins σ Q) X.xe s := by
    intro v' u' e1 e2 hs q
    have := e1.at_; subst this
    have := e2.at_; subst this
    exact eq_scal h hr I rv ru hs (k _ S _ H (.refl rs) (.of _) q)
  unfold eqD at q
  split at q
  all_goals first
    | exact fin rx ry rfl (by simpa using q)
    | skip
  obtain ⟨q1, q2, q3⟩ := q
  unfold cmpOk at q1 q2
  rw [Bool.and_eq_true] at q1 q2
  exact h' pins s σ H v u vv uu Q I rv ru (hr' _ _ _ _ _ _ (dp_rsv rs rx q1.1) (dp_rsv rs ry q2.1) q1.2 q2.2 (k _ S _ H (.refl rs) (.of _) q3))
theorem od_eq (hr : Rg k X.A) : OpR X (compareOp .Eq) (l2 X.K (eqD false)) :=
  od_eqG op_eq (fun x y H Q h q => ⟨h, by simpa using q⟩) (op_eqD hr.r.units) fun x y H Q d e hd he sd se q => ⟨d, e, hd, he, sd, se, by simpa using q⟩
theorem od_ne (hr : Rg k X.A) : OpR X (compareOp .NotEq) (l2 X.K (eqD true)) :=
  od_eqG op_ne (fun x y H Q h q => ⟨h, by simpa using q⟩) (op_neD hr.r.units) fun x y H Q d e hd he sd se q => ⟨d, e, hd, he, sd, se, by simpa using q⟩
def isnD (neg : Bool) : RD2 := fun x y S Q => y = .non ∧ Q (.bl (xor neg (decide (x = .non)))) S
theorem non_iff {K : Kx} {H : Hp} {S : Sto} {v : V} {x : D} (r : RD K H S v x) : decide (v = .non) = decide (x = .non) := by
  cases x with
  | «at» u => rw [r.at_]; simp [D.non]
  | tup l => obtain ⟨a, vs, rfl, _⟩ := r.tup_; simp [D.non]
  | wt l => obtain ⟨a, vs, rfl, _⟩ := r.wt_; simp [D.non]
  | fl l => obtain ⟨a, vs, rfl, _⟩ := r.fl_; simp [D.non]
theorem od_is : OpR X (compareOp .Is) (l2 X.K (isnD false)) := by
  intro pins s σ H v u vv uu Q I rv ru hh
  obtain ⟨N, x, y, S, Q', rx, ry, rs, ⟨rfl, q⟩, k⟩ := hh
  refine op_isN pins s σ H v u vv uu Q I rv ru ⟨ry.at_, ?_⟩
  rw [non_iff rx]
  exact k _ S _ H (.refl rs) (.of _) (by simpa using q)
theorem od_isnot : OpR X (compareOp .IsNot) (l2 X.K (isnD true)) := by
  intro pins s σ H v u vv uu Q I rv ru hh
  obtain ⟨N, x, y, S, Q', rx, ry, rs, ⟨rfl, q⟩, k⟩ := hh
  refine op_notN pins s σ H v u vv uu Q I rv ru ⟨ry.at_, ?_⟩
  rw [non_iff rx]
  exact k _ S _ H (.refl rs) (.of _) (by simpa using q)

/-! ### in -/
/-- x in y: among flat things; among data; a key of a dict; a sign of a text -/
def keyD : D → Option Key
  | .at (.int i) => some (.inl i)
  | .at (.str s) => some (.inr s)
  | _ => none
def keysD : List D → Option (List Key)
  | [] => some []
  | d :: ds => match keyD d, keysD ds with
    | some k, some ks => some (k :: ks)
    | _, _ => none
theorem keyD_eq {d : D} {k : Key} (h : keyD d = some k) : d = .at (kV k) := by
  unfold keyD at h
  split at h
  · cases h; rfl
  · cases h; rfl
  · cases h
theorem keysD_eq : ∀ {ds : List D} {ks : List Key}, keysD ds = some ks → ds = (ks.map kV).map D.at
  | [], ks, h => by unfold keysD at h; cases h; rfl
  | d :: ds, ks, h => by
    unfold keysD at h
    split at h
    · rename_i k ks' e1 e2
      cases h
      rw [keyD_eq e1, keysD_eq e2]
      rfl
    · cases h
variable {κ : Type} [DecidableEq κ]
def valD (kvs : List (κ × D)) (k : κ) : Option D := (kvs.find? fun kv => decide (kv.1 = k)).map (·.2)
def putD (kvs : List (κ × D)) (k : κ) (v : D) : List (κ × D) := if (kvs.any fun kv => decide (kv.1 = k)) then kvs.map fun kv => if kv.1 = k then (kv.1, v) else kv else kvs ++ [(k, v)]
theorem rel_val {K : Kx} {H : Hp} {S : Sto} : ∀ {ks : List (κ × V)} {kvs : List (κ × D)}, ks.map (·.1) = kvs.map (·.1) → RDs K H S (ks.map (·.2)) (kvs.map (·.2)) → ∀ k, (valD kvs k = none → valV ks k = none) ∧ ∀ d, valD kvs k = some d → ∃ v, valV ks k = some v ∧ RD K H S v d
  | [], [], _, _, k => ⟨fun _ => rfl, fun d e => by simp [valD] at e⟩
  | [], _ :: _, e, _, _ => by simp at e
  | _ :: _, [], e, _, _ => by simp at e
  | a :: ks, b :: kvs, e, r, k => by
    simp only [List.map_cons, List.cons.injEq] at e
    obtain ⟨r1, r2⟩ := RDs.of_cons (v := a.2) (d := b.2) r
    have ih := rel_val e.2 r2 k
    by_cases h : b.1 = k
    · have h' : a.1 = k := e.1.trans h
      refine ⟨fun z => ?_, fun d z => ?_⟩
      · simp [valD, List.find?_cons, h] at z
      · have : d = b.2 := by simpa [valD, List.find?_cons, h] using z.symm
        subst this
        exact ⟨a.2, by simp [valV, List.find?_cons, h'], r1⟩
    · have h' : ¬ a.1 = k := fun z => h (e.1.symm.trans z)
      have e1 : valD (b :: kvs) k = valD kvs k := by simp [valD, List.find?_cons, h]
      have e2 : valV (a :: ks) k = valV ks k := valV_neg h'
      rw [e1, e2]
      exact ih
theorem rel_put {K : Kx} {H : Hp} {S : Sto} {ks : List (κ × V)} {kvs : List (κ × D)} {v : V} {d : D} (e : ks.map (·.1) = kvs.map (·.1)) (r : RDs K H S (ks.map (·.2)) (kvs.map (·.2))) (k : κ) (rv : RD K H S v d) :
    (putK ks k v).map (·.1) = (putD kvs k d).map (·.1) ∧ RDs K H S ((putK ks k v).map (·.2)) ((putD kvs k d).map (·.2)) := by
  have any : ∀ (as : List (κ × V)) (bs : List (κ × D)), as.map (·.1) = bs.map (·.1) → (as.any fun kv => decide (kv.1 = k)) = bs.any fun kv => decide (kv.1 = k) := by
    intro as
    induction as with
    | nil => intro bs h; cases bs with
      | nil => rfl
      | cons _ _ => simp at h
    | cons a as ih => intro bs h; cases bs with
      | nil => simp at h
      | cons b bs =>
        simp only [List.map_cons, List.cons.injEq] at h
        simp only [List.any_cons, h.1, ih bs h.2]
  have rep : ∀ (as : List (κ × V)) (bs : List (κ × D)), as.map (·.1) = bs.map (·.1) → RDs K H S (as.map (·.2)) (bs.map (·.2)) → (as.map fun kv => if kv.1 = k then (kv.1, v) else kv).map (·.1) = (bs.map fun kv => if kv.1 = k then (kv.1, d) else kv).map (·.1) ∧
      RDs K H S ((as.map fun kv => if kv.1 = k then (kv.1, v) else kv).map (·.2)) ((bs.map fun kv => if kv.1 = k then (kv.1, d) else kv).map (·.2)) := by
    intro as
    induction as with
    | nil => intro bs h _; cases bs with
      | nil => exact ⟨rfl, .nil⟩
      | cons _ _ => simp at h
    | cons a as ih => intro bs h h2; cases bs with
      | nil => simp at h
      | cons b bs =>
        simp only [List.map_cons, List.cons.injEq] at h
        obtain ⟨r1, r2⟩ := RDs.of_cons (v := a.2) (d := b.2) h2
        obtain ⟨i1, i2⟩ := ih bs h.2 r2
        by_cases hk : b.1 = k
        · have hk' : a.1 = k := h.1.trans hk
          simp only [List.map_cons, hk, hk', if_pos]
          exact ⟨by rw [i1], .cons rv i2⟩
        · have hk' : ¬ a.1 = k := fun z => hk (h.1.symm.trans z)
          simp only [List.map_cons, if_neg hk, if_neg hk']
          exact ⟨by rw [h.1, i1], .cons r1 i2⟩
  unfold putK putD
  rw [any ks kvs e]
  split
  · exact rep ks kvs e r
  · rw [List.map_append, List.map_append, List.map_append, List.map_append]
    exact ⟨by rw [e]; rfl, r.append (.cons rv .nil)⟩
/-- a key of a dict of the store: what is there -/
def atD (S : Sto) (x y : D) : Option (Option D) := match y with
  | .at (.ref a) => match S a with
    | some (.dk kvs) => (keyD x).map (valD kvs)
    | some (.dt kvs) => match x with
      | .tup ds => (keysD ds).map (valD kvs)
      | _ => none
    | _ => none
  | _ => none
end
section
variable {X : Cx}
/-- the key is an own tuple of the heap -/
theorem at_get {K : Kx} {H : Hp} {S : Sto} {v u : V} {x y : D} {o : Option D} (rs : RS K H S) (rx : RD K H S v x) (ry : RD K H S u y) (h : atD S x y = some o) : ∃ a r, u = .ref a ∧ DGet H a v r ∧ (o = none → r = none) ∧ ∀ d, o = some d → ∃ w, r = some w ∧ RD K H S w d := by
  unfold atD at h
  split at h
  · rename_i a
    have eu := ry.at_
    subst eu
    split at h
    · rename_i kvs e
      obtain ⟨ks, h1, h2, h3⟩ := rs.ob a _ e
      obtain ⟨k, hk, rfl⟩ := Option.map_eq_some_iff.mp h
      have ex := keyD_eq hk
      subst ex
      have ev := rx.at_
      subst ev
      obtain ⟨g1, g2⟩ := rel_val h2 h3 k
      exact ⟨a, valV ks k, rfl, .k h1, g1, fun d e => g2 d e⟩
    · rename_i kvs e
      split at h
      · rename_i ds
        obtain ⟨ks, h1, h2, h3⟩ := rs.ob a _ e
        obtain ⟨k, hk, rfl⟩ := Option.map_eq_some_iff.mp h
        have ex := keysD_eq hk
        subst ex
        obtain ⟨b, vs, rfl, t, rv⟩ := rx.tup_
        have evs : vs = k.map kV := rv.atoms
        subst evs
        obtain ⟨g1, g2⟩ := rel_val h2 h3 k
        exact ⟨a, valV ks k, rfl, .t h1 t, g1, fun d e => g2 d e⟩
      · cases h
    · cases h
  · cases h
end
end DL

/-! Data layer, fifth part: in, subscripts, slices, methods, built-ins, sets shown sorted, repr. -/
namespace DL
open PySem L2 PyProof.Rows
section
variable {X : Cx}
/-! ### in -/
/-- x in y -/
def inD (neg : Bool) : RD2 := fun x y S Q => match y with
  | .at (.str z) => ∃ c : Nat, x = .str ⟨#[c]⟩ ∧ Q (.bl (xor neg (decide (c ∈ z.cps.toList)))) S
  | y => (∃ ys, sqOf S y = some ys ∧ cmpOk x = true ∧ cmpOk (.tup ys) = true ∧ cmpOk (.fl ys) = true ∧ Q (.bl (xor neg (ys.any fun z => PyData.eqv (toPy z) (toPy x)))) S) ∨
    ∃ o, atD S x y = some o ∧ Q (.bl (xor neg o.isSome)) S
/-- in, of a list or a tuple, by data -/
theorem dp_all {K : PySem.W.Frag} {H : Hp} {a : Addr} {vs : List V} {ds : List PyData} (h : SqL K H a vs ∨ SqT K H a vs) (r : DpAll K H vs ds) : Dp K H (.ref a) (.list ds) ∨ Dp K H (.ref a) (.tuple ds) := h.elim (fun h => .inl (.lst h r)) fun h => .inr (.tup h r)
theorem op_inDT (hu : X.A.units + 65 < cLine) : OpR X (compareOp .In) (fun x y H Q => ∃ d ds, Dp X.K H x d ∧ Dp X.K H y (.tuple ds) ∧ SeqAt.shaped d = true ∧ SeqAt.shaped (.tuple ds) = true ∧ Q (.bl (ds.any fun z => PyData.eqv z d)) H) := by
  intro pins s σ H x y v u Q I rx ry h
  obtain ⟨d, ds, hd, he, sd, se, q⟩ := h
  obtain ⟨as, r1⟩ := Dp.reads I d x v hd rx
  obtain ⟨bs, r2⟩ := Dp.reads I (.tuple ds) y u he ry
  exact SeqAt.in_tuple_reads r2 r1 (SeqAt.canLay_of_shaped se) (SeqAt.canLay_of_shaped sd) (room_in_shaped sd hu) ⟨.bl _, H, I, rfl, q⟩
theorem op_notInDT (hu : X.A.units + 65 < cLine) : OpR X (compareOp .NotIn) (fun x y H Q => ∃ d ds, Dp X.K H x d ∧ Dp X.K H y (.tuple ds) ∧ SeqAt.shaped d = true ∧ SeqAt.shaped (.tuple ds) = true ∧ Q (.bl (!ds.any fun z => PyData.eqv z d)) H) := by
  intro pins s σ H x y v u Q I rx ry h
  obtain ⟨d, ds, hd, he, sd, se, q⟩ := h
  obtain ⟨as, r1⟩ := Dp.reads I d x v hd rx
  obtain ⟨bs, r2⟩ := Dp.reads I (.tuple ds) y u he ry
  exact SeqAt.notIn_tuple_reads r2 r1 (SeqAt.canLay_of_shaped se) (SeqAt.canLay_of_shaped sd) (room_in_shaped sd hu) ⟨.bl _, H, I, rfl, q⟩

theorem dp_sq {K : Kx} {H : Hp} {S : Sto} {u : V} {y : D} {ys : List D} (rs : RS K H S) (ry : RD K H S u y) (h : sqOf S y = some ys) (c : cmpOk (.tup ys) = true) : Dp K.k H u (.list (toPys ys)) ∨ Dp K.k H u (.tuple (toPys ys)) := by
  obtain ⟨a, vs, rfl, sq, rv⟩ := sq_sq rs ry h
  unfold cmpOk at c
  rw [Bool.and_eq_true] at c
  have p : purs ys = true := by have := c.1; unfold pur at this; exact this
  exact dp_all sq (dps_of rv p)
theorem any_py (x : D) : ∀ ys : List D, (toPys ys).any (fun z => PyData.eqv z (toPy x)) = ys.any fun z => PyData.eqv (toPy z) (toPy x)
  | [] => by unfold toPys; rfl
  | y :: ys => by unfold toPys; rw [List.any_cons, List.any_cons, any_py x ys]
theorem od_inG {neg : Bool} {f : Value → Value → Sem Value}
    (h1 : OpR X f (fun x y H Q => ∃ (c : Nat) (z : Str), x = .str ⟨#[c]⟩ ∧ y = .str z ∧ Q (.bl (xor neg (decide (c ∈ z.cps.toList)))) H))
    (h2 : OpR X f (fun x y H Q => ∃ d ds, Dp X.K H x d ∧ Dp X.K H y (.list ds) ∧ SeqAt.shaped d = true ∧ SeqAt.shaped (.list ds) = true ∧ Q (.bl (xor neg (ds.any fun z => PyData.eqv z d))) H))
    (h3 : OpR X f (fun x y H Q => ∃ d ds, Dp X.K H x d ∧ Dp X.K H y (.tuple ds) ∧ SeqAt.shaped d = true ∧ SeqAt.shaped (.tuple ds) = true ∧ Q (.bl (xor neg (ds.any fun z => PyData.eqv z d))) H))
    (h4 : OpR X f (fun x y H Q => ∃ a o, y = .ref a ∧ DGet H a x o ∧ Q (.bl (xor neg o.isSome)) H)) : OpR X f (l2 X.K (inD neg)) := by
  intro pins s σ H v u vv uu Q I rv ru hh
  obtain ⟨N, x, y, S, Q', rx, ry, rs, q, k⟩ := hh
  unfold inD at q
  split at q
  · obtain ⟨c, rfl, q⟩ := q
    exact h1 pins s σ H _ _ _ _ Q I rv ru ⟨c, _, rx.at_, ry.at_, k _ S _ H (.refl rs) (.of _) q⟩
  · rcases q with ⟨ys, hy, cx, ct, cl, q⟩ | ⟨o, ho, q⟩
    · have cx' := cx
      unfold cmpOk at cx' cl
      rw [Bool.and_eq_true] at cx' cl
      have c2 := ct
      unfold cmpOk at c2
      rw [Bool.and_eq_true] at c2
      have px := dp_of rx cx'.1
      rw [← any_py] at q
      have e1 : toPy (.fl ys) = .list (toPys ys) := by conv => lhs; unfold toPy
      have e2 : toPy (.tup ys) = .tuple (toPys ys) := by conv => lhs; unfold toPy
      rw [e1] at cl
      rw [e2] at c2
      rcases dp_sq rs ry hy ct with py | py
      · exact h2 pins s σ H _ _ _ _ Q I rv ru ⟨_, _, px, py, cx'.2, cl.2, k _ S _ H (.refl rs) (.of _) q⟩
      · exact h3 pins s σ H _ _ _ _ Q I rv ru ⟨_, _, px, py, cx'.2, c2.2, k _ S _ H (.refl rs) (.of _) q⟩
    · obtain ⟨a, r, rfl, g, e1, e2⟩ := at_get rs rx ry ho
      have e : o.isSome = r.isSome := by
        cases o with
        | none => rw [e1 rfl]; rfl
        | some d => obtain ⟨w, rfl, _⟩ := e2 d rfl; rfl
      rw [e] at q
      exact h4 pins s σ H _ _ _ _ Q I rv ru ⟨a, r, rfl, g, k _ S _ H (.refl rs) (.of _) q⟩
variable {k : Nat}
theorem od_in (hr : Rg k X.A) : OpR X (compareOp .In) (l2 X.K (inD false)) := by
  have hu := hr.r.un
  refine od_inG (fun pins s σ H x y v u Q I rx ry ⟨c, z, e1, e2, q⟩ => op_in_sign pins s σ H x y v u Q I rx ry ⟨c, z, e1, e2, by simpa using q⟩)
    (fun pins s σ H x y v u Q I rx ry ⟨d, ds, e1, e2, e3, e4, q⟩ => op_inD (by omega) pins s σ H x y v u Q I rx ry ⟨d, ds, e1, e2, e3, e4, by simpa using q⟩)
    (fun pins s σ H x y v u Q I rx ry ⟨d, ds, e1, e2, e3, e4, q⟩ => op_inDT (by omega) pins s σ H x y v u Q I rx ry ⟨d, ds, e1, e2, e3, e4, by simpa using q⟩)
    (fun pins s σ H x y v u Q I rx ry ⟨a, o, e1, g, q⟩ => ?_)
  subst e1
  cases ry
  exact d_in (by omega) I g rx fun s' I' => ⟨.bl _, H, I', rfl, by simpa using q⟩
theorem od_notin (hr : Rg k X.A) : OpR X (compareOp .NotIn) (l2 X.K (inD true)) := by
  have hu := hr.r.un
  refine od_inG (fun pins s σ H x y v u Q I rx ry ⟨c, z, e1, e2, q⟩ => op_notIn_sign pins s σ H x y v u Q I rx ry ⟨c, z, e1, e2, by simpa using q⟩)
    (fun pins s σ H x y v u Q I rx ry ⟨d, ds, e1, e2, e3, e4, q⟩ => op_notInD (by omega) pins s σ H x y v u Q I rx ry ⟨d, ds, e1, e2, e3, e4, by simpa using q⟩)
    (fun pins s σ H x y v u Q I rx ry ⟨d, ds, e1, e2, e3, e4, q⟩ => op_notInDT (by omega) pins s σ H x y v u Q I rx ry ⟨d, ds, e1, e2, e3, e4, by simpa using q⟩)
    (fun pins s σ H x y v u Q I rx ry ⟨a, o, e1, g, q⟩ => ?_)
  subst e1
  cases ry
  exact d_notIn (by omega) I g rx fun s' I' => ⟨.bl _, H, I', rfl, by simpa using q⟩

/-! ### subscripts -/
def ixD : RD2 := fun x y S Q => (∃ xs i d, y = .int i ∧ sqOf S x = some xs ∧ atI xs i = some d ∧ Q d S) ∨ (∃ z i c, x = .str z ∧ y = .int i ∧ z.length ≤ sizeLine ∧ atI z.cps.toList i = some c ∧ Q (.str ⟨#[c]⟩) S) ∨ ∃ d, atD S y x = some (some d) ∧ Q d S
theorem atI_rd {K : Kx} {H : Hp} {S : Sto} {vs : List V} {ds : List D} {i : Int} {d : D} (r : RDs K H S vs ds) (h : atI ds i = some d) : ∃ v, atI vs i = some v ∧ RD K H S v d := by
  unfold atI at h ⊢
  rw [r.length]
  cases e : ixN ds.length i with
  | none => rw [e] at h; cases h
  | some j => rw [e] at h; exact r.get h
theorem ixr_dict (hu : X.A.units + 1 < cLine) : IxR X (fun x y H Q => ∃ a v, x = .ref a ∧ DGet H a y (some v) ∧ Q v H) := by
  intro value slice pins s σ H x y v u Q I rx ry h hs
  obtain ⟨a, w, rfl, g, q⟩ := h
  cases rx
  exact tail_any (dict_typeIs I g) PySem.F.slot_dict_getitem.lookup (d_getItem hu I g ry fun w' s' I' r' => ⟨w, H, I', r', q⟩) hs
theorem xd_ix (hr : Rg k X.A) : IxR X (l2 X.K ixD) := by
  intro value slice pins s σ H v u vv uu Q I rv ru hh hs
  obtain ⟨N, x, y, S, Q', rx, ry, rs, q, k⟩ := hh
  have hu := hr.r.un
  rcases q with ⟨xs, i, d, rfl, hx, he, q⟩ | ⟨z, i, c, rfl, rfl, hz, he, q⟩ | ⟨d, he, q⟩
  · obtain ⟨a, vs, rfl, sq, r⟩ := sq_sq rs rx hx
    obtain ⟨w, hw, rw'⟩ := atI_rd r he
    rcases sq with sq | sq
    · exact ix_list value slice pins s σ H _ _ _ _ Q I rv ru ⟨a, vs, i, w, rfl, ry.at_, sq, hw, k _ S _ H (.refl rs) rw' q⟩ hs
    · exact ix_tup value slice pins s σ H _ _ _ _ Q I rv ru ⟨a, vs, i, w, rfl, ry.at_, sq, hw, k _ S _ H (.refl rs) rw' q⟩ hs
  · exact ix_str value slice pins s σ H _ _ _ _ Q I rv ru ⟨z, i, c, rx.at_, ry.at_, hz, he, k _ S _ H (.refl rs) (.of _) q⟩ hs
  · obtain ⟨a, r, rfl, g, e1, e2⟩ := at_get rs ry rx he
    obtain ⟨w, rfl, rw'⟩ := e2 d rfl
    exact ixr_dict (by omega) value slice pins s σ H _ _ _ _ Q I rv ru ⟨a, w, rfl, g, k _ S _ H (.refl rs) rw' q⟩ hs

/-! ### slices -/
abbrev TDO := DSt → Sto → (Option Int → Sto → Prop) → Prop
def lO (K : PySem.W.Frag) (t : TDO) : TO := fun σ H Q => ∃ N δ S Q', RE ⟨K, N⟩ H S σ δ ∧ RS ⟨K, N⟩ H S ∧ t δ S Q' ∧ ∀ o S' H', Bh ⟨K, N⟩ H S H' S' → Q' o S' → Q o H'
theorem PO.wk {e : Option Expr} {t t' : TO} (h : PO X e t) (k : ∀ σ H Q, t' σ H Q → t σ H Q) : PO X e t' := ⟨fun pins s σ H Q I q => h.run pins s σ H Q I (k σ H Q q)⟩
def dNoPart : TDO := fun _ S Q => Q none S
def dPart (t : TDE) : TDO := fun δ S Q => t δ S fun x S1 => ∃ i : Int, x = .int i ∧ Q (some i) S1
theorem do_none : PO X none (lO X.K dNoPart) := PO.wk po_none fun σ H Q ⟨N, δ, S, Q', re, rs, q, k⟩ => k _ S H (.refl rs) q
theorem do_some {e : Expr} {te : TDE} (h : PE X e (lE X.K te)) : PO X (some e) (lO X.K (dPart te)) := PO.wk (po_some h) fun σ H Q ⟨N, δ, S, Q', re, rs, q, k⟩ => by
  refine ⟨N, δ, S, _, re, rs, q, fun x S1 v H1 b1 r1 q1 => ?_⟩
  obtain ⟨i, rfl, q1⟩ := q1
  exact ⟨i, r1.at_, k _ S1 H1 b1 q1⟩
abbrev RDS := D → Option Int → Option Int → Sto → KD → Prop
def cutD (xs : List D) (lo hi : Option Int) : List D := (xs.drop (HT.sIx xs.length 0 lo)).take (HT.sIx xs.length xs.length hi - HT.sIx xs.length 0 lo)
theorem rds_cut {K : Kx} {H : Hp} {S : Sto} {vs : List V} {ds : List D} (r : RDs K H S vs ds) (lo hi : Option Int) : RDs K H S (cutV vs lo hi) (cutD ds lo hi) := by
  unfold cutV cutD
  rw [r.length]
  exact (r.drop _).take _
def sliceD (mu : Bool) : RDS := fun x lo hi S Q => match x with
  | .at (.str z) => z.length ≤ sizeLine ∧ Q (.str (cutS z lo hi)) S
  | .tup xs => Q (.tup (cutD xs lo hi)) S
  | x => ∃ xs, lsOf S x = some xs ∧ (if mu = true then ∀ p, S p = none → Q (.ref p) (up S p (.lst (cutD xs lo hi))) else Q (.fl (cutD xs lo hi)) S)
def lSl (K : PySem.W.Frag) (r : RDS) : V → Option Int → Option Int → Hp → VK → Prop := fun v lo hi H Q => ∃ N x S Q', RD ⟨K, N⟩ H S v x ∧ RS ⟨K, N⟩ H S ∧ r x lo hi S Q' ∧ ∀ d S' w H', Bh ⟨K, N⟩ H S H' S' → RD ⟨K, N⟩ H' S' w d → Q' d S' → Q w H'
theorem cut_whole {α : Type} {xs : List α} {lo hi : Option Int} (h : HT.sIx xs.length 0 lo = 0 ∧ HT.sIx xs.length xs.length hi = xs.length) : (xs.drop (HT.sIx xs.length 0 lo)).take (HT.sIx xs.length xs.length hi - HT.sIx xs.length 0 lo) = xs := by
  rw [h.1, h.2]; simp
theorem xd_slice (mu : Bool) : SlR X (lSl X.K (sliceD mu)) := by
  intro pins s σ H v vv vl vu lo hi sl Q I rv hs pl pu hh
  obtain ⟨N, x, S, Q', rx, rs, q, k⟩ := hh
  have lists : ∀ {xs : List D}, lsOf S x = some xs → (if mu = true then ∀ p, S p = none → Q' (.ref p) (up S p (.lst (cutD xs lo hi))) else Q' (.fl (cutD xs lo hi)) S) → ∃ T id, typeLookup (.type T) "__getitem__" = pure (some (.builtin id)) ∧ s.TypeIs vv T ∧ wpAny (model X.prog X.w) X.A (getItem vv (.ref sl)) (EP X pins σ Q) X.xe s := by
    intro xs h1 q
    obtain ⟨a, vs, rfl, sa, ra⟩ := ls_sq rs rx h1
    refine sl_list pins s σ H _ vv vl vu lo hi sl Q I rv hs pl pu ⟨a, vs, rfl, sa, fun p np => ?_⟩
    cases mu with
    | true =>
      rw [if_pos rfl] at q
      exact k _ _ _ _ (new_lst rs np (rds_cut ra lo hi)) (.of _) (q p (rs.free np))
    | false =>
      rw [if_neg Bool.false_ne_true] at q
      obtain ⟨b1, r1⟩ := new_fl rs np (rds_cut ra lo hi)
      exact k _ _ _ _ b1 r1 q
  unfold sliceD at q
  split at q
  · rename_i z
    exact sl_str pins s σ H _ vv vl vu lo hi sl Q I rv hs pl pu ⟨z, rx.at_, q.1, k _ S _ H (.refl rs) (.of _) q.2⟩
  · rename_i xs
    obtain ⟨a, vs, rfl, t, r⟩ := rx.tup_
    refine sl_tupA pins s σ H _ vv vl vu lo hi sl Q I rv hs pl pu ⟨a, vs, rfl, .of t, fun hw => ?_, fun _ p np => ?_⟩
    · rw [r.length] at hw
      unfold cutD at q
      rw [cut_whole hw] at q
      exact k _ S _ H (.refl rs) (.of_tup t r) q
    · obtain ⟨b1, r1⟩ := new_tup rs np (rds_cut r lo hi)
      exact k _ S _ _ b1 r1 q
  · obtain ⟨xs, h1, q⟩ := q
    exact lists h1 q
def dSlice (r : RDS) (te : TDE) (tl th : TDO) : TDE := fun δ S Q => te δ S fun x S1 => tl δ S1 fun l S2 => th δ S2 fun u S3 => r x l u S3 Q
theorem de_slice {r : RDS} {e : Expr} {lo hi : Option Expr} {te : TDE} {tl th : TDO} {pos p2 : Pos} (ho : SlR X (lSl X.K r)) (he : PE X e (lE X.K te)) (hl : PO X lo (lO X.K tl)) (hu : PO X hi (lO X.K th)) : PE X (.Subscript e (.Slice lo hi none p2) pos) (lE X.K (dSlice r te tl th)) :=
  PE.wk (pe_slice ho he hl hu) fun σ H Q ⟨N, δ, S, Q', re, rs, q, k⟩ => by
    refine ⟨N, δ, S, _, re, rs, q, fun x S1 v H1 b1 rx q1 => ?_⟩
    refine ⟨N, δ, S1, _, re.le (rs.le b1.fr), b1.rs, q1, fun l S2 H2 b2 q2 => ?_⟩
    have b12 := b1.trans b2
    refine ⟨N, δ, S2, _, re.le (rs.le b12.fr), b2.rs, q2, fun u S3 H3 b3 q3 => ?_⟩
    exact ⟨N, x, S3, Q', (rx.le (b1.rs.le b2.fr)).le (b2.rs.le b3.fr), b3.rs, q3, fun d S' w H' b4 => k d S' w H' ((b12.trans b3).trans b4)⟩

/-! ### truth -/
def truD : D → Sto → (Bool → Sto → Prop) → Prop := fun x S Q => match x with
  | .at .non => Q false S
  | .at (.bl b) => Q b S
  | .at (.int i) => Q (i != 0) S
  | .at (.str y) => y.length ≤ sizeLine ∧ Q ((y.length : Int) != 0) S
  | x => (∃ xs, sqOf S x = some xs ∧ Q (!xs.isEmpty) S) ∨ ∃ a kvs, x = .ref a ∧ S a = some (.dk kvs) ∧ Q (!kvs.isEmpty) S
theorem emp_rd {K : Kx} {H : Hp} {S : Sto} {vs : List V} {ds : List D} (r : RDs K H S vs ds) : vs.isEmpty = ds.isEmpty := by
  have := r.length
  cases vs <;> cases ds <;> simp_all
theorem td_tru : TruR X (lTr X.K truD) := by
  intro pins s σ H v vv Q I rv hh
  obtain ⟨N, x, S, Q', rx, rs, q, k⟩ := hh
  unfold truD at q
  split at q
  · exact tru_ok pins s σ H v vv Q I rv ⟨false, by rw [rx.at_]; rfl, k _ S H (.refl rs) q⟩
  · rename_i b
    exact tru_ok pins s σ H v vv Q I rv ⟨b, by rw [rx.at_]; rfl, k _ S H (.refl rs) q⟩
  · rename_i i
    exact tru_ok pins s σ H v vv Q I rv ⟨i != 0, by rw [rx.at_]; rfl, k _ S H (.refl rs) q⟩
  · rename_i y
    exact tru_ok pins s σ H v vv Q I rv ⟨_, by rw [rx.at_]; exact ⟨q.1, rfl⟩, k _ S H (.refl rs) q.2⟩
  · rcases q with ⟨xs, h1, q⟩ | ⟨a, kvs, rfl, e, q⟩
    · obtain ⟨a, vs, rfl, sq, r⟩ := sq_sq rs rx h1
      rw [← emp_rd r] at q
      refine tru_ok pins s σ H _ vv Q I rv ⟨!vs.isEmpty, ?_, k _ S H (.refl rs) q⟩
      rcases sq with sq | sq
      · exact .inl ⟨vs, sq, rfl⟩
      · exact .inr (.inl ⟨vs, sq, rfl⟩)
    · obtain ⟨ks, h1, h2, h3⟩ := rs.ob a _ e
      have e1 : ks.isEmpty = kvs.isEmpty := by
        have := congrArg List.length h2
        cases ks <;> cases kvs <;> simp_all
      rw [← e1] at q
      exact tru_ok pins s σ H _ vv Q I rv ⟨!ks.isEmpty, by rw [rx.at_]; exact .inr (.inr ⟨ks, h1, rfl⟩), k _ S H (.refl rs) q⟩
end
end DL

/-! Data layer, sixth part: stores into things, methods, built-ins, repr, enumerate. -/
namespace DL
open PySem L2 PyProof.Rows
section
variable {X : Cx} {k : Nat}

/-! ### o[i] = v -/
/-- x, y, value: the store behind -/
def setD : D → D → D → Sto → (Sto → Prop) → Prop := fun x y v S Q => ∃ a, x = .ref a ∧ ((∃ xs i j, S a = some (.lst xs) ∧ y = .int i ∧ ixN xs.length i = some j ∧ Q (up S a (.lst (xs.set j v)))) ∨
  (∃ kvs κ, S a = some (.dk kvs) ∧ keyD y = some κ ∧ kvs.length < sizeLine ∧ Q (up S a (.dk (putD kvs κ v)))) ∨ ∃ kvs ds κ, S a = some (.dt kvs) ∧ y = .tup ds ∧ keysD ds = some κ ∧ kvs.length < sizeLine ∧ Q (up S a (.dt (putD kvs κ v))))
def lSet (K : PySem.W.Frag) : TSet := fun o i v H Q => ∃ N x y z S Q', RD ⟨K, N⟩ H S o x ∧ RD ⟨K, N⟩ H S i y ∧ RD ⟨K, N⟩ H S v z ∧ RS ⟨K, N⟩ H S ∧ setD x y z S Q' ∧ ∀ S' H', Bh ⟨K, N⟩ H S H' S' → Q' S' → Q H'
theorem pset_set (hr : Rg k X.A) : PSet X (lSet X.K) := by
  intro pins s σ H o i v ov iv u Q I ro ri rv hh
  obtain ⟨N, x, y, z, S, Q', rx, ry, rz, rs, q, kk⟩ := hh
  have hu := hr.r.un
  obtain ⟨a, rfl, q⟩ := q
  have eo := rx.at_
  subst eo
  rcases q with ⟨xs, n, j, e, rfl, hj, q⟩ | ⟨kvs, κ, e, hk, hl, q⟩ | ⟨kvs, ds, κ, e, rfl, hk, hl, q⟩
  · obtain ⟨vs, h1, h2⟩ := rs.ob a _ e
    have ei := ry.at_
    subst ei
    refine set_list pins s σ H _ _ v ov iv u Q I ro ri rv ⟨a, vs, n, j, rfl, rfl, h1, by rw [h2.length]; exact hj, ?_⟩
    obtain ⟨b1, b2⟩ := rs.write (o := .lst (vs.set j v)) (m' := .lst (xs.set j z)) e fun le => ⟨_, upd_same, (h2.set rz j).le le⟩
    exact kk _ _ ⟨b2, b1⟩ q
  · obtain ⟨ks, h1, h2, h3⟩ := rs.ob a _ e
    have ey := keyD_eq hk
    subst ey
    have ei := ry.at_
    subst ei
    have hll : ks.length = kvs.length := by simpa using congrArg List.length h2
    obtain ⟨p1, p2⟩ := rel_put h2 h3 κ rz
    obtain ⟨b1, b2⟩ := rs.write (o := .dK (putK ks κ v)) (m' := .dk (putD kvs κ z)) e fun le => ⟨_, upd_same, p1, p2.le le⟩
    refine set_dict (by omega) pins s σ H _ _ v ov iv u Q I ro ri rv ⟨a, _, rfl, .inl ⟨ks, κ, h1, rfl, by omega, rfl⟩, kk _ _ ⟨b2, b1⟩ q⟩
  · obtain ⟨ks, h1, h2, h3⟩ := rs.ob a _ e
    have ey := keysD_eq hk
    subst ey
    obtain ⟨b, vs, rfl, t, rv'⟩ := ry.tup_
    have evs : vs = κ.map kV := rv'.atoms
    subst evs
    have hll : ks.length = kvs.length := by simpa using congrArg List.length h2
    obtain ⟨p1, p2⟩ := rel_put h2 h3 κ rz
    obtain ⟨b1, b2⟩ := rs.write (o := .dT (putK ks κ v)) (m' := .dt (putD kvs κ z)) e fun le => ⟨_, upd_same, p1, p2.le le⟩
    refine set_dict (by omega) pins s σ H _ _ v ov iv u Q I ro ri rv ⟨a, _, rfl, .inr ⟨ks, κ, b, h1, rfl, t, by omega, rfl⟩, kk _ _ ⟨b2, b1⟩ q⟩
def gdSub (to ti : TDE) : TDG := fun d δ S Q => to δ S fun o S1 => ti δ S1 fun i S2 => setD o i d S2 fun S3 => Q δ S3
theorem dg_sub {o i : Expr} {to ti : TDE} {pos : Pos} (hr : Rg k X.A) (ho : PE X o (lE X.K to)) (hi : PE X i (lE X.K ti))
    (ha : ∀ v, assign (.Subscript o i pos) X.env v = (do
      let ov ← holding [v] (eval o X.env)
      let iv ← holding [v, ov] (eval i X.env)
      standAt pos
      holding [v, ov, iv] (setItem ov iv v)
      release [v, ov, iv] []) := by intro _; rfl) : PG X (.Subscript o i pos) (lG X.K (gdSub to ti)) :=
  PG.wk (pg_sub ho hi (pset_set hr) ha) fun v σ H Q ⟨N, d, δ, S, Q', rd, re, rs, q, kk⟩ => by
    refine ⟨N, δ, S, _, re, rs, q, fun x S1 ov H1 b1 rx q1 => ?_⟩
    refine ⟨N, δ, S1, _, re.le (rs.le b1.fr), b1.rs, q1, fun y S2 iv H2 b2 ry q2 => ?_⟩
    have b12 := b1.trans b2
    refine ⟨N, x, y, d, S2, _, rx.le (b1.rs.le b2.fr), ry, rd.le (rs.le b12.fr), b2.rs, q2, fun S' H' b3 q3 => ?_⟩
    have b13 := b12.trans b3
    exact kk δ S' σ H' b13 (re.le (rs.le b13.fr)) q3

/-! ### name op= e, o[i] op= e -/
def lIp (K : PySem.W.Frag) (r : RD2) : TIp := l2 K r
def addI : RD2 := intD (fun _ _ => True) fun i j => .int (i + j)
def subI : RD2 := intD (fun _ _ => True) fun i j => .int (i - j)
theorem pip_add : PIp X .Add (l2 X.K addI) := by
  intro pins s σ H v u vv uu Q I rv ru h'
  obtain ⟨N, x, y, S, Q', rx, ry, rs, q, k⟩ := h'
  unfold addI intD at q
  split at q
  · rename_i i j
    exact ip_add pins s σ H _ _ _ _ Q I rv ru ⟨i, j, rx.at_, ry.at_, k _ S _ H (.refl rs) (.of _) q.2⟩
  · exact q.elim
theorem pip_sub : PIp X .Sub (l2 X.K subI) := by
  intro pins s σ H v u vv uu Q I rv ru h'
  obtain ⟨N, x, y, S, Q', rx, ry, rs, q, k⟩ := h'
  unfold subI intD at q
  split at q
  · rename_i i j
    exact ip_sub pins s σ H _ _ _ _ Q I rv ru ⟨i, j, rx.at_, ry.at_, k _ S _ H (.refl rs) (.of _) q.2⟩
  · exact q.elim
def dAug (i : Nat) (te : TDE) (r : RD2) : TDS := fun D δ S => ∃ x, δ[i]? = some (some x) ∧ te δ S fun y S1 => r x y S1 fun z S2 => D.nx (δ.set i (some z)) S2
theorem ds_aug (i : Nat) {x : Str} {e : Expr} {te : TDE} {op : Operator} {r : RD2} {pos pos' : Pos} (hN : X.N.Nodup) (ho : PIp X op (l2 X.K r)) (he : PE X e (lE X.K te)) (hi : X.N[i]? = some x := by rfl) (hx : Loc X.env.scope x := by first | exact Or.inl rfl | exact Or.inr rfl) (hf : X.fn x = true ∨ X.env.scope.names.lookup x = some .local := by first | exact .inl rfl | exact .inr rfl | assumption) :
    PS X (.AugAssign (.Name x pos') op e pos) (lS X.K (dAug i te r)) :=
  PS.wk (ps_aug hN hi hx he ho hf) fun D σ H ⟨N, δ, S, D', re, rs, q, l⟩ => by
    obtain ⟨d, hd, q⟩ := q
    obtain ⟨v, hv, rv⟩ := re.2 i d hd
    refine ⟨v, hv, N, δ, S, _, re, rs, q, fun y S1 u H1 b1 ry q1 => ?_⟩
    refine ⟨N, d, y, S1, _, rv.le (rs.le b1.fr), ry, b1.rs, q1, fun z S2 w H2 b2 rz q2 => ?_⟩
    have b12 := b1.trans b2
    exact l.nx _ S2 _ H2 b12 ((re.le (rs.le b12.fr)).set rz i) q2

/-! ### methods -/
abbrev RDM := D → List D → Sto → KD → Prop
def lM (K : PySem.W.Frag) (r : RDM) : V → List V → Hp → VK → Prop := fun v vs H Q => ∃ N x xs S Q', RD ⟨K, N⟩ H S v x ∧ RDs ⟨K, N⟩ H S vs xs ∧ RS ⟨K, N⟩ H S ∧ r x xs S Q' ∧ ∀ d S' w H', Bh ⟨K, N⟩ H S H' S' → RD ⟨K, N⟩ H' S' w d → Q' d S' → Q w H'
/-- of that type -/
def tyD (S : Sto) (x : D) (T : String) : Prop := match x with
  | .at (.str _) => T = "str"
  | .at (.ref a) => match S a with
    | some (.lst _) => T = "list"
    | some (.dk _) => T = "dict"
    | some (.dt _) => T = "dict"
    | _ => False
  | .fl _ => T = "list"
  | _ => False
theorem ty_of {K : Kx} {H : Hp} {S : Sto} {v : V} {x : D} {T : String} (rs : RS K H S) (r : RD K H S v x) (h : tyD S x T) : tyV K.k T v H := by
  unfold tyD at h
  split at h
  · rw [r.at_]; exact h
  · rename_i a
    rw [r.at_]
    split at h
    · rename_i xs e
      obtain ⟨vs, h1, _⟩ := rs.ob a _ e
      exact .inl ⟨h, vs, .of h1⟩
    · rename_i kvs e
      obtain ⟨ks, h1, _⟩ := rs.ob a _ e
      exact .inr (.inr (.inl ⟨h, .inl ⟨ks, h1⟩⟩))
    · rename_i kvs e
      obtain ⟨ks, h1, _⟩ := rs.ob a _ e
      exact .inr (.inr (.inl ⟨h, .inr ⟨ks, h1⟩⟩))
    · exact h.elim
  · obtain ⟨a, vs, rfl, fz, _⟩ := r.fl_
    exact .inl ⟨h, vs, fz.sq⟩
  · exact h.elim
def dM0 (T : String) (r : RDM) (to : TDE) : TDE := fun δ S Q => to δ S fun x S1 => tyD S1 x T ∧ r x [] S1 Q
def dM (T : String) (r : RDM) (to : TDE) (t : TDA) : TDE := fun δ S Q => to δ S fun x S1 => tyD S1 x T ∧ t δ S1 fun xs S2 => r x xs S2 Q
variable {o e : Expr} {es : List Expr} {to : TDE} {t : TDA} {name : Str} {apos cpos : Pos} {T id : String} {r : RDM}
theorem de_m0 (pa : PlainAttrs T) (slot : Slot T name id) (hty : typeOf (.builtin id) = pure (.type "method_descriptor")) (hm : MtR X id (lM X.K r)) (ho : PE X o (lE X.K to))
    (hbase : attributeBase o name X.env (eval o X.env) = eval o X.env := by rfl) (hline : (apos.endLine == cpos.line) = true := by rfl) : PE X (.Call (.Attribute o name apos) [] [] cpos) (lE X.K (dM0 T r to)) :=
  PE.wk (pe_bm0 pa slot hty hm ho hbase hline) fun σ H Q ⟨N, δ, S, Q', re, rs, q, kk⟩ => by
    refine ⟨N, δ, S, _, re, rs, q, fun x S1 v H1 b1 rx q1 => ?_⟩
    exact ⟨ty_of b1.rs rx q1.1, N, x, [], S1, Q', rx, .nil, b1.rs, q1.2, fun d S' w H' b2 => kk d S' w H' (b1.trans b2)⟩
theorem de_m (pa : PlainAttrs T) (slot : Slot T name id) (hty : typeOf (.builtin id) = pure (.type "method_descriptor")) (hm : MtR X id (lM X.K r)) (ho : PE X o (lE X.K to)) (ha : PA X (e :: es) (lA X.K t))
    (hbase : attributeBase o name X.env (eval o X.env) = eval o X.env := by rfl)
    (hfew : ((backTo cpos (starEach (e :: es) X.env)).all (fun x => !x.1) && (backToKw cpos (keywordEach [] X.env)).all (fun x => x.1.isSome)
      && decide ((e :: es).length + ([] : List Keyword).length + (if ([] : List Keyword).isEmpty then 0 else 1) < 30)) = true := by rfl)
    (hline : (apos.endLine == cpos.line) = true := by rfl) (hs : starEach (e :: es) X.env = (false, eval e X.env) :: starEach es X.env := by rfl) (hplain : (backTo cpos (starEach es X.env)).any (·.1) = false := by rfl) :
    PE X (.Call (.Attribute o name apos) (e :: es) [] cpos) (lE X.K (dM T r to t)) :=
  PE.wk (pe_bm pa slot hty hm ho ha hbase hfew hline hs hplain) fun σ H Q ⟨N, δ, S, Q', re, rs, q, kk⟩ => by
    refine ⟨N, δ, S, _, re, rs, q, fun x S1 v H1 b1 rx q1 => ?_⟩
    refine ⟨ty_of b1.rs rx q1.1, N, δ, S1, _, re.le (rs.le b1.fr), b1.rs, q1.2, fun xs S2 vs H2 b2 rxs q2 => ?_⟩
    have b12 := b1.trans b2
    exact ⟨N, x, xs, S2, Q', rx.le (b1.rs.le b2.fr), rxs, b2.rs, q2, fun d S' w H' b3 => kk d S' w H' (b12.trans b3)⟩
/-- x.append(y) -/
def appD : RDM := fun x ys S Q => ∃ a xs y, x = .ref a ∧ ys = [y] ∧ S a = some (.lst xs) ∧ xs.length < sizeLine ∧ Q .non (up S a (.lst (xs ++ [y])))
theorem RDs.one' {K : Kx} {H : Hp} {S : Sto} {vs : List V} {d : D} (r : RDs K H S vs [d]) : ∃ v, vs = [v] ∧ RD K H S v d := by
  obtain ⟨v, ws, rfl, a, b⟩ := r.inv_cons
  rw [b.inv_nil]
  exact ⟨v, rfl, a⟩
theorem md_append : MtR X "list.append" (lM X.K appD) := by
  intro pins s σ H v vs vv us Q I rv rvs hh
  obtain ⟨N, x, ys, S, Q', rx, rxs, rs, ⟨a, xs, y, rfl, rfl, e, hz, q⟩, kk⟩ := hh
  obtain ⟨w, rfl, rw'⟩ := rxs.one'
  obtain ⟨ws, h1, h2⟩ := rs.ob a _ e
  obtain ⟨b1, b2⟩ := rs.write (o := .lst (ws ++ [w])) (m' := .lst (xs ++ [y])) e fun le => ⟨_, upd_same, (h2.append (.cons rw' .nil)).le le⟩
  exact mt_append pins s σ H v _ vv us Q I rv rvs ⟨a, ws, w, rx.at_, rfl, h1, by rw [h2.length]; exact hz, kk _ _ _ _ ⟨b2, b1⟩ (.of _) q⟩
/-- x.extend(y), lists -/
def extD : RDM := fun x ys S Q => ∃ a xs y zs, x = .ref a ∧ ys = [y] ∧ S a = some (.lst xs) ∧ lsOf S y = some zs ∧ y ≠ .ref a ∧ xs.length + zs.length ≤ sizeLine ∧ Q .non (up S a (.lst (xs ++ zs)))
theorem md_pop : MtR X "list.pop" (lM X.K fun x ys S Q => ∃ a xs y, x = .ref a ∧ ys = [] ∧ S a = some (.lst xs) ∧ xs[xs.length - 1]? = some y ∧ Q y (up S a (.lst xs.dropLast))) := by
  intro pins s σ H v vs vv us Q I rv rvs hh
  obtain ⟨N, x, ys, S, Q', rx, rxs, rs, ⟨a, xs, y, rfl, rfl, e, hy, q⟩, kk⟩ := hh
  have := rxs.inv_nil
  subst this
  obtain ⟨ws, h1, h2⟩ := rs.ob a _ e
  obtain ⟨w, hw, rw'⟩ := h2.get hy
  obtain ⟨b1, b2⟩ := rs.write (o := .lst ws.dropLast) (m' := .lst xs.dropLast) e fun le => ⟨_, upd_same, h2.dropLast.le le⟩
  exact mt_pop pins s σ H v _ vv us Q I rv rvs ⟨a, ws, w, rx.at_, rfl, h1, by rw [h2.length]; exact hw, kk _ _ _ _ ⟨b2, b1⟩ (rw'.le (rs.le b2)) q⟩
def popD : RDM := fun x ys S Q => ∃ a xs y, x = .ref a ∧ ys = [] ∧ S a = some (.lst xs) ∧ xs[xs.length - 1]? = some y ∧ Q y (up S a (.lst xs.dropLast))

/-! ### dict displays, get -/
def dDk : TDE := fun _ S Q => ∀ p, S p = none → Q (.ref p) (up S p (.dk []))
def dDt : TDE := fun _ S Q => ∀ p, S p = none → Q (.ref p) (up S p (.dt []))
theorem de_dk {pos : Pos} : PE X (.Dict [] [] pos) (lE X.K dDk) := PE.wk pe_dnewK fun σ H Q ⟨N, δ, S, Q', re, rs, q, kk⟩ p np => by
  obtain ⟨b1, b2⟩ := rs.new (o := .dK []) (m := .dk []) np fun le => ⟨[], upd_same, rfl, .nil⟩
  exact kk _ _ _ _ ⟨b2, b1⟩ (.of _) (q p (rs.free np))
theorem de_dt {pos : Pos} : PE X (.Dict [] [] pos) (lE X.K dDt) := PE.wk pe_dnewT fun σ H Q ⟨N, δ, S, Q', re, rs, q, kk⟩ p np => by
  obtain ⟨b1, b2⟩ := rs.new (o := .dT []) (m := .dt []) np fun le => ⟨[], upd_same, rfl, .nil⟩
  exact kk _ _ _ _ ⟨b2, b1⟩ (.of _) (q p (rs.free np))
def dGet1 (td ty : TDE) : TDE := fun δ S Q => td δ S fun x S1 => tyD S1 x "dict" ∧ ty δ S1 fun y S2 => ∃ o, atD S2 y x = some o ∧ Q (o.getD .non) S2
def dGet2 (td ty tx : TDE) : TDE := fun δ S Q => td δ S fun x S1 => tyD S1 x "dict" ∧ ty δ S1 fun y S2 => tx δ S2 fun z S3 => ∃ o, atD S3 y x = some o ∧ Q (o.getD z) S3
theorem isD_of {K : Kx} {H : Hp} {S : Sto} {v : V} {x : D} (rs : RS K H S) (r : RD K H S v x) (h : tyD S x "dict") : ∃ a, v = .ref a ∧ IsD H a := by
  unfold tyD at h
  split at h
  · exact absurd h (by decide)
  · rename_i a
    refine ⟨a, r.at_, ?_⟩
    split at h
    · exact absurd h (by decide)
    · rename_i kvs e
      obtain ⟨ks, h1, _⟩ := rs.ob a _ e
      exact .inl ⟨ks, .inl h1⟩
    · rename_i kvs e
      obtain ⟨ks, h1, _⟩ := rs.ob a _ e
      exact .inr ⟨ks, .inl h1⟩
    · exact h.elim
  · exact absurd h (by decide)
  · exact h.elim
theorem de_get1 {td ty : TDE} (hr : Rg k X.A) (ho : PE X o (lE X.K td)) (he : PE X e (lE X.K ty)) (m : M1 X o "get" apos e cpos) : PE X (.Call (.Attribute o "get" apos) [e] [] cpos) (lE X.K (dGet1 td ty)) :=
  PE.wk (pe_dget1 (by have := hr.r.un; omega) ho he m) fun σ H Q ⟨N, δ, S, Q', re, rs, q, kk⟩ => by
    refine ⟨N, δ, S, _, re, rs, q, fun x S1 v H1 b1 rx q1 => ?_⟩
    obtain ⟨a, rfl, hd⟩ := isD_of b1.rs rx q1.1
    refine ⟨a, rfl, hd, N, δ, S1, _, re.le (rs.le b1.fr), b1.rs, q1.2, fun y S2 u H2 b2 ry q2 => ?_⟩
    obtain ⟨o, ho, q2⟩ := q2
    have rx2 := rx.le (b1.rs.le b2.fr)
    obtain ⟨a', r, ea, g, e1, e2⟩ := at_get b2.rs ry rx2 ho
    cases ea
    refine ⟨r, g, ?_⟩
    cases o with
    | none => rw [e1 rfl]; exact kk _ S2 _ H2 (b1.trans b2) (.of _) q2
    | some d => obtain ⟨w, rfl, rw'⟩ := e2 d rfl; exact kk _ S2 _ H2 (b1.trans b2) rw' q2
theorem de_get2 {td ty tx : TDE} {f : Expr} (hr : Rg k X.A) (ho : PE X o (lE X.K td)) (he : PE X e (lE X.K ty)) (hf : PE X f (lE X.K tx)) (m : M2 X o "get" apos e f cpos) : PE X (.Call (.Attribute o "get" apos) [e, f] [] cpos) (lE X.K (dGet2 td ty tx)) :=
  PE.wk (pe_dget2 (by have := hr.r.un; omega) ho he hf m) fun σ H Q ⟨N, δ, S, Q', re, rs, q, kk⟩ => by
    refine ⟨N, δ, S, _, re, rs, q, fun x S1 v H1 b1 rx q1 => ?_⟩
    obtain ⟨a, rfl, hd⟩ := isD_of b1.rs rx q1.1
    refine ⟨a, rfl, hd, N, δ, S1, _, re.le (rs.le b1.fr), b1.rs, q1.2, fun y S2 u H2 b2 ry q2 => ?_⟩
    have b12 := b1.trans b2
    refine ⟨N, δ, S2, _, re.le (rs.le b12.fr), b2.rs, q2, fun z S3 w H3 b3 rz q3 => ?_⟩
    obtain ⟨o, ho, q3⟩ := q3
    have rx2 := (rx.le (b1.rs.le b2.fr)).le (b2.rs.le b3.fr)
    obtain ⟨a', r, ea, g, e1, e2⟩ := at_get b3.rs (ry.le (b2.rs.le b3.fr)) rx2 ho
    cases ea
    refine ⟨r, g, ?_⟩
    cases o with
    | none => rw [e1 rfl]; exact kk _ S3 _ H3 (b12.trans b3) rz q3
    | some d => obtain ⟨w, rfl, rw'⟩ := e2 d rfl; exact kk _ S3 _ H3 (b12.trans b3) rw' q3

/-! ### built-ins -/
/-- len -/
def lenD : RDL := fun ds S Q => ∃ x, ds = [x] ∧ match x with
  | .at (.str z) => z.length ≤ sizeLine ∧ Q (.int z.length) S
  | x => (∃ xs, sqOf S x = some xs ∧ Q (.int xs.length) S) ∨ (∃ a kvs, x = .ref a ∧ S a = some (.dk kvs) ∧ Q (.int kvs.length) S) ∨ ∃ a kvs, x = .ref a ∧ S a = some (.dt kvs) ∧ Q (.int kvs.length) S
theorem cd_len : CallR X (.builtin "len") (lL X.K lenD) := by
  intro pins s σ H vs us Q I r hh
  obtain ⟨N, ds, S, Q', rd, rs, ⟨x, rfl, q⟩, kk⟩ := hh
  obtain ⟨v, rfl, rx⟩ := rd.one'
  split at q
  · rename_i z
    have := rx.at_
    subst this
    exact call_len_str pins s σ H _ us Q I r ⟨z, rfl, q.1, kk _ S _ H (.refl rs) (.of _) q.2⟩
  · rcases q with ⟨xs, hx, q⟩ | ⟨a, kvs, rfl, e, q⟩ | ⟨a, kvs, rfl, e, q⟩
    · obtain ⟨a, ws, rfl, sq, rw'⟩ := sq_sq rs rx hx
      exact call_len_seq pins s σ H _ us Q I r ⟨a, ws, rfl, sq, kk _ S _ H (.refl rs) (by rw [rw'.length]; exact .of _) q⟩
    · obtain ⟨ks, h1, h2, h3⟩ := rs.ob a _ e
      have hl : ks.length = kvs.length := by simpa using congrArg List.length h2
      have := rx.at_
      subst this
      exact call_lenD pins s σ H _ us Q I r ⟨a, ks, rfl, h1, kk _ S _ H (.refl rs) (by rw [hl]; exact .of _) q⟩
    · obtain ⟨ks, h1, h2, h3⟩ := rs.ob a _ e
      have hl : ks.length = kvs.length := by simpa using congrArg List.length h2
      have := rx.at_
      subst this
      exact call_len_dT pins s σ H _ us Q I r ⟨a, ks, rfl, h1, kk _ S _ H (.refl rs) (by rw [hl]; exact .of _) q⟩
/-- list(x) -/
def lstD (mu : Bool) : RDL := fun ds S Q => ∃ x xs, ds = [x] ∧ sqOf S x = some xs ∧ (if mu = true then ∀ p, S p = none → Q (.ref p) (up S p (.lst xs)) else Q (.fl xs) S)
theorem cd_list (mu : Bool) : CallR X (.type "list") (lL X.K (lstD mu)) := by
  intro pins s σ H vs us Q I r hh
  obtain ⟨N, ds, S, Q', rd, rs, ⟨x, xs, rfl, hx, q⟩, kk⟩ := hh
  obtain ⟨v, rfl, rx⟩ := rd.one'
  obtain ⟨a, ws, rfl, sq, rw'⟩ := sq_sq rs rx hx
  refine call_list_of pins s σ H _ us Q I r ⟨a, ws, rfl, sq, fun p np => ?_⟩
  cases mu with
  | true =>
    rw [if_pos rfl] at q
    exact kk _ _ _ _ (new_lst rs np rw') (.of _) (q p (rs.free np))
  | false =>
    rw [if_neg Bool.false_ne_true] at q
    obtain ⟨b1, r1⟩ := new_fl rs np rw'
    exact kk _ _ _ _ b1 r1 q
/-- tuple(x) -/
def tplD : RDL := fun ds S Q => ∃ x, ds = [x] ∧ match x with
  | .tup xs => Q (.tup xs) S
  | x => ∃ xs, lsOf S x = some xs ∧ Q (.tup xs) S
theorem cd_tuple : CallR X (.type "tuple") (lL X.K tplD) := by
  intro pins s σ H vs us Q I r hh
  obtain ⟨N, ds, S, Q', rd, rs, ⟨x, rfl, q⟩, kk⟩ := hh
  obtain ⟨v, rfl, rx⟩ := rd.one'
  split at q
  · obtain ⟨a, ws, rfl, t, rw'⟩ := rx.tup_
    exact call_tuple_of pins s σ H _ us Q I r ⟨a, ws, rfl, .inr ⟨.of t, kk _ S _ H (.refl rs) (.of_tup t rw') q⟩⟩
  · obtain ⟨xs, hx, q⟩ := q
    obtain ⟨a, ws, rfl, sq, rw'⟩ := ls_sq rs rx hx
    refine call_tuple_of pins s σ H _ us Q I r ⟨a, ws, rfl, .inl ⟨sq, fun p np => ?_⟩⟩
    obtain ⟨b1, r1⟩ := new_tup rs np rw'
    exact kk _ _ _ _ b1 r1 q
/-- any, all of bools -/
def anyD : RDL := fun ds S Q => ∃ (x : D) (bs : List Bool), ds = [x] ∧ lsOf S x = some (bs.map D.bl) ∧ Q (.bl (bs.any _root_.id)) S
def allD : RDL := fun ds S Q => ∃ (x : D) (bs : List Bool), ds = [x] ∧ lsOf S x = some (bs.map D.bl) ∧ Q (.bl (bs.all _root_.id)) S
theorem cd_any (hc : X.calm = true) : CallR X (.builtin "any") (lL X.K anyD) := by
  intro pins s σ H vs us Q I r hh
  obtain ⟨N, ds, S, Q', rd, rs, ⟨x, bs, rfl, hx, q⟩, kk⟩ := hh
  obtain ⟨v, rfl, rx⟩ := rd.one'
  obtain ⟨a, ws, rfl, sq, rw'⟩ := ls_sq rs rx hx
  have e : ws = bs.map V.bl := RDs.atoms (us := bs.map V.bl) (by rw [List.map_map]; exact rw')
  subst e
  exact L2.cr_any hc pins s σ H _ us Q I r ⟨a, bs, rfl, sq, kk _ S _ H (.refl rs) (.of _) q⟩
theorem cd_all (hc : X.calm = true) : CallR X (.builtin "all") (lL X.K allD) := by
  intro pins s σ H vs us Q I r hh
  obtain ⟨N, ds, S, Q', rd, rs, ⟨x, bs, rfl, hx, q⟩, kk⟩ := hh
  obtain ⟨v, rfl, rx⟩ := rd.one'
  obtain ⟨a, ws, rfl, sq, rw'⟩ := ls_sq rs rx hx
  have e : ws = bs.map V.bl := RDs.atoms (us := bs.map V.bl) (by rw [List.map_map]; exact rw')
  subst e
  exact L2.cr_all hc pins s σ H _ us Q I r ⟨a, bs, rfl, sq, kk _ S _ H (.refl rs) (.of _) q⟩
def min2D : RDL := fun ds S Q => ∃ i j : Int, ds = [.int i, .int j] ∧ Q (.int (if j < i then j else i)) S
def max2D : RDL := fun ds S Q => ∃ i j : Int, ds = [.int i, .int j] ∧ Q (.int (if j > i then j else i)) S
theorem cd_min2 (hc : X.calm = true) : CallR X (.builtin "min") (lL X.K min2D) := by
  intro pins s σ H vs us Q I r hh
  obtain ⟨N, ds, S, Q', rd, rs, ⟨i, j, rfl, q⟩, kk⟩ := hh
  exact call_min2 hc pins s σ H _ us Q I r ⟨i, j, rd.two, kk _ S _ H (.refl rs) (.of _) q⟩
theorem cd_max2 (hc : X.calm = true) : CallR X (.builtin "max") (lL X.K max2D) := by
  intro pins s σ H vs us Q I r hh
  obtain ⟨N, ds, S, Q', rd, rs, ⟨i, j, rfl, q⟩, kk⟩ := hh
  exact call_max2 hc pins s σ H _ us Q I r ⟨i, j, rd.two, kk _ S _ H (.refl rs) (.of _) q⟩

/-! ### repr -/
/-- fit to be shown -/
def shOk (d : PyData) : Prop := d.showable = true ∧ d.depth ≤ 64 ∧ d.shown.length ≤ sizeLine ∧ d.hasDict = false
def repD : RDL := fun ds S Q => ∃ x, ds = [x] ∧ pur (rsv S x) = true ∧ shOk (toPy (rsv S x)) ∧ Q (.str (toPy (rsv S x)).shown) S
theorem cd_repr (hr : Rg k X.A) : CallR X (.builtin "repr") (lL X.K repD) := by
  intro pins s σ H vs us Q I r hh
  obtain ⟨N, ds, S, Q', rd, rs, ⟨x, rfl, hp, ⟨hs, hd, hl, hn⟩, q⟩, kk⟩ := hh
  obtain ⟨v, rfl, rx⟩ := rd.one'
  have dp := dp_rsv rs rx hp
  have fin : ∀ {u : Tok} {h' : Heap} {tk : Nat}, Inv X pins σ H { s with heap := h', toks := tk } → EP X pins σ Q (.str (toPy (rsv S x)).shown u) { s with heap := h', toks := tk } := fun {u h' tk} J => ⟨.str _, H, J, ⟨u, rfl⟩, kk _ S _ H (.refl rs) (.of _) q⟩
  obtain ⟨u, rfl, ru⟩ := Vals.one r
  generalize toPy (rsv S x) = d at dp hs hd hl hn fin
  have hu := hr.r.un
  have refs : ∀ {a : Addr}, u = .ref a → wpAny (model X.prog X.w) X.A (call (.builtin "repr") [u]) (EP X pins σ Q) X.xe s := by
    intro a e
    subst e
    obtain ⟨as, rr⟩ := Dp.reads I d v _ dp ru
    exact repr_of_reads' rr hs (fun z => by rw [hn] at z; cases z) hr.g (by omega) (fun _ _ e => e) (fun h' u tk hk => fin (I.kept hk)) hl
  cases d with
  | none =>
    cases dp; cases ru
    exact PySem.P.repr_of_none (fin (I.tok _))
  | bool b =>
    cases dp; cases ru
    exact PySem.P.repr_of_bool (by cases b <;> exact fin (I.tok _))
  | int i =>
    cases dp
    obtain ⟨t, rfl⟩ := ru
    exact PySem.P.repr_of_int (of_decide_eq_true hs) (fin (I.tok _))
  | str z =>
    cases dp
    obtain ⟨t, rfl⟩ := ru
    exact PySem.P.repr_of_str (fin (I.tok _)) hl
  | list xs =>
    cases dp
    cases ru
    exact refs rfl
  | tuple xs =>
    cases dp
    cases ru
    exact refs rfl
  | dict kvs => cases dp

end
end DL

/-! Data layer, seventh part: enumerate, zip, range with a step, turned lists, sorted. -/
namespace DL
open PySem L2 PyProof.Rows
section
variable {X : Cx} {k : Nat}

/-! ### enumerate, zip -/
theorem rel_ls {K : Kx} {H0 : Hp} {S0 : Sto} {v : V} {x : D} {ds : List D} (rs : RS K H0 S0) (r : RD K H0 S0 v x) (h : lsOf S0 x = some ds) : ∃ a vs, v = .ref a ∧ SqL K.k H0 a vs ∧ (x = .fl ds ∧ Fz K H0 S0 a vs ∧ RDs K H0 S0 vs ds ∨ x = .ref a ∧ S0 a = some (.lst ds)) := by
  unfold lsOf at h
  split at h
  · cases h
    obtain ⟨a, vs, rfl, fz, rv⟩ := r.fl_
    exact ⟨a, vs, rfl, fz.sq, .inl ⟨rfl, fz, rv⟩⟩
  · rename_i a
    split at h
    · rename_i ys e
      cases h
      obtain ⟨vs, h1, h2⟩ := rs.ob a _ e
      exact ⟨a, vs, r.at_, .of h1, .inr ⟨rfl, e⟩⟩
    · cases h
  · cases h
/-- a list that is walked while it stands: at each turn its items, a frozen one's without a look at the store -/
def lsI (x : D) (S : Sto) : Option (List D) := lsOf S x
theorem ls_at {K : Kx} {H0 H : Hp} {S0 S : Sto} {M : Addr → Prop} {a : Addr} {vs0 : List V} {x : D} {ds0 ds : List D} (b : Bh ⟨K.k, M⟩ H0 S0 H S) (le : TupLe K H0 S0 ⟨K.k, M⟩ H S)
    (h : x = .fl ds0 ∧ Fz K H0 S0 a vs0 ∧ RDs K H0 S0 vs0 ds0 ∨ x = .ref a ∧ S0 a = some (.lst ds0)) (e : lsOf S x = some ds) : ∃ vs, SqL K.k H a vs ∧ RDs ⟨K.k, M⟩ H S vs ds := by
  rcases h with ⟨rfl, fz, r⟩ | ⟨rfl, _⟩
  · cases e
    exact ⟨vs0, (le.l _ _ fz).sq, r.le le⟩
  · unfold lsOf at e
    dsimp only at e
    split at e
    · rename_i ys e'
      cases e
      obtain ⟨vs, h1, h2⟩ := b.rs.ob a _ e'
      exact ⟨vs, .of h1, h2⟩
    · cases e
/-- enumerate(x) -/
def enumI (x : D) : ItD := fun i S => (lsOf S x).map fun ds => ds[i]?.map fun d => .tup [.int i, d]
def iEnumD (t : TDA) : TDI := fun δ S R => t δ S fun xs S1 => ∃ x ds, xs = [x] ∧ lsOf S1 x = some ds ∧ R (enumI x) S1
theorem sql_uniq {K : PySem.W.Frag} {H : Hp} {pins : List (Addr × Obj)} {a : Addr} {xs ys : List V} (h : SqL K H a xs) (h' : SqL K H a ys) (u : ∀ zs, SqL K H a zs → zs = xs) : ys = xs := u _ h'
theorem di_enum {e : Expr} {ta : TDA} {p pos tpos : Pos} {elts : List Expr} {kk : Nat} (hg : Gl X "enumerate") (hm : X.mg "enumerate" = none) (ha : PA X [e] (lA X.K ta)) (hs : starEach [e] X.env = [(false, eval e X.env)] := by rfl) :
    PI X (.Tuple elts kk tpos) (.Call (.Name "enumerate" p) [e] [] pos) (lI X.K (iEnumD ta)) :=
  PI.wk (pi_enum hg hm ha hs) fun σ H R ⟨N, δ, S, R', re, rs, q, kk⟩ => by
    refine ⟨N, δ, S, _, re, rs, q, fun xs S1 vs H1 b1 rv q1 => ?_⟩
    obtain ⟨x, ds, rfl, hl, q1⟩ := q1
    obtain ⟨v, rfl, rx⟩ := rv.one'
    obtain ⟨a, ws, rfl, sq, w⟩ := rel_ls b1.rs rx hl
    refine ⟨a, ws, rfl, sq, kk _ S1 _ H1 b1 ?_ q1⟩
    intro M i H' S' b le
    unfold enumI
    refine ⟨fun ez => ?_, fun d ez => ?_⟩
    · obtain ⟨es, h1, h2⟩ := Option.map_eq_some_iff.mp ez
      obtain ⟨us, sq', r'⟩ := ls_at b le w h1
      exact ⟨us, sq', by rw [r'.length]; exact List.getElem?_eq_none_iff.mp (Option.map_eq_none_iff.mp h2)⟩
    · obtain ⟨es, h1, h2⟩ := Option.map_eq_some_iff.mp ez
      obtain ⟨y, h3, h4⟩ := Option.map_eq_some_iff.mp h2
      obtain ⟨us, sq', r'⟩ := ls_at b le w h1
      obtain ⟨u, hu, ru⟩ := r'.get h3
      refine ⟨⟨us, u, sq', hu⟩, fun z H2 yl => ?_⟩
      obtain ⟨T, z', rfl, hT, rfl, hz⟩ := yl
      have ez' : us[i]? = some z' := hz us sq'
      rw [hu] at ez'
      cases ez'
      subst h4
      obtain ⟨b2, r2⟩ := new_tup b.rs hT (.cons (d := D.int i) (.of (.int i)) (.cons ru .nil))
      exact ⟨b2, r2⟩
/-- zip(x, y) of lists -/
def zipI (x y : D) : ItD := fun i S => (lsOf S x).bind fun ds => (lsOf S y).map fun es => ds[i]?.bind fun d => es[i]?.map fun e => .tup [d, e]
def iZipD (t : TDA) : TDI := fun δ S R => t δ S fun xs S1 => ∃ x y ds es, xs = [x, y] ∧ ((lsOf S1 x = some ds ∧ lsOf S1 y = some es ∧ R (zipI x y) S1) ∨ (x = .tup ds ∧ y = .tup es ∧ R (zipI (.fl ds) (.fl es)) S1))
theorem RDs.two' {K : Kx} {H : Hp} {S : Sto} {vs : List V} {d e : D} (r : RDs K H S vs [d, e]) : ∃ v w, vs = [v, w] ∧ RD K H S v d ∧ RD K H S w e := by
  obtain ⟨v, ws, rfl, a, b⟩ := r.inv_cons
  obtain ⟨w, us, rfl, b, c⟩ := b.inv_cons
  rw [c.inv_nil]
  exact ⟨v, w, rfl, a, b⟩
theorem zip_step {K : Kx} {H : Hp} {S : Sto} {us ws : List V} {ds es : List D} {i : Nat} (r1 : RDs K H S us ds) (r2 : RDs K H S ws es) {d : D} (h : (ds[i]?.bind fun d => es[i]?.map fun e => D.tup [d, e]) = some d) : ∃ u w y z, us[i]? = some u ∧ ws[i]? = some w ∧ d = .tup [y, z] ∧ RD K H S u y ∧ RD K H S w z := by
  obtain ⟨y, h1, h2⟩ := Option.bind_eq_some_iff.mp h
  obtain ⟨z, h3, h4⟩ := Option.map_eq_some_iff.mp h2
  obtain ⟨u, hu, ru⟩ := r1.get h1
  obtain ⟨w, hw, rw'⟩ := r2.get h3
  exact ⟨u, w, y, z, hu, hw, h4.symm, ru, rw'⟩
theorem zip_end {K : Kx} {H : Hp} {S : Sto} {us ws : List V} {ds es : List D} {i : Nat} (r1 : RDs K H S us ds) (r2 : RDs K H S ws es) (h : (ds[i]?.bind fun d => es[i]?.map fun e => D.tup [d, e]) = none) : us.length ≤ i ∨ ws.length ≤ i := by
  rw [r1.length, r2.length]
  by_cases h1 : ds.length ≤ i
  · exact .inl h1
  · by_cases h2 : es.length ≤ i
    · exact .inr h2
    · rw [List.getElem?_eq_getElem (by omega), List.getElem?_eq_getElem (by omega)] at h
      cases h
theorem di_zip {e e2 : Expr} {ta : TDA} {p pos tpos : Pos} {elts : List Expr} {kk : Nat} (hg : Gl X "zip") (hm : X.mg "zip" = none) (ha : PA X [e, e2] (lA X.K ta))
    (hs : starEach [e, e2] X.env = (false, eval e X.env) :: starEach [e2] X.env := by rfl) (hpl : (backTo pos (starEach [e2] X.env)).any (·.1) = false := by rfl) :
    PI X (.Tuple elts kk tpos) (.Call (.Name "zip" p) [e, e2] [] pos) (lI X.K (iZipD ta)) :=
  PI.wk (RZ.pi_zipA hg hm ha hs hpl) fun σ H R ⟨N, δ, S, R', re, rs, q, kk⟩ => by
    refine ⟨N, δ, S, _, re, rs, q, fun xs S1 vs H1 b1 rv q1 => ?_⟩
    obtain ⟨x, y, ds, es, rfl, q1⟩ := q1
    obtain ⟨v, w, rfl, rx, ry⟩ := rv.two'
    rcases q1 with ⟨h1, h2, q1⟩ | ⟨rfl, rfl, q1⟩
    · obtain ⟨a, us, rfl, sq, wa⟩ := rel_ls b1.rs rx h1
      obtain ⟨b, ws, rfl, sq2, wb⟩ := rel_ls b1.rs ry h2
      refine ⟨a, b, us, ws, rfl, .inl ⟨sq, sq2, kk _ S1 _ H1 b1 ?_ q1⟩⟩
      intro M i H' S' bb le
      unfold zipI
      refine ⟨fun ez => ?_, fun d ez => ?_⟩
      · obtain ⟨ds', g1, ez⟩ := Option.bind_eq_some_iff.mp ez
        obtain ⟨es', g2, ez⟩ := Option.map_eq_some_iff.mp ez
        obtain ⟨u1, s1, r1⟩ := ls_at bb le wa g1
        obtain ⟨u2, s2, r2⟩ := ls_at bb le wb g2
        exact ⟨u1, u2, s1, s2, zip_end r1 r2 ez⟩
      · obtain ⟨ds', g1, ez⟩ := Option.bind_eq_some_iff.mp ez
        obtain ⟨es', g2, ez⟩ := Option.map_eq_some_iff.mp ez
        obtain ⟨u1, s1, r1⟩ := ls_at bb le wa g1
        obtain ⟨u2, s2, r2⟩ := ls_at bb le wb g2
        obtain ⟨y1, y2, z1, z2, h1, h2, rfl, k1, k2⟩ := zip_step r1 r2 ez
        refine ⟨⟨u1, u2, y1, y2, s1, s2, h1, h2⟩, fun z H2 yl => ?_⟩
        obtain ⟨T, c1, c2, rfl, hT, rfl, hz1, hz2⟩ := yl
        have e1 := hz1 u1 s1
        rw [h1] at e1
        cases e1
        have e2 := hz2 u2 s2
        rw [h2] at e2
        cases e2
        obtain ⟨b2, r2⟩ := new_tup bb.rs hT (.cons k1 (.cons k2 .nil))
        exact ⟨b2, r2⟩
    · obtain ⟨a, us, rfl, t1, wa⟩ := rx.tup_
      obtain ⟨b, ws, rfl, t2, wb⟩ := ry.tup_
      refine ⟨a, b, us, ws, rfl, .inr ⟨.of t1, .of t2, kk _ S1 _ H1 b1 ?_ q1⟩⟩
      intro M i H' S' bb le
      unfold zipI lsOf
      have r1 := wa.le le
      have r2 := wb.le le
      have s1 : SqT X.K H' a us := .of (le.t _ _ t1)
      have s2 : SqT X.K H' b ws := .of (le.t _ _ t2)
      refine ⟨fun ez => ?_, fun d ez => ?_⟩
      · exact ⟨us, ws, s1, s2, zip_end r1 r2 (Option.some.inj ez)⟩
      · obtain ⟨y1, y2, z1, z2, h1, h2, rfl, k1, k2⟩ := zip_step r1 r2 (Option.some.inj ez)
        refine ⟨⟨us, ws, y1, y2, s1, s2, h1, h2⟩, fun z H2 yl => ?_⟩
        obtain ⟨T, c1, c2, rfl, hT, rfl, hz1, hz2⟩ := yl
        have e1 := hz1 us s1
        rw [h1] at e1
        cases e1
        have e2 := hz2 ws s2
        rw [h2] at e2
        cases e2
        obtain ⟨b2, r2⟩ := new_tup bb.rs hT (.cons k1 (.cons k2 .nil))
        exact ⟨b2, r2⟩

/-! ### range with a step -/
def rangeCI (lo c : Int) (n : Nat) : ItD := fun i _ => some (if i < n then some (.int (lo + (i : Nat) * c)) else none)
def iRange3 (t : TDA) : TDI := fun δ S R => t δ S fun ds S1 => ∃ (i j c : Int) (n : Nat), ds = [.int i, .int j, .int c] ∧ RgC i j c n ∧ R (rangeCI i c n) S1
theorem RDs.three {K : Kx} {H : Hp} {S : Sto} {vs : List V} {u w z : V} (r : RDs K H S vs [.at u, .at w, .at z]) : vs = [u, w, z] := RDs.atoms (us := [u, w, z]) r
theorem di_range3 {tg a b c : Expr} {ta : TDA} {p pos : Pos} (hg : Gl X "range") (hm : X.mg "range" = none) (ha : PA X [a, b, c] (lA X.K ta))
    (hs : starEach [a, b, c] X.env = (false, eval a X.env) :: starEach [b, c] X.env := by rfl) (hpl : (backTo pos (starEach [b, c] X.env)).any (·.1) = false := by rfl) :
    PI X tg (.Call (.Name "range" p) [a, b, c] [] pos) (lI X.K (iRange3 ta)) :=
  PI.wk (pi_range3 hg hm ha hs hpl) fun σ H R ⟨N, δ, S, R', re, rs, q, kk⟩ => by
    refine ⟨N, δ, S, _, re, rs, q, fun ds S1 vs H1 b1 rv q1 => ?_⟩
    obtain ⟨i, j, c, n, rfl, hc, q1⟩ := q1
    refine ⟨i, j, c, n, rv.three, hc, kk _ S1 _ H1 b1 ?_ q1⟩
    intro M m H' S' bb le
    unfold rangeCI
    refine ⟨fun ez => ?_, fun d ez => ?_⟩
    · show n ≤ m
      by_cases h : m < n
      · rw [if_pos h] at ez; cases ez
      · omega
    · by_cases h : m < n
      · rw [if_pos h] at ez
        cases ez
        refine ⟨h, fun x H2 y => ?_⟩
        obtain ⟨rfl, rfl⟩ := y
        exact ⟨.refl bb.rs, .of _⟩
      · rw [if_neg h] at ez; cases ez

/-! ### x[::-1] -/
def revD (mu : Bool) (te : TDE) : TDE := fun δ S Q => te δ S fun x S1 => ∃ xs, lsOf S1 x = some xs ∧ (if mu = true then ∀ p, S1 p = none → Q (.ref p) (up S1 p (.lst xs.reverse)) else Q (.fl xs.reverse) S1)
theorem de_rev (mu : Bool) {e : Expr} {te : TDE} {k : Nat} {p1 p2 p3 pos : Pos} (he : PE X e (lE X.K te)) : PE X (.Subscript e (.Slice none none (some (.UnaryOp .USub (.Constant (.int 1) k p1) p2)) p3) pos) (lE X.K (revD mu te)) :=
  PE.wk (pe_revL he) fun σ H Q ⟨N, δ, S, Q', re, rs, q, kk⟩ => by
    refine ⟨N, δ, S, _, re, rs, q, fun x S1 v H1 b1 rx q1 => ?_⟩
    obtain ⟨xs, hl, q1⟩ := q1
    obtain ⟨a, vs, rfl, sq, r⟩ := ls_sq b1.rs rx hl
    refine ⟨a, vs, rfl, sq, fun p np => ?_⟩
    cases mu with
    | true =>
      rw [if_pos rfl] at q1
      exact kk _ _ _ _ (b1.trans (new_lst b1.rs np r.reverse)) (.of _) (q1 p (b1.rs.free np))
    | false =>
      rw [if_neg Bool.false_ne_true] at q1
      obtain ⟨b2, r2⟩ := new_fl b1.rs np r.reverse
      exact kk _ _ _ _ (b1.trans b2) r2 q1

/-! ### sorted -/
/-- of ints, or of fewer than 64 texts: a new list, nobody will change it -/
def srtD : RDL := fun ds S Q => ∃ x, ds = [x] ∧ ((∃ ns : List Int, lsOf S x = some (ns.map D.int) ∧ ∀ ns' : List Int, ns'.Perm ns → ns'.Pairwise (· ≤ ·) → Q (.fl (ns'.map D.int)) S) ∨
  ∃ ys : List Str, lsOf S x = some (ys.map D.str) ∧ ys.length < 64 ∧ ∀ zs : List Str, zs.Perm ys → sortedS zs = true → Q (.fl (zs.map D.str)) S)
theorem rds_ints {K : Kx} {H : Hp} {S : Sto} (ns : List Int) : RDs K H S (ns.map V.int) (ns.map D.int) := by
  have := RDs.of_atoms (K := K) (H := H) (S := S) (ns.map V.int)
  rw [List.map_map] at this
  exact this
theorem rds_strs {K : Kx} {H : Hp} {S : Sto} (ns : List Str) : RDs K H S (ns.map V.str) (ns.map D.str) := by
  have := RDs.of_atoms (K := K) (H := H) (S := S) (ns.map V.str)
  rw [List.map_map] at this
  exact this
theorem cd_sorted : CallR X (.builtin "sorted") (lL X.K srtD) := by
  intro pins s σ H vs us Q I r hh
  obtain ⟨N, ds, S, Q', rd, rs, ⟨x, rfl, q⟩, kk⟩ := hh
  obtain ⟨v, rfl, rx⟩ := rd.one'
  rcases q with ⟨ns, hl, q⟩ | ⟨ys, hl, h64, q⟩
  · obtain ⟨a, ws, rfl, sq, rw'⟩ := ls_sq rs rx hl
    have e : ws = ns.map V.int := RDs.atoms (us := ns.map V.int) (by rw [List.map_map]; exact rw')
    subst e
    refine cr_sortedI pins s σ H _ us Q I r ⟨a, ns, rfl, sq, fun ns' p h1 h2 np => ?_⟩
    obtain ⟨b1, r1⟩ := new_fl rs np (rds_ints ns')
    exact kk _ _ _ _ b1 r1 (q ns' h1 h2)
  · obtain ⟨a, ws, rfl, sq, rw'⟩ := ls_sq rs rx hl
    have e : ws = ys.map V.str := RDs.atoms (us := ys.map V.str) (by rw [List.map_map]; exact rw')
    subst e
    refine cr_sortedS pins s σ H _ us Q I r ⟨a, ys, rfl, sq, h64, fun zs p h1 h2 np => ?_⟩
    obtain ⟨b1, r1⟩ := new_fl rs np (rds_strs zs)
    exact kk _ _ _ _ b1 r1 (q zs h1 h2)

/-! ### sorted({i, j}) of ints -/
section
variable {prog : Program} {w : World} {A : Around} {E : Value → Shared → Prop} {s : Shared}
theorem sd_core {road : DisplayRoad} {b : Bool} {elts : List (Bool × Sem Value)} {ts : List (Sem Value)} {Q : Value → Shared → Prop} (hroad : road = .oneByOne) (hs : elts.findIdx? (·.1) = none) (hlen : elts.length ≤ 30) (hm : elts.map (·.2) = ts)
    (h : wpAny (model prog w) A (evalAll ts) (fun vs s' => PySem.W.KdsFill (model prog w) A E false s.heap.objs.size Q vs s') E { s with heap := s.heap.push { cls := .type "set", dict := none, data := .set #[] 0 (.fresh 0 0 (!w.params.followText "set-order")) } }) :
    wpAny (model prog w) A (setDisplay road b elts) Q E s := by
  have hn : (if elts.length > 30 then 0 else (elts.findIdx? (·.1)).getD elts.length) = elts.length := by rw [if_neg (by omega), hs]; rfl
  subst hroad
  unfold setDisplay
  try dsimp only
  rw [if_neg (by decide)]
  unfold newSet setsByText
  refine wpAny_bind (wpAny_bind (wpAny_bind (wpAny_askSetting (wpAny_pure ?_))))
  dsimp only
  simp only [newObj]
  refine wpAny_bind (wpAny_alloc (wpAny_pure ?_))
  dsimp only
  rw [hn, List.take_length, List.drop_length, hm]
  refine wpAny_bind (wpAny_holding ?_)
  refine wpAny_bind (wpAny_mono h (fun vs s' h' => ?_) fun _ _ x => x)
  refine wpAny_bind (wpAny_holding ?_)
  refine wpAny_bind (wpAny_mono (PySem.W.kds_for (fun x P s hx => ?_) vs s' h') (fun _ s1 h1 => ?_) fun _ _ x => x)
  · refine wpAny_bind (wpAny_mono hx (fun _ s2 h2 => ?_) fun _ _ x => x)
    first | exact wpAny_pure ⟨rfl, h2⟩ | exact wpAny_bind (wpAny_pure (wpAny_pure ⟨rfl, h2⟩))
  · have h2 : Q (.ref s.heap.objs.size) s1 := by simpa [PySem.W.KdsFill] using h1
    rw [if_neg (by decide)]
    refine wpAny_pure ?_
    rw [List.forIn_nil]
    exact wpAny_pure (wpAny_pure h2)
end
/-- a thing that the store does not speak of is changed -/
theorem RS.ext {K : Kx} {H : Hp} {S : Sto} {p : Addr} {F : Heap → Prop} {o : HO} (rs : RS K H S) (h : H p = some (.ext F)) (hn : S p = none) : RS K (upd H p o) S ∧ TupLe K H S K (upd H p o) S := by
  have le : TupLe K H S K (upd H p o) S := by
    refine ⟨fun a xs e => ?_, fun _ _ z => z, fun a xs e => ?_⟩
    · have ne : a ≠ p := fun z => by subst z; rw [h] at e; cases e
      rw [upd_ne ne]; exact e
    · rcases e with ⟨e, n, m⟩ | e
      · have ne : a ≠ p := fun z => by subst z; rcases e with e | ⟨u, e⟩ <;> (rw [h] at e; cases e)
        refine .inl ⟨?_, n, m⟩
        rcases e with e | ⟨u, e⟩
        · exact .inl (by rw [upd_ne ne]; exact e)
        · exact .inr ⟨u, by rw [upd_ne ne]; exact e⟩
      · exact .inr e
  refine ⟨⟨fun a u e => ?_, hid_upd rs.hid, rs.hidS⟩, le⟩
  have ne : a ≠ p := fun z => by subst z; rw [hn] at e; cases e
  exact (rs.ob a u e).le le (upd_ne ne)
/-- {a, b} of ints: a set that nobody else holds -/
def set0 (w : World) (p : Addr) : HO := SetO w p (fun _ => false) 0
def tSet2 (w : World) (ta tb : TE) : TE := fun σ H Q => ∀ p, H p = none → ta σ (upd H p (set0 w p)) fun x H1 => tb σ H1 fun y H2 => ∃ i j : Int, x = .int i ∧ y = .int j ∧ H2 p = some (set0 w p) ∧
  Q (.ref p) (upd H2 p (SetO w p (fun z => decide (z = i) || decide (z = j)) (if i = j then 1 else 2)))
theorem pe_set2 {a b : Expr} {ta tb : TE} {pos : Pos} (ha : PE X a ta) (hb : PE X b tb) (hcd : PySem.W.kdsCode X.K X.env.code = true) (hp : [a, b].all PySem.W.kdsPlain = true := by rfl) : PE X (.Set [a, b] 0 pos) (tSet2 X.w ta tb) := by
  refine ⟨fun pins s σ H Q I h => ?_⟩
  rw [arm_eval_Set]
  refine wpAny_bind (wpAny_standAt ?_)
  refine wpAny_bind (PySem.W.kds_main I.kIn hcd fun bb => ?_)
  rw [PySem.W.kds_star [a, b] hp, List.map_map]
  refine sd_core (ts := (evalEach [a, b] X.env).map fun t => do let v ← t; standAt pos; pure v) rfl ?_ ?_ ?_ ?_
  · refine List.findIdx?_eq_none_iff.mpr fun x hx => ?_
    obtain ⟨t, _, rfl⟩ := List.mem_map.mp hx
    rfl
  · rw [List.length_map, PySem.W.kds_len]; show 2 ≤ 30; decide
  · rw [List.map_map]; try rfl
  · refine PySem.W.kds_all pos [a, b] _ _ ?_
    have hP := I.hok.fresh (Nat.le_refl s.heap.objs.size)
    have hh := h s.heap.objs.size hP
    have R0 := setR_fresh (h := s.heap) X.w
    have I1 : Inv X pins σ (upd H s.heap.objs.size (set0 X.w s.heap.objs.size)) { s with heap := s.heap.push { cls := .type "set", dict := none, data := .set #[] 0 (.fresh 0 0 (!X.w.params.followText "set-order")) } } :=
      I.laid (t' := s.toks) (fun b u e => Heap.get?_push_of_some _ e) (Nat.le_refl _) (setO_new R0)
    revert hh I1
    generalize s.heap.objs.size = p
    intro hh I1
    refine thn (ha.run pins _ σ _ _ I1 hh) fun u s1 ⟨x, H1, J1, r1, q1⟩ => ?_
    refine thn (hb.run pins _ σ _ _ J1 q1) fun v s2 ⟨y, H2, J2, r2, q2⟩ => ?_
    obtain ⟨i, j, rfl, rfl, hp2, q⟩ := q2
    obtain ⟨t, rfl⟩ := r1
    obtain ⟨t', rfl⟩ := r2
    refine PySem.W.kds_fill_cons ?_
    have R2 := setO_get J2 hp2
    unfold setAdd
    refine wpAny_holding (wpAny_bind ((intKind X.prog X.w).pyHash (intKind_is X.prog X.w i t) ?_))
    refine setR_add_hashed (s := { s2 with toks := s2.toks + 1 }) R2 (by decide) fun h' sb R3 => ?_
    refine PySem.W.kds_fill_cons ?_
    refine wpAny_holding (wpAny_bind ((intKind X.prog X.w).pyHash (intKind_is X.prog X.w j t') ?_))
    refine setR_add_hashed (s := { s2 with heap := h', toks := s2.toks + 1 + 1 }) R3 (by simp [scanBound]) fun h2 sb2 R4 => ?_
    refine PySem.W.kds_fill_nil rfl ?_
    have R5 : SetR X.w h2 p (fun z => decide (z = i) || decide (z = j)) (if i = j then 1 else 2) := by
      have e1 : (if ((false || decide (j = i)) = true) then (if (false = true) then 0 else 0 + 1) else (if (false = true) then 0 else 0 + 1) + 1) = if i = j then 1 else 2 := by
        by_cases e : i = j
        · subst e; simp
        · have : ¬ j = i := fun z => e z.symm
          simp [e, this]
      rw [e1] at R4
      exact R4.congr fun z => by simp
    have he : ∃ u, h2.get? p = some u := by
      have ⟨o, _, _, _, ho, _⟩ := R5
      exact ⟨o, ho⟩
    exact ⟨.ref p, _, J2.write (e := p) (t' := s2.toks + 1 + 1) (by rw [hp2]; trivial) (.inl rfl) (fun b u hb hu => (sb2.2 b hb).trans ((sb.2 b hb).trans hu)) he (setO_new R5), rfl, q⟩
/-- sorted({a, b}) of ints -/
def srt2 (i j : Int) : List Int := if i < j then [i, j] else if j < i then [j, i] else [i]
def dSort2 (ta tb : TDE) : TDE := fun δ S Q => ta δ S fun x S1 => tb δ S1 fun y S2 => ∃ i j : Int, x = .int i ∧ y = .int j ∧ Q (.fl ((srt2 i j).map D.int)) S2
theorem srt2_of {i j : Int} {ns : List Int} (hs : ns.Pairwise (· < ·)) (hm : ∀ k : Int, k ∈ ns ↔ (decide (k = i) || decide (k = j)) = true) : ns = srt2 i j := by
  have hm' : ∀ k : Int, k ∈ ns ↔ k = i ∨ k = j := fun k => by rw [hm]; simp
  have key : ∀ ms : List Int, ms.Pairwise (· < ·) → (∀ k : Int, k ∈ ms ↔ k = i ∨ k = j) → ns = ms := fun ms h1 h2 => by
    have p : ns.Perm ms := (List.perm_ext_iff_of_nodup (hs.imp fun h => Int.ne_of_lt h) (h1.imp fun h => Int.ne_of_lt h)).mpr fun k => by rw [hm', h2]
    exact p.eq_of_pairwise (fun a b _ _ h h' => absurd h' (Int.lt_asymm h)) hs h1
  unfold srt2
  split
  · rename_i h
    exact key _ (by simp [h]) fun k => by simp
  · split
    · rename_i h h'
      exact key _ (by simp [h']) fun k => by simp; exact Or.comm
    · rename_i h h'
      have : i = j := by omega
      subst this
      exact key _ (by simp) fun k => by simp
theorem de_sort2 {a b : Expr} {ta tb : TDE} {p pos p2 : Pos} (hc : X.calm = true) (hg : Gl X "sorted") (hm : X.mg "sorted" = none) (hcd : PySem.W.kdsCode X.K X.env.code = true) (ha : PE X a (lE X.K ta)) (hb : PE X b (lE X.K tb)) (hp : [a, b].all PySem.W.kdsPlain = true := by rfl)
    (he : starEach [.Set [a, b] 0 p2] X.env = (false, eval (.Set [a, b] 0 p2) X.env) :: starEach [] X.env := by rfl) (hpl : (backTo pos (starEach [] X.env)).any (·.1) = false := by rfl) : PE X (.Call (.Name "sorted" p) [.Set [a, b] 0 p2] [] pos) (lE X.K (dSort2 ta tb)) :=
  PE.wk (pe_callB (cr_sortedSet hc) hg hm (by decide +kernel) (pa_cons (pe_set2 ha hb hcd hp) pa_nil he) (by decide) (by decide) he hpl) fun σ H Q ⟨N, δ, S, Q', re, rs, q, kk⟩ => by
    intro p np
    obtain ⟨rs1, f1, le1⟩ := rs.laid (o := set0 X.w p) np
    have b0 : Bh ⟨X.K, N⟩ H S (upd H p (set0 X.w p)) S := ⟨f1, rs1⟩
    refine ⟨N, δ, S, _, re.le le1, rs1, q, fun x S1 v H1 b1 rx q1 => ?_⟩
    refine ⟨N, δ, S1, _, (re.le le1).le (rs1.le b1.fr), b1.rs, q1, fun y S2 u H2 b2 ry q2 => ?_⟩
    obtain ⟨i, j, rfl, rfl, q2⟩ := q2
    have b12 := b1.trans b2
    obtain ⟨hp2, sp2⟩ := b12.fr p _ upd_same (rs.free np)
    refine ⟨i, j, rx.at_, ry.at_, hp2, p, _, _, rfl, upd_same, by split <;> decide, fun ns q' hs hmm _ nq => ?_⟩
    obtain ⟨rs3, le3⟩ := b2.rs.ext (o := SetO X.w p (fun z => decide (z = i) || decide (z = j)) (if i = j then 1 else 2)) hp2 sp2
    obtain ⟨b4, r4⟩ := new_fl rs3 nq (rds_ints ns)
    have e := srt2_of hs hmm
    subst e
    refine kk _ S2 _ _ ⟨fun a o e n => ?_, b4.rs⟩ r4 q2
    obtain ⟨z1, z2⟩ := (b0.trans b12).fr a o e n
    refine ⟨?_, z2⟩
    have ne : a ≠ p := ne_of_none e np
    have e3 : upd H2 p (SetO X.w p (fun z => decide (z = i) || decide (z = j)) (if i = j then 1 else 2)) a = some o := by rw [upd_ne ne]; exact z1
    rw [upd_ne (ne_of_none e3 nq)]
    exact e3
end
end DL

/-! Data layer, eighth part: the law's end. -/
namespace DL
open PySem L2 PyProof.Rows PySem.W
theorem callG {P : Program} {w : World} {K : PySem.W.Frag} {mg mb : Str → Option Value} {CX : CXT} {k : Nat} {fa a : Addr} {fd : FuncData} {x : Str} {sp : Sp} {t1 : Shared} {vs : List Value} {ns : List Int}
    (kin : K.In t1.heap) (gns : t1.heap.Ns mainGlobals mg) (hb : t1.heap.Ns builtinsNs mb) (bsn : ∀ x : Str, x ≠ "__name__" → mb x = bootBuiltins x) (nolim : t1.heap.NoLimit) (hg : t1.gens = #[])
    (ha : t1.heap.get? a = some { cls := .type "list", data := .seq vs.toArray }) (hi : IntsAre vs ns) (hl : ns.length ≤ sizeLine) (hr : Room k callerA)
    (F : ∀ base : Heap, K.In base → base.Ns mainGlobals mg → FnG P w K mg base CX k fa fd [x] sp) (bnd : ∀ (s : Shared) (u : Value), BindsTo s fd ⟨[u], []⟩ [(x, u)])
    (hpr : ∀ H : Hp, Only H → SqL K H a (ns.map V.int) → sp [.ref a] H (fun v _ => v = .bl true) fun _ _ _ => False)
    (hxx : ∀ H e s', CX [] H t1 (fun _ _ _ => False) e s' → False) :
    codeAny (model P w) callerA (.call (.ref fa) ⟨[.ref a], []⟩) (fun r s' => r = .ok (.ret (.bool true)) ∧ OldK t1.heap s'.heap ∧ s'.os = t1.os ∧ AllBare s'.gens) t1 := by
  have vrel := vals_ints hi
  have nlen := hi.length
  have main : ∀ H : Hp, Only H → SqL K H a (ns.map V.int) → HOk P w H t1.heap → (∀ b, H b ≠ none → b = a) → (H a ≠ none → K.lookup a = none) →
      codeAny (model P w) callerA (.call (.ref fa) ⟨[.ref a], []⟩) (fun r s' => r = .ok (.ret (.bool true)) ∧ OldK t1.heap s'.heap ∧ s'.os = t1.os ∧ AllBare s'.gens) t1 := by
    intro H onl scr oka alone unk
    have stays : ∀ {b : Addr} {o : Obj}, t1.heap.get? b = some o → H b = none → (hidT t1.heap H).get? b = some o := fun e n => hidT_get e n
    have nodic : ∀ {b : Addr} {o : Obj} {es : Array DictEntry} {ep : Nat}, t1.heap.get? b = some o → o.data = .dict es ep → H b = none := fun {b o es ep} e d => by
      cases q : H b with
      | none => rfl
      | some u =>
        have e' : b = a := alone b (by rw [q]; simp)
        subst e'
        rw [ha] at e; cases e
        cases (show Data.seq vs.toArray _ = Data.dict es ep from d)
    have nsb : ∀ {b : Addr} {m : Str → Option Value}, t1.heap.Ns b m → (hidT t1.heap H).Ns b m := fun {b m} ⟨o, es, ep, e, d, r⟩ => ⟨o, es, ep, stays e (nodic e d), d, r⟩
    have kinb : K.In (hidT t1.heap H) := fun b o e => stays (kin b o e) (by
      cases q : H b with
      | none => rfl
      | some u =>
        have e' : b = a := alone b (by rw [q]; simp)
        subst e'
        rw [unk (by rw [q]; simp)] at e; cases e)
    have mdl : Mod K mg (hidT t1.heap H) := ⟨kinb, nsb gns, ⟨mb, nsb hb, bsn⟩, let ⟨mc, h1, h2⟩ := nolim; ⟨mc, nsb h1, h2⟩⟩
    have env0 : Env0 P w K mg (hidT t1.heap H) callerA [] t1 H := ⟨rfl, mdl, fun b o e => of_hidT e, Nat.le_of_eq (hidT_size _ _), trivial, fun b hb => (nomatch hb), oka, .of_eq hg⟩
    refine codeAny_mono ((F _ kinb (nsb gns)).run callerA [] t1 H ⟨[.ref a], []⟩ [.ref a] [.ref a] _ _ hr rfl env0 (bnd t1 (.ref a)) (.cons rfl .nil) (hpr H onl scr)) fun r s' h => ?_
    cases r with
    | error e => exact (hxx H e s' h).elim
    | ok fl =>
      cases fl with
      | next => exact False.elim h
      | brk => exact False.elim h
      | cont => exact False.elim h
      | ret u =>
        obtain ⟨v, H', os, bare, un, okb, r', q⟩ := h
        have q' : v = .bl true := q
        subst q'
        obtain rfl : u = Value.bool true := r'
        refine ⟨rfl, OldK.of_keep fun b o e => ?_, os, bare⟩
        cases q : H b with
        | none => exact un.keep b o e q (by intro z; cases z) (by intro z; cases z)
        | some u =>
          rcases onl b with z | ⟨ob, xs, z⟩
          · rw [q] at z; cases z
          · have z2 := un.frzs b ob _ z
            obtain ⟨e1, _⟩ := oka b _ z
            obtain ⟨e2, _⟩ := okb b _ z2
            rw [e] at e1; cases e1
            exact e2
  cases hk : K.lookup a with
  | some o =>
    have e := kin a o hk
    rw [ha] at e
    cases e
    exact main (fun _ => none) (fun _ => .inl rfl) (.inr ⟨_, vs.toArray, _, hk, rfl, rfl, rfl, by rw [List.size_toArray, nlen]; exact hl, by simpa using vrel⟩) (fun b u z => by cases (show (none : Option HO) = some u from z)) (fun b z => absurd rfl z) fun z => absurd rfl z
  | none =>
    refine main (fun b => if b = a then some (.frz { cls := .type "list", data := .seq vs.toArray } (.lst (ns.map V.int))) else none) (fun b => ?_) (.inl (.inr ⟨{ cls := .type "list", data := .seq vs.toArray }, if_pos rfl⟩)) (fun b u z => ?_) (fun b z => ?_) fun _ => hk
    · by_cases hb : b = a
      · exact .inr ⟨_, _, if_pos hb⟩
      · exact .inl (if_neg hb)
    · by_cases hb : b = a
      · have z' := (if_pos hb).symm.trans z
        cases z'
        subst hb
        exact ⟨ha, by rw [List.length_map]; exact hl, vs, _, vrel, ha⟩
      · cases (if_neg hb).symm.trans z
    · by_cases hb : b = a
      · exact hb
      · exact absurd (if_neg hb) z
/-- the goal that the head leaves, from the law's promise over data -/
theorem walkD {l : PySem.W.OpenLaw} {n k : Nat} {q : Program} {loose : List Str} {XP : (Str → Option Value) → Heap → Prop} {YP : World → Heap → Prop} {d : DefRec} {K : Params → PySem.W.Frag} {sp : SpD} {x : Str}
    (hn : l.most = some n) (hn2 : n ≤ sizeLine) (hdf : d.params.defaults = []) (hr : Room k callerA)
    (inK : ∀ (w : World) (h : Heap), YP w h → (K w.params).In h)
    (F : ∀ (w : World) (mg : Str → Option Value) (fa : Addr) (h : Heap), (K w.params).In h → h.Ns mainGlobals mg → mg d.name = some (.ref fa) →
      ∃ fd : FuncData, (∀ (s : Shared) (u : Value), BindsTo s fd ⟨[u], []⟩ [(x, u)]) ∧
        ∀ base : Heap, (K w.params).In base → base.Ns mainGlobals mg → FnD l.prog w (K w.params) mg base CX0 k fa fd [x] sp)
    (hpr : ∀ ns : List Int, ns.length ≤ n → (∀ z ∈ ns, Builtin.Int.intBits z ≤ 1048576) → sp [.fl (ns.map D.int)] (fun _ => none) (fun d _ => d = .bl true) X0) :
    PySem.W.WalkO q loose XP YP l.row.toRowW d [] (fun f vs => PySem.call f vs) := by
  refine Att.attach_callB hn hdf fun w s₀ t1 mg mb fa o pm cd doc a vs ns G Y ho hd hcd hmg hobj hints hlen hbits hg => ?_
  have kin := inK w _ Y
  obtain ⟨fd, hb, prom⟩ := F w mg fa _ kin G.T.g hmg
  refine callG kin G.T.g G.T.b G.T.builtins G.T.nolimit hg hobj hints (Nat.le_trans hlen hn2) hr prom hb (fun H onl scr => ?_) fun H e s' z => z
  refine ⟨fun _ => False, [.fl (ns.map D.int)], fun _ => none, fun d _ => d = .bl true, X0, ?_, ⟨fun a o e => (nomatch e), fun a h => h.elim, fun _ _ => rfl⟩, hpr ns hlen hbits, ?_, fun _ _ _ _ _ _ _ z => z⟩
  · refine .cons (.of_fl (vs := ns.map V.int) ?_ (rds_ints ns)) .nil
    rcases scr with h | h
    · exact .inl ⟨h, rfl, fun z => z⟩
    · exact .inr h
  · rintro d S' v H' b r rfl
    exact r.at_
end DL

/-! Data layer, ninth part: what a def's caller knows; keywords. -/
namespace DL
open PySem L2 PyProof.Rows
/-- positional ones, then keywords by their places -/
def kwg {α : Type} (n : Nat) (p : List Nat) (us ws : List α) : List α := if us.length = n ∧ ws.length = p.length then us ++ p.filterMap (ws[·]?) else []
theorem vals_pick {zs : List V} {ws : List Value} (r : Vals zs ws) : ∀ p : List Nat, Vals (p.filterMap (zs[·]?)) (p.filterMap (ws[·]?))
  | [] => .nil
  | i :: p => by
    have ih := vals_pick r p
    cases e : zs[i]? with
    | none =>
      have e2 : ws[i]? = none := by rw [List.getElem?_eq_none_iff] at e ⊢; rw [← r.length]; exact e
      rw [List.filterMap_cons_none e, List.filterMap_cons_none e2]
      exact ih
    | some z =>
      obtain ⟨w, e2, r2⟩ := r.get e
      rw [List.filterMap_cons_some e, List.filterMap_cons_some e2]
      exact .cons r2 ih
theorem rds_pick {K : Kx} {H : Hp} {S : Sto} {zs : List V} {ws : List D} (r : RDs K H S zs ws) : ∀ p : List Nat, RDs K H S (p.filterMap (zs[·]?)) (p.filterMap (ws[·]?))
  | [] => .nil
  | i :: p => by
    have ih := rds_pick r p
    cases e : ws[i]? with
    | none =>
      have e2 : zs[i]? = none := by rw [List.getElem?_eq_none_iff] at e ⊢; rw [r.length]; exact e
      rw [List.filterMap_cons_none e, List.filterMap_cons_none e2]
      exact ih
    | some z =>
      obtain ⟨w, e2, r2⟩ := r.get e
      rw [List.filterMap_cons_some e, List.filterMap_cons_some e2]
      exact .cons r2 ih
theorem putK_kwg (n : Nat) (p : List Nat) : PutK (kwg n p) (kwg n p) := ⟨fun {K H S vs zs ds es} r s => by
  unfold kwg
  rw [r.length, s.length]
  split
  · exact r.append (rds_pick s p)
  · exact .nil⟩
theorem kb_of {K : PySem.W.Frag} {fd : FuncData} {ps ks : List Str} {n : Nat} {p : List Nat} (hp : 0 < ps.length) (h : ∀ us ws : List Value, us.length = n → ws.length = p.length → bindArgs fd ⟨us, ks.zip ws⟩ = pure (ps.zip (us ++ p.filterMap (ws[·]?)))) : KBinds K fd ps ks (kwg n p) (kwg n p) := by
  refine ⟨fun s us ws _ hl => ?_, fun {vs us zs ws} r s => ?_⟩
  · unfold kwg at hl ⊢
    split at hl
    · rename_i hc
      rw [if_pos hc]
      exact .of_eq (h us ws hc.1 hc.2)
    · simp at hl; omega
  · unfold kwg
    rw [← r.length, ← s.length]
    split
    · exact r.append (vals_pick s p)
    · exact .nil
/-- a def of the module, as its callers know it -/
structure Cal (P : Program) (w : World) (K : PySem.W.Frag) (mg : Str → Option Value) (base : Heap) (k : Nat) (x : Str) (st : Stmt) (ps : List Str) (sp : SpD) : Prop where
  ex : ∃ f fd, FnD P w K mg base CX0 k f fd ps sp ∧ Binds K fd ps [] ∧ mg x = some (.ref f) ∧ Fun K x x st f fd
section
variable {X : Cx} {k k' : Nat} {x : Str} {st : Stmt} {ps ks : List Str} {sp : SpD} {p pos : Pos} {e : Expr} {es : List Expr} {t tk : TDA} {kws : List Keyword}
theorem de_c (C : Cal X.prog X.w X.K X.mg X.base k x st ps sp) (hr : Rg k' X.A) (ha : PA X (e :: es) (lA X.K t)) (hk : k ≤ k' := by decide) (hg : Gl X x := by rfl) (hdb : (x == ("__debug__" : Str)) = false := by decide)
    (he : starEach (e :: es) X.env = (false, eval e X.env) :: starEach es X.env := by rfl) (hpl : (backTo pos (starEach es X.env)).any (·.1) = false := by rfl) : PE X (.Call (.Name x p) (e :: es) [] pos) (lE X.K (dCall sp [] X0 t)) := by
  obtain ⟨f, fd, F, b, m, fn⟩ := C.ex
  exact de_call F (hr.mono hk) b hg m fn.kp ha hdb he hpl
theorem de_c0 (C : Cal X.prog X.w X.K X.mg X.base k x st ps sp) (hr : Rg k' X.A) (hk : k ≤ k' := by decide) (hg : Gl X x := by rfl) (hdb : (x == ("__debug__" : Str)) = false := by decide) : PE X (.Call (.Name x p) [] [] pos) (lE X.K (dCall sp [] X0 dNil)) := by
  obtain ⟨f, fd, F, b, m, fn⟩ := C.ex
  exact de_call0 F (hr.mono hk) b hg m fn.kp hdb
/-- how the def takes n positional arguments and those keywords -/
def KwOk (st : Stmt) (x : Str) (ps ks : List Str) (n : Nat) (pp : List Nat) : Prop := ∀ (kV doc pm : Value) (an : Option Addr) (cdv ct : Value) (us ws : List Value), us.length = n → ws.length = pp.length → bindArgs (PySem.W.fnOf x x (defArgs st) (defBody st) (defScope st) .none kV doc pm an cdv ct) ⟨us, ks.zip ws⟩ = pure (ps.zip (us ++ pp.filterMap (ws[·]?)))
theorem de_ck0 {n : Nat} {pp : List Nat} (C : Cal X.prog X.w X.K X.mg X.base k x st ps sp) (hr : Rg k' X.A) (kw : KwOk st x ps ks n pp) (hkw : PK X kws (lA X.K tk)) (hp : 0 < ps.length := by decide) (hk : k ≤ k' := by decide) (hg : Gl X x := by rfl) (hall : (backToKw pos (keywordEach kws X.env)).all (·.1.isSome) = true := by rfl) (hks : (backToKw pos (keywordEach kws X.env)).filterMap (·.1) = ks := by rfl) (hdb : (x == ("__debug__" : Str)) = false := by decide)
    (hpl : ((backTo pos (starEach [] X.env)).any (·.1) || (backToKw pos (keywordEach kws X.env)).any (·.1.isNone)) = false := by rfl) : PE X (.Call (.Name x p) [] kws pos) (lE X.K (dCallK sp (kwg n pp) X0 dNil tk)) := by
  obtain ⟨f, fd, F, b, m, fn⟩ := C.ex
  obtain ⟨oc, od, kV, doc, pm, an, cdv, ct, osl, rfl, lk, hcd⟩ := fn.ex
  exact de_callK0 F (hr.mono hk) (kb_of hp fun us ws h1 h2 => kw kV doc pm an cdv ct us ws h1 h2) (putK_kwg n pp) hg m fn.kp hkw hall hks hdb hpl
theorem de_ck {n : Nat} {pp : List Nat} (C : Cal X.prog X.w X.K X.mg X.base k x st ps sp) (hr : Rg k' X.A) (kw : KwOk st x ps ks n pp) (ha : PA X (e :: es) (lA X.K t)) (hkw : PK X kws (lA X.K tk)) (hp : 0 < ps.length := by decide) (hk : k ≤ k' := by decide) (hg : Gl X x := by rfl) (hall : (backToKw pos (keywordEach kws X.env)).all (·.1.isSome) = true := by rfl) (hks : (backToKw pos (keywordEach kws X.env)).filterMap (·.1) = ks := by rfl) (hdb : (x == ("__debug__" : Str)) = false := by decide)
    (he : starEach (e :: es) X.env = (false, eval e X.env) :: starEach es X.env := by rfl) (hpl : ((backTo pos (starEach (e :: es) X.env)).any (·.1) || (backToKw pos (keywordEach kws X.env)).any (·.1.isNone)) = false := by rfl) : PE X (.Call (.Name x p) (e :: es) kws pos) (lE X.K (dCallK sp (kwg n pp) X0 t tk)) := by
  obtain ⟨f, fd, F, b, m, fn⟩ := C.ex
  obtain ⟨oc, od, kV, doc, pm, an, cdv, ct, osl, rfl, lk, hcd⟩ := fn.ex
  exact de_callK F (hr.mono hk) (kb_of hp fun us ws h1 h2 => kw kV doc pm an cdv ct us ws h1 h2) (putK_kwg n pp) hg m fn.kp ha hkw hall hks hdb he hpl
end
/-- a name of the module that holds a written tuple of data -/
def GT (K : PySem.W.Frag) (mg : Str → Option Value) (x : Str) (ds : List D) : Prop := ∃ a vs, mg x = some (.ref a) ∧ Wt K a vs ∧ ∀ N H S, RDs ⟨K, N⟩ H S vs ds
theorem de_gt {X : Cx} {x : Str} {ds : List D} {pos : Pos} (g : GT X.K X.mg x ds) (hg : Gl X x := by rfl) (hd : (x == ("__debug__" : Str)) = false := by decide) : PE X (.Name x pos) (lE X.K (dC (.wt ds))) := by
  obtain ⟨a, vs, m, t, r⟩ := g
  exact de_glob (v := .ref a) hg m rfl (fun N H S => .of_wt t (r N H S)) hd
end DL

/-! Data layer, tenth part: small data; words for readings. -/
namespace DL
open PySem L2 PyProof.Rows

/-! ### small data: depth, weight, short ints -/
/-- data of that depth and weight, to be shown and compared -/
structure Sm (k w : Nat) (d : D) : Prop where
  p : pur d = true
  l : (toPy d).canLay0 = true
  s : (toPy d).showable = true
  i : (toPy d).intsShort 13 = true
  k : (toPy d).depth ≤ k
  w : (toPy d).weight ≤ w
  h : (toPy d).hasDict = false
structure Sms (k n w : Nat) (ds : List D) : Prop where
  p : purs ds = true
  l : PyData.canLayAll0 (toPys ds) = true
  s : PyData.showableAll (toPys ds) = true
  i : PyData.intsShortAll 13 (toPys ds) = true
  k : PyData.depthAll (toPys ds) ≤ k
  w : PyData.weightAll (toPys ds) ≤ n * (w + 1)
  h : PyData.hasDictAll (toPys ds) = false
theorem Sm.mono {k w k' w' : Nat} {d : D} (h : Sm k w d) (a : k ≤ k') (b : w ≤ w') : Sm k' w' d := ⟨h.p, h.l, h.s, h.i, Nat.le_trans h.k a, Nat.le_trans h.w b, h.h⟩
theorem Sms.of {k w : Nat} : ∀ {ds : List D}, (∀ d ∈ ds, Sm k w d) → Sms k ds.length w ds
  | [], _ => ⟨by unfold purs; rfl, by simp [toPys, PyData.canLayAll0], by simp [toPys, PyData.showableAll], by simp [toPys, PyData.intsShortAll], by simp [toPys, PyData.depthAll], by simp [toPys, PyData.weightAll], by simp [toPys, PyData.hasDictAll]⟩
  | d :: ds, h => by
    have a := h d List.mem_cons_self
    have b := Sms.of (ds := ds) fun x hx => h x (List.mem_cons_of_mem _ hx)
    refine ⟨by unfold purs; rw [a.p, b.p]; rfl, ?_, ?_, ?_, ?_, ?_, ?_⟩
    · unfold toPys; simp [PyData.canLayAll0, a.l, b.l]
    · unfold toPys; simp [PyData.showableAll, a.s, b.s]
    · unfold toPys; simp [PyData.intsShortAll, a.i, b.i]
    · unfold toPys; simp only [PyData.depthAll]; have := a.k; have := b.k; omega
    · unfold toPys; simp only [PyData.weightAll, List.length_cons]; have := a.w; have := b.w; rw [Nat.add_mul]; omega
    · unfold toPys; simp [PyData.hasDictAll, a.h, b.h]
theorem Sm.tup {k w n : Nat} {ds : List D} (h : ∀ d ∈ ds, Sm k w d) (hn : ds.length ≤ n) : Sm (k + 1) (n * (w + 1)) (.tup ds) := by
  have b := Sms.of h
  have hw : ds.length * (w + 1) ≤ n * (w + 1) := Nat.mul_le_mul_right _ hn
  refine ⟨by unfold pur; exact b.p, ?_, ?_, ?_, ?_, ?_, ?_⟩ <;> unfold toPy
  · simp only [PyData.canLay0]; exact b.l
  · simp only [PyData.showable]; exact b.s
  · simp only [PyData.intsShort]; exact b.i
  · simp only [PyData.depth]; have := b.k; omega
  · simp only [PyData.weight]; have := b.w; omega
  · simp only [PyData.hasDict]; exact b.h
theorem Sm.fl {k w n : Nat} {ds : List D} (h : ∀ d ∈ ds, Sm k w d) (hn : ds.length ≤ n) : Sm (k + 1) (n * (w + 1)) (.fl ds) := by
  have b := Sms.of h
  have hw : ds.length * (w + 1) ≤ n * (w + 1) := Nat.mul_le_mul_right _ hn
  refine ⟨by unfold pur; exact b.p, ?_, ?_, ?_, ?_, ?_, ?_⟩ <;> unfold toPy
  · simp only [PyData.canLay0]; exact b.l
  · simp only [PyData.showable]; exact b.s
  · simp only [PyData.intsShort]; exact b.i
  · simp only [PyData.depth]; have := b.k; omega
  · simp only [PyData.weight]; have := b.w; omega
  · simp only [PyData.hasDict]; exact b.h
theorem Sm.wt {k w n : Nat} {ds : List D} (h : ∀ d ∈ ds, Sm k w d) (hn : ds.length ≤ n) : Sm (k + 1) (n * (w + 1)) (.wt ds) := by
  have b := Sms.of h
  have hw : ds.length * (w + 1) ≤ n * (w + 1) := Nat.mul_le_mul_right _ hn
  refine ⟨by unfold pur; exact b.p, ?_, ?_, ?_, ?_, ?_, ?_⟩ <;> unfold toPy
  · simp only [PyData.canLay0]; exact b.l
  · simp only [PyData.showable]; exact b.s
  · simp only [PyData.intsShort]; exact b.i
  · simp only [PyData.depth]; have := b.k; omega
  · simp only [PyData.weight]; have := b.w; omega
  · simp only [PyData.hasDict]; exact b.h
theorem Sm.non {k w : Nat} : Sm k w .non := ⟨by unfold pur; rfl, by unfold toPy; rfl, by unfold toPy; rfl, by unfold toPy; rfl, by unfold toPy; exact Nat.zero_le _, by unfold toPy; exact Nat.zero_le _, by unfold toPy; rfl⟩
theorem Sm.bl {k w : Nat} {b : Bool} : Sm k w (.bl b) := ⟨by unfold pur; rfl, by unfold toPy; rfl, by unfold toPy; rfl, by unfold toPy; rfl, by unfold toPy; exact Nat.zero_le _, by unfold toPy; exact Nat.zero_le _, by unfold toPy; rfl⟩
theorem log2_12 {i : Int} (h : i.natAbs < 10 ^ 12) : i.natAbs.log2 < 40 := by
  by_cases z : i.natAbs = 0
  · rw [z]; decide
  · rw [Nat.log2_lt z]; omega
theorem Sm.int {k w : Nat} {i : Int} (h : i.natAbs < 10 ^ 12) (hw : 40 ≤ w) : Sm k w (.int i) := by
  have h1 := log2_12 h
  refine ⟨by unfold pur; rfl, by unfold toPy; rfl, ?_, ?_, by unfold toPy; exact Nat.zero_le _, ?_, by unfold toPy; rfl⟩ <;> unfold toPy
  · simp only [PyData.showable]; exact decide_eq_true (by omega)
  · simp only [PyData.intsShort]; exact decide_eq_true (PyData.shown_int_le h)
  · simp only [PyData.weight]
    split
    · exact Nat.zero_le _
    · omega
theorem Sm.str {k w : Nat} {x : Str} (h : PyData.strOk x = true) (hl : x.length ≤ w) : Sm k w (.str x) := by
  refine ⟨by unfold pur; rfl, ?_, by unfold toPy; rfl, by unfold toPy; rfl, by unfold toPy; exact Nat.zero_le _, ?_, by unfold toPy; rfl⟩ <;> unfold toPy
  · exact h
  · exact hl
theorem Sm.shaped {k w : Nat} {d : D} (h : Sm k w d) (hk : k ≤ 64 := by decide) : cmpOk d = true := by
  unfold cmpOk
  show (pur d && ((toPy d).canLay0 && decide ((toPy d).depth ≤ 64))) = true
  rw [h.p, h.l, decide_eq_true (Nat.le_trans h.k hk)]
  rfl
theorem Sm.shows {k w : Nat} {d : D} (h : Sm k w d) (hk : k ≤ 64 := by decide) (hw : w ≤ 2 ^ 20 := by decide) : shOk (toPy d) := by
  refine ⟨h.s, Nat.le_trans h.k hk, PyData.shown_fits_of_layable0 (B := 13) (by decide) (by decide) ?_ h.i, h.h⟩
  show ((toPy d).canLay0 && decide ((toPy d).depth ≤ 64) && decide ((toPy d).weight ≤ 2 ^ 20)) = true
  rw [h.l, decide_eq_true (Nat.le_trans h.k hk), decide_eq_true (Nat.le_trans h.w hw)]
  rfl
/-- data that may not change is itself, whatever the store -/
theorem rsv_pur {S : Sto} {d : D} (h : pur d = true) : rsv S d = d := by
  unfold rsv
  split
  · unfold pur at h; cases h
  · rfl

/-! ### words for readings -/
theorem at_n {α : Type} {xs : List α} {i : Nat} {x : α} (h : xs[i]? = some x) : atI xs (i : Int) = some x := by
  obtain ⟨hi, _⟩ := List.getElem?_eq_some_iff.mp h
  unfold atI ixN
  rw [if_pos (by omega), if_pos (by omega)]
  simpa using h
theorem at_0 {α : Type} {x : α} {xs : List α} : atI (x :: xs) 0 = some x := at_n (i := 0) rfl
theorem at_z {α : Type} {xs : List α} {x : α} : atI (xs ++ [x]) (-1) = some x := by
  have hl : (xs ++ [x]).length = xs.length + 1 := by simp
  unfold atI ixN
  rw [hl, if_neg (by omega), if_pos (by omega)]
  have e : ((-1 : Int) + ((xs.length + 1 : Nat) : Int)).toNat = xs.length := by omega
  rw [e, Option.bind_some]
  simp
theorem ix_sq {x y : D} {S : Sto} {Q : KD} {xs : List D} {i : Int} {d : D} (hy : y = .int i) (h : sqOf S x = some xs) (e : atI xs i = some d) (q : Q d S) : ixD x y S Q := .inl ⟨xs, i, d, hy, h, e, q⟩
theorem ix_tx {z : Str} {i : Int} {c : Nat} {S : Sto} {Q : KD} (hz : z.length ≤ sizeLine) (e : atI z.cps.toList i = some c) (q : Q (.str ⟨#[c]⟩) S) : ixD (.str z) (.int i) S Q := .inr (.inl ⟨z, i, c, rfl, rfl, hz, e, q⟩)
theorem ix_at {x y : D} {S : Sto} {Q : KD} {d : D} (h : atD S y x = some (some d)) (q : Q d S) : ixD x y S Q := .inr (.inr ⟨d, h, q⟩)
/-- a test that stands -/
theorem b_of {c : Bool} {S : Sto} {Q : Bool → Sto → Prop} (q : Q c S) : ∃ d, D.bl c = .bl d ∧ Q d S := ⟨c, rfl, q⟩
theorem eq_of {neg : Bool} {x y : D} {S : Sto} {Q : KD} {k w k' w' : Nat} (hx : Sm k w x) (hy : Sm k' w' y) (hk : k ≤ 64) (hk' : k' ≤ 64) (q : Q (.bl (xor neg (PyData.eqv (toPy x) (toPy y)))) S) (hn : ∀ u, x ≠ .at u) : eqD neg x y S Q := by
  unfold eqD
  split
  all_goals first
    | exact absurd rfl (hn _)
    | skip
  rw [rsv_pur hx.p, rsv_pur hy.p]
  exact ⟨hx.shaped hk, hy.shaped hk', q⟩
theorem in_of {neg : Bool} {x y : D} {S : Sto} {Q : KD} {ys : List D} {k w k' w' : Nat} (hx : Sm k w x) (h : sqOf S y = some ys) (hy : ∀ d ∈ ys, Sm k' w' d) (hk : k ≤ 64) (hk' : k' ≤ 63) (hn : ∀ z, y ≠ .str z) (q : Q (.bl (xor neg (ys.any fun z => PyData.eqv (toPy z) (toPy x)))) S) : inD neg x y S Q := by
  unfold inD
  split
  · exact absurd rfl (hn _)
  · exact .inl ⟨ys, h, hx.shaped hk, (Sm.tup hy (Nat.le_refl _)).shaped (by omega), (Sm.fl hy (Nat.le_refl _)).shaped (by omega), q⟩
theorem in_at {neg : Bool} {x y : D} {S : Sto} {Q : KD} {o : Option D} (h : atD S x y = some o) (q : Q (.bl (xor neg o.isSome)) S) : inD neg x y S Q := by
  unfold inD
  split
  · unfold atD at h; cases h
  · exact .inr ⟨o, h, q⟩
theorem any_str (ys : List Str) (x : Str) : ((ys.map D.str).any fun z => PyData.eqv (toPy z) (toPy (.str x))) = decide (x ∈ ys) := by
  induction ys with
  | nil => rfl
  | cons y ys ih =>
    rw [List.map_cons, List.any_cons, ih]
    unfold toPy
    simp only [PyData.eqv, List.mem_cons]
    by_cases h : x = y
    · subst h; simp
    · have h' : (y == x) = false := beq_eq_false_iff_ne.mpr fun z => h z.symm
      simp [h, h']
theorem any_int (ys : List Int) (x : Int) : ((ys.map D.int).any fun z => PyData.eqv (toPy z) (toPy (.int x))) = decide (x ∈ ys) := by
  induction ys with
  | nil => rfl
  | cons y ys ih =>
    rw [List.map_cons, List.any_cons, ih]
    unfold toPy
    simp only [PyData.eqv, List.mem_cons]
    by_cases h : x = y
    · subst h; simp
    · have h' : (y == x) = false := beq_eq_false_iff_ne.mpr fun z => h z.symm
      simp [h, h']
theorem len_sq {x : D} {S : Sto} {Q : KD} {xs : List D} (h : sqOf S x = some xs) (q : Q (.int xs.length) S) : lenD [x] S Q := by
  refine ⟨x, rfl, ?_⟩
  split
  · unfold sqOf lsOf at h; cases h
  · exact .inl ⟨xs, h, q⟩
/-- what is not there is there in no smaller store -/
theorem up_non {S : Sto} {p q : Addr} {o : MO} (h : up S p o q = none) : q ≠ p ∧ S q = none := by
  by_cases e : q = p
  · subst e; rw [up_same] at h; cases h
  · rw [up_ne e] at h; exact ⟨e, h⟩
/-! a way is chosen -/
theorem brT {c : Bool} {A B : Prop} (h : c = true) (a : A) : if c = true then A else B := by rw [if_pos h]; exact a
theorem brF {c : Bool} {A B : Prop} (h : c = false) (b : B) : if c = true then A else B := by rw [if_neg (by rw [h]; exact Bool.false_ne_true)]; exact b
theorem br2 {c : Bool} {A B : Prop} (a : c = true → A) (b : c = false → B) : if c = true then A else B := by
  cases h : c with
  | true => exact brT rfl (a h)
  | false => exact brF rfl (b h)
theorem xt {p : Prop} [Decidable p] (h : p) : xor false (decide p) = true := by simp [h]
theorem xf {p : Prop} [Decidable p] (h : ¬ p) : xor false (decide p) = false := by simp [h]
theorem nxt {p : Prop} [Decidable p] (h : ¬ p) : xor true (decide p) = true := by simp [h]
theorem nxf {p : Prop} [Decidable p] (h : p) : xor true (decide p) = false := by simp [h]
theorem of_xt {p : Prop} [Decidable p] (h : xor false (decide p) = true) : p := by simpa using h
theorem of_xf {p : Prop} [Decidable p] (h : xor false (decide p) = false) : ¬ p := by simpa using h
theorem of_nxt {p : Prop} [Decidable p] (h : xor true (decide p) = true) : ¬ p := by simpa using h
theorem of_nxf {p : Prop} [Decidable p] (h : xor true (decide p) = false) : p := by simpa using h
/-- a value is handed out -/
theorem rt_of {d : D} {S : Sto} {Q : KD} (q : Q d S) : ∃ d1 S1, VW d S d1 S1 ∧ Q d1 S1 := ⟨d, S, .refl d S, q⟩
theorem rt_sub {d : D} {S S1 : Sto} {Q : KD} (h : Sub S1 S) (q : Q d S1) : ∃ d1 S1, VW d S d1 S1 ∧ Q d1 S1 := ⟨d, S1, .sub h, q⟩
theorem ofS {a b : String} (h : a ≠ b) : ¬ (Str.ofString a = Str.ofString b) := fun e => h (ofString_inj.mp e)
/-! a list made of items that stand -/
theorem lc_seq {ds : List D} {S1 : Sto} {Q : List D → Sto → Prop} {B : (Nat → List D → Sto → Prop) → Nat → List D → D → Sto → Prop} (Pv : Nat → List D → Sto → Prop) (h0 : Pv 0 [] S1)
    (hs : ∀ i x acc S, ds[i]? = some x → Pv i acc S → acc.length < sizeLine ∧ B Pv i acc x S) (hd : ∀ i acc S, ds.length ≤ i → Pv i acc S → Q acc S) :
    ∃ (W : Nat → List D → Sto → Prop) (n : Nat), W 0 [] S1 ∧ ∀ i acc S2, W i acc S2 → ∃ r, seqI ds i S2 = some r ∧ (r = none → Q acc S2) ∧ ∀ x, r = some x → i < n ∧ acc.length < sizeLine ∧ B W i acc x S2 :=
  ⟨Pv, ds.length, h0, fun i acc S p => ⟨ds[i]?, rfl, fun e => hd i acc S (List.getElem?_eq_none_iff.mp e) p, fun x e => ⟨(List.getElem?_eq_some_iff.mp e).1, hs i x acc S e p⟩⟩⟩
theorem lc_rng {lo : Int} {n : Nat} {S1 : Sto} {Q : List D → Sto → Prop} {B : (Nat → List D → Sto → Prop) → Nat → List D → D → Sto → Prop} (Pv : Nat → List D → Sto → Prop) (h0 : Pv 0 [] S1)
    (hs : ∀ i acc S, i < n → Pv i acc S → acc.length < sizeLine ∧ B Pv i acc (.int (lo + i)) S) (hd : ∀ i acc S, n ≤ i → Pv i acc S → Q acc S) :
    ∃ (W : Nat → List D → Sto → Prop) (m : Nat), W 0 [] S1 ∧ ∀ i acc S2, W i acc S2 → ∃ r, rangeI lo n i S2 = some r ∧ (r = none → Q acc S2) ∧ ∀ x, r = some x → i < m ∧ acc.length < sizeLine ∧ B W i acc x S2 := by
  refine ⟨Pv, n, h0, fun i acc S p => ?_⟩
  unfold rangeI
  by_cases h : i < n
  · rw [if_pos h]
    exact ⟨_, rfl, (fun e => nomatch e), fun x e => by cases e; exact ⟨h, hs i acc S h p⟩⟩
  · rw [if_neg h]
    exact ⟨_, rfl, (fun _ => hd i acc S (by omega) p), fun x e => nomatch e⟩
theorem tk1 {α : Type} {l : List α} {i : Nat} {x : α} (h : l[i]? = some x) : l.take (i + 1) = l.take i ++ [x] := by
  rw [List.take_succ, h]; rfl
theorem map_at {α β : Type} {f : α → β} {l : List α} {i : Nat} {y : β} (h : (l.map f)[i]? = some y) : ∃ x, l[i]? = some x ∧ y = f x := by
  rw [List.getElem?_map] at h
  obtain ⟨x, h1, h2⟩ := Option.map_eq_some_iff.mp h
  exact ⟨x, h1, h2.symm⟩
/-! a loop over items that stand -/
theorem fr_seq {ds : List D} {δ0 : DSt} {S0 : Sto} {Nx : DSt → Sto → Prop} {B : (Nat → DSt → Sto → Prop) → Nat → D → DSt → Sto → Prop} (Pv : Nat → DSt → Sto → Prop) (h0 : Pv 0 δ0 S0)
    (hs : ∀ i x δ S, ds[i]? = some x → Pv i δ S → B Pv i x δ S) (hd : ∀ i δ S, ds.length ≤ i → Pv i δ S → Nx δ S) :
    ∃ (W : Nat → DSt → Sto → Prop) (n : Nat), W 0 δ0 S0 ∧ ∀ i δ S, W i δ S → ∃ r, seqI ds i S = some r ∧ (r = none → Nx δ S) ∧ ∀ x, r = some x → i < n ∧ B W i x δ S :=
  ⟨Pv, ds.length, h0, fun i δ S p => ⟨ds[i]?, rfl, fun e => hd i δ S (List.getElem?_eq_none_iff.mp e) p, fun x e => ⟨(List.getElem?_eq_some_iff.mp e).1, hs i x δ S e p⟩⟩⟩
/-- a loop over any walk of n items -/
theorem fr_of {J : ItD} {δ0 : DSt} {S0 : Sto} {Nx : DSt → Sto → Prop} {B : (Nat → DSt → Sto → Prop) → Nat → D → DSt → Sto → Prop} (n : Nat) (Pv : Nat → DSt → Sto → Prop) (h0 : Pv 0 δ0 S0)
    (hs : ∀ i δ S, i < n → Pv i δ S → ∃ x, J i S = some (some x) ∧ B Pv i x δ S) (hd : ∀ i δ S, n ≤ i → Pv i δ S → J i S = some none ∧ Nx δ S) :
    ∃ (W : Nat → DSt → Sto → Prop) (m : Nat), W 0 δ0 S0 ∧ ∀ i δ S, W i δ S → ∃ r, J i S = some r ∧ (r = none → Nx δ S) ∧ ∀ x, r = some x → i < m ∧ B W i x δ S := by
  refine ⟨Pv, n, h0, fun i δ S p => ?_⟩
  by_cases h : i < n
  · obtain ⟨x, e, b⟩ := hs i δ S h p
    exact ⟨some x, e, (fun z => nomatch z), fun y z => by cases z; exact ⟨h, b⟩⟩
  · obtain ⟨e, q⟩ := hd i δ S (by omega) p
    exact ⟨none, e, fun _ => q, fun y z => nomatch z⟩
theorem fr_rng {lo : Int} {n : Nat} {δ0 : DSt} {S0 : Sto} {Nx : DSt → Sto → Prop} {B : (Nat → DSt → Sto → Prop) → Nat → D → DSt → Sto → Prop} (Pv : Nat → DSt → Sto → Prop) (h0 : Pv 0 δ0 S0)
    (hs : ∀ i δ S, i < n → Pv i δ S → B Pv i (.int (lo + i)) δ S) (hd : ∀ i δ S, n ≤ i → Pv i δ S → Nx δ S) :
    ∃ (W : Nat → DSt → Sto → Prop) (m : Nat), W 0 δ0 S0 ∧ ∀ i δ S, W i δ S → ∃ r, rangeI lo n i S = some r ∧ (r = none → Nx δ S) ∧ ∀ x, r = some x → i < m ∧ B W i x δ S :=
  fr_of n Pv h0 (fun i δ S h p => ⟨_, by unfold rangeI; rw [if_pos h], hs i δ S h p⟩) fun i δ S h p => ⟨by unfold rangeI; rw [if_neg (by omega)], hd i δ S h p⟩
theorem fr_rngC {lo c : Int} {n : Nat} {δ0 : DSt} {S0 : Sto} {Nx : DSt → Sto → Prop} {B : (Nat → DSt → Sto → Prop) → Nat → D → DSt → Sto → Prop} (Pv : Nat → DSt → Sto → Prop) (h0 : Pv 0 δ0 S0)
    (hs : ∀ i δ S, i < n → Pv i δ S → B Pv i (.int (lo + (i : Nat) * c)) δ S) (hd : ∀ i δ S, n ≤ i → Pv i δ S → Nx δ S) :
    ∃ (W : Nat → DSt → Sto → Prop) (m : Nat), W 0 δ0 S0 ∧ ∀ i δ S, W i δ S → ∃ r, rangeCI lo c n i S = some r ∧ (r = none → Nx δ S) ∧ ∀ x, r = some x → i < m ∧ B W i x δ S :=
  fr_of n Pv h0 (fun i δ S h p => ⟨_, by unfold rangeCI; rw [if_pos h], hs i δ S h p⟩) fun i δ S h p => ⟨by unfold rangeCI; rw [if_neg (by omega)], hd i δ S h p⟩
/-! what is left to be found -/
section
variable {α : Type} [DecidableEq α]
def unk (l ks : List α) : Nat := (l.filter fun x => !decide (x ∈ ks)).length
theorem unk_le (l : List α) {ks ks' : List α} (h : ∀ x, x ∈ ks → x ∈ ks') : unk l ks' ≤ unk l ks := by
  induction l with
  | nil => exact Nat.le_refl _
  | cons y l ih =>
    unfold unk at ih ⊢
    by_cases h1 : y ∈ ks
    · have h2 := h y h1
      simp only [List.filter_cons, h1, h2, decide_true, Bool.not_true, Bool.false_eq_true, if_false]
      exact ih
    · by_cases h2 : y ∈ ks'
      · simp only [List.filter_cons, h1, h2, decide_true, decide_false, Bool.not_true, Bool.not_false, Bool.false_eq_true, if_false, if_true, List.length_cons]
        omega
      · simp only [List.filter_cons, h1, h2, decide_false, Bool.not_false, if_true, List.length_cons]
        omega
theorem unk_lt {l ks : List α} {x : α} (hx : x ∈ l) (hn : x ∉ ks) : unk l (ks ++ [x]) < unk l ks := by
  induction l with
  | nil => cases hx
  | cons y l ih =>
    have le := unk_le l (ks := ks) (ks' := ks ++ [x]) fun z hz => List.mem_append_left _ hz
    unfold unk at ih le ⊢
    by_cases e : x = y
    · subst e
      have h2 : x ∈ ks ++ [x] := by simp
      simp only [List.filter_cons, hn, h2, decide_true, decide_false, Bool.not_true, Bool.not_false, Bool.false_eq_true, if_false, if_true, List.length_cons]
      omega
    · have ih := ih ((List.mem_cons.mp hx).resolve_left e)
      by_cases h1 : y ∈ ks
      · have h2 : y ∈ ks ++ [x] := List.mem_append_left _ h1
        simp only [List.filter_cons, h1, h2, decide_true, Bool.not_true, Bool.false_eq_true, if_false]
        exact ih
      · have h2 : y ∉ ks ++ [x] := fun z => (List.mem_append.mp z).elim h1 fun z => e (List.mem_singleton.mp z).symm
        simp only [List.filter_cons, h1, h2, decide_false, Bool.not_false, if_true, List.length_cons]
        omega
theorem unk_nil (l : List α) : unk l [] = l.length := by
  unfold unk
  rw [List.filter_eq_self.mpr (by simp)]
end
theorem len_dt {p : Addr} {S : Sto} {Q : KD} {kvs : List (List Key × D)} (h : S p = some (.dt kvs)) (q : Q (.int kvs.length) S) : lenD [.ref p] S Q := ⟨_, rfl, .inr (.inr ⟨p, kvs, rfl, h, q⟩)⟩
theorem len_dk {p : Addr} {S : Sto} {Q : KD} {kvs : List (Key × D)} (h : S p = some (.dk kvs)) (q : Q (.int kvs.length) S) : lenD [.ref p] S Q := ⟨_, rfl, .inr (.inl ⟨p, kvs, rfl, h, q⟩)⟩
/-! a place where ways meet: J is what holds there -/
def dCut (t u : TDS) : TDS := fun D δ S => ∃ J : DSt → Sto → Prop, t { D with nx := J } δ S ∧ ∀ δ' S', J δ' S' → u D δ' S'
theorem dss_cut {X : Cx} {st : Stmt} {rest : List Stmt} {t u : TDS} (h1 : PS X st (lS X.K t)) (h2 : PSs X rest (lS X.K u)) : PSs X (st :: rest) (lS X.K (dCut t u)) :=
  PSs.wk (pss_cons h1 h2) fun D σ H ⟨N, δ, S, D', re, rs, ⟨J, q, g⟩, l⟩ => by
    refine ⟨N, δ, S, _, re, rs, q, fun δ' S' σ' H' b r q' => ?_, l.rt, l.bk, l.ct⟩
    exact ⟨N, δ', S', D', r, b.rs, g δ' S' q', l.from b⟩
def dTcut (t : TDT) : TDT := fun δ S Q => ∃ J : Bool → Sto → Prop, t δ S J ∧ ∀ b S', J b S' → Q b S'
theorem dt_cut {X : Cx} {e : Expr} {t : TDT} (h : PT X e (lT X.K t)) : PT X e (lT X.K (dTcut t)) :=
  PT.wk h fun σ H Q ⟨N, δ, S, Q', re, rs, ⟨J, q, g⟩, k⟩ => ⟨N, δ, S, J, re, rs, q, fun b S' H' bb j => k b S' H' bb (g b S' j)⟩
theorem it_of {C : Int → Int → Prop} {g : Int → Int → V} {i j : Int} {S : Sto} {Q : KD} (h : C i j) (q : Q (.at (g i j)) S) : intD C g (.int i) (.int j) S Q := ⟨h, q⟩
theorem cmul1 {i j : Int} (h1 : -(2 ^ 63) < i) (h2 : i < 2 ^ 63) : CMul i j := .inl ⟨by omega, by omega⟩
theorem cmul2 {i j : Int} (h1 : -(2 ^ 63) < j) (h2 : j < 2 ^ 63) : CMul i j := .inr ⟨by omega, by omega⟩
theorem ixN_nat {n i : Nat} (h : i < n) : ixN n (i : Int) = some i := by
  unfold ixN
  rw [if_pos (by omega), if_pos (by omega)]
  simp
theorem set_l {p : Addr} {S : Sto} {Q : Sto → Prop} {xs : List D} {i : Int} {j : Nat} {v : D} (h : S p = some (.lst xs)) (hj : ixN xs.length i = some j) (q : Q (up S p (.lst (xs.set j v)))) : setD (.ref p) (.int i) v S Q := ⟨p, rfl, .inl ⟨xs, i, j, h, rfl, hj, q⟩⟩
theorem sq_l {S : Sto} {p : Addr} {xs : List D} (h : S p = some (.lst xs)) : sqOf S (.ref p) = some xs := by unfold sqOf lsOf; dsimp only; rw [h]
theorem ls_l {S : Sto} {p : Addr} {xs : List D} (h : S p = some (.lst xs)) : lsOf S (.ref p) = some xs := by unfold lsOf; dsimp only; rw [h]
theorem ty_l {S : Sto} {p : Addr} {xs : List D} (h : S p = some (.lst xs)) : tyD S (.ref p) "list" := by unfold tyD; dsimp only; rw [h]
theorem ty_dk {S : Sto} {p : Addr} {xs : List (Key × D)} (h : S p = some (.dk xs)) : tyD S (.ref p) "dict" := by unfold tyD; dsimp only; rw [h]
theorem ty_dt {S : Sto} {p : Addr} {xs : List (List Key × D)} (h : S p = some (.dt xs)) : tyD S (.ref p) "dict" := by unfold tyD; dsimp only; rw [h]
theorem rsv_l {S : Sto} {p : Addr} {xs : List D} (h : S p = some (.lst xs)) : rsv S (.ref p) = .fl xs := by unfold rsv; dsimp only; rw [h]
/-- a list of the store, against a list that stands -/
theorem eq_l {neg : Bool} {p : Addr} {xs : List D} {y : List D} {S : Sto} {Q : KD} (h : S p = some (.lst xs)) (cx : cmpOk (.fl xs) = true) (cy : cmpOk (.fl y) = true) (q : Q (.bl (xor neg (PyData.eqv (toPy (.fl xs)) (toPy (.fl y))))) S) : eqD neg (.ref p) (.fl y) S Q := by
  unfold eqD
  dsimp only
  rw [rsv_l h, show rsv S (.fl y) = .fl y from rfl]
  exact ⟨cx, cy, q⟩
theorem eqv_nil (xs : List D) : PyData.eqv (toPy (.fl xs)) (toPy (.fl [])) = xs.isEmpty := by
  cases xs with
  | nil => unfold toPy; unfold toPys; simp only [PyData.eqv, PyData.eqvAll]; rfl
  | cons x xs => unfold toPy; unfold toPys; simp only [PyData.eqv, PyData.eqvAll]; rfl
theorem cmp_ints (ns : List Int) : cmpOk (.fl (ns.map D.int)) = true := by
  have p : purs (ns.map D.int) = true := by
    rw [purs_all, List.all_map, List.all_eq_true]
    intro n _
    show pur (D.int n) = true
    unfold pur; rfl
  have c : PyData.canLayAll0 (toPys (ns.map D.int)) = true := by
    clear p
    induction ns with
    | nil => simp [toPys, PyData.canLayAll0]
    | cons n ns ih =>
      rw [List.map_cons]; unfold toPys toPy
      simp only [PyData.canLayAll0, PyData.canLay0, ih, Bool.true_and]
  have d : PyData.depthAll (toPys (ns.map D.int)) ≤ 1 := by
    clear p c
    induction ns with
    | nil => simp [toPys, PyData.depthAll]
    | cons n ns ih =>
      rw [List.map_cons]; unfold toPys toPy
      simp only [PyData.depthAll, PyData.depth]
      omega
  unfold cmpOk
  show (pur (.fl (ns.map D.int)) && ((toPy (.fl (ns.map D.int))).canLay0 && decide ((toPy (.fl (ns.map D.int))).depth ≤ 64))) = true
  have e : toPy (.fl (ns.map D.int)) = .list (toPys (ns.map D.int)) := by conv => lhs; unfold toPy
  have e2 : pur (.fl (ns.map D.int)) = true := by unfold pur; exact p
  rw [e, e2]
  have h1 : (PyData.list (toPys (ns.map D.int))).canLay0 = true := by simp only [PyData.canLay0]; exact c
  have h2 : (PyData.list (toPys (ns.map D.int))).depth ≤ 64 := by simp only [PyData.depth]; omega
  rw [h1, decide_eq_true h2]
  rfl
theorem add_i {mu : Bool} {i j : Int} {S : Sto} {Q : KD} (q : Q (.int (i + j)) S) : addD mu (.int i) (.int j) S Q := q
theorem add_s {mu : Bool} {a b : Str} {S : Sto} {Q : KD} (h : a.length + b.length ≤ sizeLine) (q : Q (.str (a ++ b)) S) : addD mu (.str a) (.str b) S Q := ⟨h, q⟩
theorem add_t {mu : Bool} {xs ys : List D} {S : Sto} {Q : KD} (h : xs.length + ys.length ≤ sizeLine) (q : Q (.tup (xs ++ ys)) S) : addD mu (.tup xs) (.tup ys) S Q := ⟨h, q⟩
/-- lists: a new one that nobody will change, or one of the store -/
theorem add_f {x y : D} {xs ys : List D} {S : Sto} {Q : KD} (hx : lsOf S x = some xs) (hy : lsOf S y = some ys) (h : xs.length + ys.length ≤ sizeLine) (q : Q (.fl (xs ++ ys)) S) : addD false x y S Q := by
  unfold addD
  split
  · unfold lsOf at hx; cases hx
  · unfold lsOf at hx; cases hx
  · unfold lsOf at hx; cases hx
  · exact ⟨xs, ys, hx, hy, h, brF rfl q⟩
theorem add_l {x y : D} {xs ys : List D} {S : Sto} {Q : KD} (hx : lsOf S x = some xs) (hy : lsOf S y = some ys) (h : xs.length + ys.length ≤ sizeLine) (q : ∀ p, S p = none → Q (.ref p) (up S p (.lst (xs ++ ys)))) : addD true x y S Q := by
  unfold addD
  split
  · unfold lsOf at hx; cases hx
  · unfold lsOf at hx; cases hx
  · unfold lsOf at hx; cases hx
  · exact ⟨xs, ys, hx, hy, h, brT rfl q⟩
theorem cut_map {α β : Type} (f : α → β) (l : List α) (i j : Nat) : ((l.map f).drop i).take j = ((l.drop i).take j).map f := by rw [← List.map_drop, ← List.map_take]
theorem cutD_map {α : Type} (f : α → D) (l : List α) (lo hi : Option Int) : ∃ l' : List α, cutD (l.map f) lo hi = l'.map f ∧ l'.length ≤ l.length ∧ ∀ x ∈ l', x ∈ l := by
  unfold cutD
  rw [cut_map]
  refine ⟨_, rfl, ?_, fun x hx => List.mem_of_mem_drop (List.mem_of_mem_take hx)⟩
  rw [List.length_take, List.length_drop]
  omega
/-! a list is walked, one of these ways -/
def iLf (te : TDE) : TDI := fun δ S R => te δ S fun x S1 => ∃ ds, x = .fl ds ∧ R (seqI ds) S1
def iLw (te : TDE) : TDI := fun δ S R => te δ S fun x S1 => ∃ a ds, x = .ref a ∧ S1 a = some (.lst ds) ∧ R (listI a) S1
theorem di_lf {X : Cx} {tg e : Expr} {te : TDE} (he : PE X e (lE X.K te)) : PI X tg e (lI X.K (iLf te)) :=
  PI.wk (pi_list he) fun σ H R ⟨N, δ, S, R', re, rs, q, kk⟩ => by
    refine ⟨N, δ, S, _, re, rs, q, fun x S1 v H1 b1 rv q1 => ?_⟩
    obtain ⟨ds, rfl, q1⟩ := q1
    obtain ⟨a, vs, rfl, fz, r⟩ := rv.fl_
    exact ⟨a, rfl, ⟨vs, fz.sq⟩, kk _ S1 _ H1 b1 (rel_fl b1.rs fz r) q1⟩
theorem di_lw {X : Cx} {tg e : Expr} {te : TDE} (he : PE X e (lE X.K te)) : PI X tg e (lI X.K (iLw te)) :=
  PI.wk (pi_list he) fun σ H R ⟨N, δ, S, R', re, rs, q, kk⟩ => by
    refine ⟨N, δ, S, _, re, rs, q, fun x S1 v H1 b1 rv q1 => ?_⟩
    obtain ⟨a, ds, rfl, e, q1⟩ := q1
    have := rv.at_
    subst this
    obtain ⟨vs, h1, h2⟩ := b1.rs.ob a _ e
    exact ⟨a, rfl, ⟨vs, .of h1⟩, kk _ S1 _ H1 b1 rel_lst q1⟩
theorem cutD_mem {x : D} {l : List D} {lo hi : Option Int} (h : x ∈ cutD l lo hi) : x ∈ l := List.mem_of_mem_drop (List.mem_of_mem_take h)
theorem cutD_len (l : List D) (lo hi : Option Int) : (cutD l lo hi).length ≤ l.length := by
  unfold cutD
  rw [List.length_take, List.length_drop]
  omega
theorem sl_f {x : D} {xs : List D} {lo hi : Option Int} {S : Sto} {Q : KD} (h : lsOf S x = some xs) (q : Q (.fl (cutD xs lo hi)) S) : sliceD false x lo hi S Q := by
  unfold sliceD
  split
  · unfold lsOf at h; cases h
  · unfold lsOf at h; cases h
  · exact ⟨xs, h, brF rfl q⟩
theorem cut_take (l : List D) (k : Nat) : cutD l none (some (k : Int)) = l.take k := by
  unfold cutD HT.sIx
  simp only [List.drop_zero]
  rw [if_neg (by omega)]
  have e : (k : Int).toNat = k := by omega
  rw [e, Nat.sub_zero]
  by_cases h : k ≤ l.length
  · rw [Nat.min_eq_left h]
  · rw [Nat.min_eq_right (by omega), List.take_of_length_le (Nat.le_refl _), List.take_of_length_le (by omega)]
/-- forgetting a thing of the store -/
theorem sub_del {S : Sto} {p : Addr} : Sub (del S p) S := fun a o e => by
  by_cases h : a = p
  · subst h; rw [del_same] at e; cases e
  · rw [del_ne h] at e; exact e
theorem app_of {p : Addr} {xs : List D} {y : D} {S : Sto} {Q : KD} (h : S p = some (.lst xs)) (hl : xs.length < sizeLine) (q : Q .non (up S p (.lst (xs ++ [y])))) : appD (.ref p) [y] S Q := ⟨p, xs, y, rfl, rfl, h, hl, q⟩
theorem tpl_l {x : D} {xs : List D} {S : Sto} {Q : KD} (h : lsOf S x = some xs) (q : Q (.tup xs) S) : tplD [x] S Q := by
  refine ⟨x, rfl, ?_⟩
  split
  · unfold lsOf at h; cases h
  · exact ⟨xs, h, q⟩
theorem enum_fl {xs : List D} {i : Nat} {S : Sto} : enumI (.fl xs) i S = some (xs[i]?.map fun d => .tup [.int (i : Nat), d]) := rfl
theorem tru_b {b : Bool} {S : Sto} {Q : Bool → Sto → Prop} (q : Q b S) : truD (.bl b) S Q := q
end DL

/-! Data layer, eleventh part: texts that are walked; zip of any two. -/
namespace DL
open PySem L2 PyProof.Rows

/-! ### what zip draws from -/
inductive Sd where
  | li (a : Addr)
  | tu (a : Addr)
  | st (x : Str)
def Sd.v : Sd → V
  | .li a => .ref a
  | .tu a => .ref a
  | .st x => .str x
def signsV (x : Str) : List V := x.cps.toList.map fun c => .str ⟨#[c]⟩
def Sd.Has (K : PySem.W.Frag) (H : Hp) : Sd → List V → Prop
  | .li a, xs => SqL K H a xs
  | .tu a, xs => SqT K H a xs
  | .st x, xs => xs = signsV x
def Sd.At (h : Heap) (it i : Nat) : Sd → Prop
  | .li a => h.IsListIter it a i
  | .tu a => h.IsTupleIter it a i
  | .st x => ∃ t, h.IsStrIter it (strIterType x) x t i
def Sd.Old (n : Nat) : Sd → Prop
  | .li a => a < n
  | .tu a => a < n
  | .st _ => True
theorem Sd.At.keep {h h' : Heap} {it i : Nat} : ∀ {d : Sd}, d.At h it i → (∀ o, h.get? it = some o → h'.get? it = some o) → d.At h' it i
  | .li a, s, k => Heap.IsListIter.at (show h.IsListIter it a i from s) k
  | .tu a, s, k => Heap.IsTupleIter.at (show h.IsTupleIter it a i from s) k
  | .st x, ⟨t, o, e, r⟩, k => ⟨t, o, k o e, r⟩
theorem Sd.At.obj {h : Heap} {it i : Nat} : ∀ {d : Sd}, d.At h it i → ∃ o, h.get? it = some o ∧ ∀ v, o.data ≠ .cell v
  | .li a, ⟨o, e, _, dd⟩ => ⟨o, e, fun v q => by rw [dd] at q; cases q⟩
  | .tu a, ⟨o, e, _, dd⟩ => ⟨o, e, fun v q => by rw [dd] at q; cases q⟩
  | .st x, ⟨t, o, e, _, dd⟩ => ⟨o, e, fun v q => by rw [dd] at q; cases q⟩
section
variable {X : Cx} {pins : List (Addr × Obj)} {σ : L2.St} {H : Hp} {s : Shared} {xs : List V}
/-- a side of zip at a turn -/
theorem Sd.draws (I : Inv X pins σ H s) (hh : X.A.handled = none) (n it i : Nat) (hn : n ≤ it) : ∀ (d : Sd), d.Old n → d.At s.heap it i → d.Has X.K H xs → ∃ (fp : List Addr) (m : Nat) (P : Nat → Value → Prop) (St : Nat → Heap → Prop),
    Draws X.prog X.w X.A.in1 it fp m P St ∧ St i s.heap ∧ m = xs.length ∧ it ∈ fp ∧ (∀ b : Nat, b ∈ fp → b = it ∨ b < n) ∧ (∀ v x, P i v → xs[i]? = some x → RelV x v) ∧ ∀ h', St (i + 1) h' → d.At h' it (i + 1)
  | .li a, o, q0, has => by
    have o' : (a : Nat) < n := o
    obtain ⟨its, rv, p, _⟩ := I.list has
    refine ⟨_, _, _, _, Draws.list (A := X.A.in1) hh it a (Nat.ne_of_lt (Nat.lt_of_lt_of_le o hn)) its.toArray, ⟨q0, p.isList⟩, by rw [List.size_toArray, ← rv.length], by simp, fun b hb => ?_, fun v x hv hx => ?_, fun h' z => z.1⟩
    · simp only [List.mem_cons, List.not_mem_nil, or_false] at hb
      rcases hb with rfl | rfl
      · exact .inl rfl
      · exact .inr o'
    · obtain ⟨u, hu, ru⟩ := rv.get hx
      have hv' : its[i]? = some v := by simpa using hv
      rw [hu] at hv'
      cases hv'
      exact ru
  | .tu a, o, q0, has => by
    have o' : (a : Nat) < n := o
    obtain ⟨its, rv, p, _⟩ := I.tuple has
    refine ⟨_, _, _, _, Draws.tuple (A := X.A.in1) hh it a (Nat.ne_of_lt (Nat.lt_of_lt_of_le o hn)) its.toArray, ⟨q0, p⟩, by rw [List.size_toArray, ← rv.length], by simp, fun b hb => ?_, fun v x hv hx => ?_, fun h' z => z.1⟩
    · simp only [List.mem_cons, List.not_mem_nil, or_false] at hb
      rcases hb with rfl | rfl
      · exact .inl rfl
      · exact .inr o'
    · obtain ⟨u, hu, ru⟩ := rv.get hx
      have hv' : its[i]? = some v := by simpa using hv
      rw [hu] at hv'
      cases hv'
      exact ru
  | .st y, o, ⟨t, q0⟩, has => by
    have e : xs = signsV y := has
    subst e
    refine ⟨_, _, _, _, Draws.text (A := X.A.in1) hh it y t, q0, by unfold signsV; rw [List.length_map, Array.length_toList], by simp, fun b hb => .inl (List.mem_singleton.mp hb), fun v x hv hx => ?_, fun h' z => ⟨t, z⟩⟩
    obtain ⟨c, u, hc, rfl⟩ := hv
    unfold signsV at hx
    rw [List.getElem?_map, Array.getElem?_toList, hc] at hx
    cases hx
    exact ⟨u, rfl⟩
end
/-- both sides as they stand at each turn, the items in new pairs -/
def Izm (K : PySem.W.Frag) (d1 d2 : Sd) : It :=
  ⟨fun i H => ∃ (xs ys : List V) (x y : V), d1.Has K H xs ∧ d2.Has K H ys ∧ xs[i]? = some x ∧ ys[i]? = some y,
    fun i H v H' => ∃ T x y, v = .ref T ∧ H T = none ∧ H' = upd H T (.tup [x, y]) ∧ (∀ xs, d1.Has K H xs → xs[i]? = some x) ∧ ∀ ys, d2.Has K H ys → ys[i]? = some y,
    fun i H => ∃ xs ys : List V, d1.Has K H xs ∧ d2.Has K H ys ∧ i ≤ xs.length ∧ i ≤ ys.length ∧ (i = xs.length ∨ i = ys.length)⟩
theorem Sd.inj {X : Cx} {pins : List (Addr × Obj)} {σ : L2.St} {H : Hp} {s : Shared} {xs ys : List V} (I : Inv X pins σ H s) : ∀ {d : Sd}, d.Has X.K H xs → d.Has X.K H ys → xs = ys
  | .li a, h, h' => I.list_inj h h'
  | .tu a, h, h' => I.tuple_inj h h'
  | .st x, h, h' => (show xs = signsV x from h).trans (show ys = signsV x from h').symm
theorem sep_of (n : Nat) {fp1 fp2 : List Addr} (mem1 : n ∈ fp1) (sub1 : ∀ b : Nat, b ∈ fp1 → b = n ∨ b < n) (mem2 : n + 1 ∈ fp2) (sub2 : ∀ b : Nat, b ∈ fp2 → b = n + 1 ∨ b < n) : ZipSep2 (n + 4) (n + 2) (n + 3) n (n + 1) fp1 fp2 :=
  ⟨show n + 2 ≠ n + 4 by omega, show n + 3 ≠ n + 4 by omega, show n + 2 ≠ n + 3 by omega, show n + 2 ≠ n by omega, mem1, fun z => by rcases sub1 _ z with q | q <;> omega, fun z => by rcases sub1 _ z with q | q <;> omega, show n + 2 ≠ n + 1 by omega, mem2,
    fun z => by rcases sub2 _ z with q | q <;> omega, fun z => by rcases sub2 _ z with q | q <;> omega, fun z => by rcases sub2 _ z with q | q <;> omega, fun z => by rcases sub1 _ z with q | q <;> omega⟩
theorem turn_zipM {P : Program} {w : World} {K : PySem.W.Frag} {elts : List Expr} {kk : Nat} {tpos : Pos} {d1 d2 : Sd} (n : Nat) (o1 : d1.Old n) (o2 : d2.Old n) :
    Turn P w K (.Tuple elts kk tpos) (Izm K d1 d2) [n + 4, n + 2, n + 3, n, n + 1] (n + 4) (fun i h => IsZip h (n + 4) (n + 2) (n + 3) .none ∧ IsTupOf2 h (n + 2) (.ref n) (.ref (n + 1)) ∧ (∃ x y, IsTupOf2 h (n + 3) x y) ∧ d1.At h n i ∧ d2.At h (n + 1) i) where
  mem := by simp
  obj := fun i h st c hc => by
    obtain ⟨hz, hTI, ⟨x, y, hTO⟩, h1, h2⟩ := st
    have e' : c = n + 4 ∨ c = n + 2 ∨ c = n + 3 ∨ c = n ∨ c = n + 1 := by simpa using hc
    rcases e' with q | q | q | q | q
    · rw [q]; exact ⟨_, hz, fun v q => nomatch q⟩
    · rw [q]; exact ⟨_, hTI, fun v q => nomatch q⟩
    · rw [q]; exact ⟨_, hTO, fun v q => nomatch q⟩
    · rw [q]; exact h1.obj
    · rw [q]; exact h2.obj
  keep := fun i h h' st k => by
    obtain ⟨hz, hTI, ⟨x, y, hTO⟩, h1, h2⟩ := st
    exact ⟨k (n + 4) (by simp) _ hz, k (n + 2) (by simp) _ hTI, ⟨x, y, k (n + 3) (by simp) _ hTO⟩, h1.keep fun o q => k n (by simp) o q, h2.keep fun o q => k (n + 1) (by simp) o q⟩
  item := by
    intro X hP hw hK hc i pins s σ H E I hf st hg
    subst hP hw hK
    obtain ⟨hz, hTI, ⟨x0, y0, hTO⟩, h1, h2⟩ := st
    obtain ⟨xs, ys, x, y, hqx, hqy, hx, hy⟩ := hg
    obtain ⟨fp1, m1, P1, S1, D1, s1, e1, mem1, sub1, rel1, go1⟩ := Sd.draws I (I.ok.hd hc) n n i (Nat.le_refl _) d1 o1 h1 hqx
    obtain ⟨fp2, m2, P2, S2, D2, s2, e2, mem2, sub2, rel2, go2⟩ := Sd.draws I (I.ok.hd hc) n (n + 1) i (Nat.le_succ _) d2 o2 h2 hqy
    have S : ZipSep2 (n + 4) (n + 2) (n + 3) n (n + 1) fp1 fp2 := sep_of n mem1 sub1 mem2 sub2
    have hi1 := (List.getElem?_eq_some_iff.mp hx).1
    have hi2 := (List.getElem?_eq_some_iff.mp hy).1
    have hzl : n + 4 < s.heap.objs.size := Heap.lt_size hz
    refine wpAny_pyNext_zipD2_item S D1 D2 hz hTI hTO s1 s2 (by omega) (by omega) fun u1 u2 h' tk p1 p2 z' TO' t1 t2 hT hsz hk => ?_
    refine ⟨_, rfl, wpAny_letOwnedTupleGo_zip (s := { s with heap := h', toks := tk }) z' fun h'' z'' sb => ?_⟩
    have r1 := rel1 _ _ p1 hx
    have r2 := rel2 _ _ p2 hy
    have hT2 : h''.get? s.heap.objs.size = some { cls := .type "tuple", data := .seq #[u1, u2] } := (sb.2 _ (Nat.ne_of_gt hzl)).trans hT
    have new : ObjOk X.prog X.w (upd H s.heap.objs.size (.tup [x, y])) h'' s.heap.objs.size (.tup [x, y]) :=
      ⟨by show 2 ≤ sizeLine; decide, [u1, u2], .cons r1 (.cons r2 .nil), ⟨_, hT2, rfl, _, rfl⟩⟩
    have I1 : Inv X pins σ (upd H s.heap.objs.size (.tup [x, y])) { s with heap := h'', toks := tk } :=
      I.turnedNew (t' := tk) (ch := [n + 4, n + 2, n + 3, n, n + 1]) (fun c o hb q => (sb.2 c (fun q' => hb (by simp [q']))).trans (hk c o (fun q' => hb (by simp [q'])) (fun q' => hb (by simp [q'])) (fun q' => hb (by simp [q'])) (fun q' => hb (by simp [q'])) q)) hf (Nat.le_refl _) new
    refine ⟨.ref s.heap.objs.size, _, I1, rfl, ⟨_, x, y, rfl, I.hok.fresh (Nat.le_refl _), rfl, fun l hl => by rw [Sd.inj I hl hqx]; exact hx, fun l hl => by rw [Sd.inj I hl hqy]; exact hy⟩, ⟨z'', ?_, ⟨u1, u2, ?_⟩, ?_, ?_⟩, fun c hcm => ?_⟩
    · exact (sb.2 _ S.TIz).trans (hk _ _ S.TIz S.TITO S.TIi1 S.TIi2 hTI)
    · exact (sb.2 _ S.TOz).trans TO'
    · exact (go1 _ t1).keep fun o q => (sb.2 _ S.zi1.symm).trans q
    · exact (go2 _ t2).keep fun o q => (sb.2 _ S.zi2.symm).trans q
    · have hlt : c < s.heap.objs.size := by
        have e' : c = n + 4 ∨ c = n + 2 ∨ c = n + 3 ∨ c = n ∨ c = n + 1 := by simpa using hcm
        have lt : ∀ k : Nat, k ≤ 4 → n + k < s.heap.objs.size := fun k hk => Nat.lt_of_le_of_lt (Nat.add_le_add_left hk n) hzl
        rcases e' with e | e | e | e | e
        · rw [e]; exact hzl
        · rw [e]; exact lt 2 (by decide)
        · rw [e]; exact lt 3 (by decide)
        · rw [e]; exact lt 0 (by decide)
        · rw [e]; exact lt 1 (by decide)
      rw [upd_ne (Nat.ne_of_lt hlt)]
      exact (hf c hcm).1
  done := by
    intro X hP hw hK hc i pins s σ H E I hf st hg
    subst hP hw hK
    obtain ⟨hz, hTI, ⟨x0, y0, hTO⟩, h1, h2⟩ := st
    obtain ⟨xs, ys, hqx, hqy, l1, l2, hend⟩ := hg
    obtain ⟨fp1, m1, P1, S1, D1, s1, e1, mem1, sub1, rel1, go1⟩ := Sd.draws I (I.ok.hd hc) n n i (Nat.le_refl _) d1 o1 h1 hqx
    obtain ⟨fp2, m2, P2, S2, D2, s2, e2, mem2, sub2, rel2, go2⟩ := Sd.draws I (I.ok.hd hc) n (n + 1) i (Nat.le_succ _) d2 o2 h2 hqy
    have S : ZipSep2 (n + 4) (n + 2) (n + 3) n (n + 1) fp1 fp2 := sep_of n mem1 sub1 mem2 sub2
    exact wpAny_pyNext_zipD2_end S D1 D2 hz hTI hTO s1 s2 (by omega) (by omega) (by omega) fun h' tk hk => ⟨rfl, I.turnedL (t' := tk) (ch := [n + 4, n + 2, n + 3, n, n + 1]) (fun c o hb q =>
      hk c o (fun q' => hb (by simp [q'])) (fun q' => hb (by simp [q'])) (fun q' => hb (by simp [q'])) (fun q' => hb (by simp [q'])) q) hf⟩
  self := fun A i s Q E st h => wpAny_pyIter_zip st.1 h
end DL

/-! Data layer, twelfth part: sets of numbers and texts; sorted(set(x)), len(set(x)). -/
namespace DL
open PySem L2 PySem.Spec PyProof.Rows

/-! ### values that are keys, and sets of them -/
def kyOf (v : Value) : Key := match v with
  | .int k _ => .inl k
  | .str x _ => .inr x
  | _ => .inl 0
inductive Ky : Value → Prop
  | int (i : Int) (t : Tok) : Ky (.int i t)
  | str (x : Str) (t : Tok) : Ky (.str x t)
theorem Ky.is (P : Program) (w : World) : ∀ {v : Value}, Ky v → (mixKind P w).is (kyOf v) v = true
  | _, .int i t => mixKind_int P w i t
  | _, .str x t => mixKind_str P w x t
theorem Ky.iff {P : Program} {w : World} {v : Value} (h : Ky v) (k : Key) : (mixKind P w).is k v = true ↔ kyOf v = k :=
  ⟨fun z => (mixKind P w).inj v _ _ (h.is P w) z, fun z => z ▸ h.is P w⟩
theorem Ky.scan : ∀ {v : Value}, Ky v → v.scannable = true
  | _, .int _ _ => rfl
  | _, .str _ _ => rfl
abbrev kyE (e : Int × Value) : Key := kyOf e.2
def Ent (P : Program) (w : World) (e : Int × Value) : Prop := Ky e.2 ∧ e.1 = (mixKind P w).hash (kyOf e.2)
theorem ent_elems {P : Program} {w : World} {l : List (Int × Value)} (g : ∀ e ∈ l, Ent P w e) : ElemsOf (mixKind P w) l := fun e he =>
  ⟨⟨_, (g e he).1.is P w, (g e he).2⟩, (g e he).1.scan⟩
theorem ent_mem {P : Program} {w : World} {l : List (Int × Value)} (g : ∀ e ∈ l, Ent P w e) (k : Key) : k ∈ l.map kyE ↔ ∃ e ∈ l, (mixKind P w).is k e.2 = true := by
  rw [List.mem_map]
  exact ⟨fun ⟨e, he, q⟩ => ⟨e, he, ((g e he).1.iff k).2 q⟩, fun ⟨e, he, q⟩ => ⟨e, he, ((g e he).1.iff k).1 q⟩⟩
/-- the table's own part -/
structure Tab (P : Program) (w : World) (es : Array (Int × Value)) (t : SetTable) : Prop where
  ent : ∀ e ∈ es.toList, Ent P w e
  nod : (es.toList.map kyE).Nodup
  fit : t.fits es.size = true
  ris : Ris t.place.toList
  led : w.params.followText "set-order" = true ∨ t.led = true
/-- the set at a: its members are those of ks -/
def SetM (P : Program) (w : World) (h : Heap) (a : Addr) (ks : List Key) : Prop :=
  ∃ o es ep t, h.get? a = some o ∧ o.ExactSet ∧ o.data = .set es ep t ∧ Tab P w es t ∧ (∀ k, k ∈ es.toList.map kyE ↔ k ∈ ks) ∧ es.size ≤ ks.length ∧ ks.length < scanBound
section
variable {P : Program} {w : World} {h h' : Heap} {a : Addr} {ks : List Key}
theorem SetM.at (R : SetM P w h a ks) (k : ∀ o, h.get? a = some o → h'.get? a = some o) : SetM P w h' a ks := by
  obtain ⟨o, es, ep, t, ho, r⟩ := R
  exact ⟨o, es, ep, t, k o ho, r⟩
theorem SetM.nil (ho : h.get? a = some { cls := .type "set", dict := none, data := .set #[] 0 (.fresh 0 0 (!w.params.followText "set-order")) }) : SetM P w h a [] := by
  refine ⟨_, _, _, _, ho, ⟨rfl, rfl, rfl⟩, rfl, ⟨fun e he => by simp at he, by simp, rfl, List.Pairwise.nil, ?_⟩, fun k => by simp, Nat.le_refl _, by decide⟩
  show _ ∨ (!w.params.followText "set-order") = true
  cases w.params.followText "set-order"
  · exact .inr rfl
  · exact .inl rfl
end
section
variable {P : Program} {w : World} {A : Around} {E : Value → Shared → Prop} {s : Shared} {a : Addr} {ks : List Key}
theorem setM_tail {g : Bool → Sem Unit} (hg : ∀ (b : Bool) (s₁ : Shared) (Q' : Unit → Shared → Prop), Q' () s₁ → wpAny (model P w) A (g b) Q' E s₁)
    {o : Obj} {es : Array (Int × Value)} {ep : Nat} {t : SetTable} (ho : s.heap.get? a = some o) (hex : o.ExactSet) (hd : o.data = .set es ep t)
    {es1 : Array (Int × Value)} {t2 : SetTable} {ks' : List Key} (T : Tab P w es1 t2) (m1 : ∀ k, k ∈ es1.toList.map kyE ↔ k ∈ ks') (hn : es1.size ≤ ks'.length) (hb : ks'.length < scanBound) {wasDummy : Bool} {R : Option Bool → Shared → Prop}
    (hR : ∀ h', Heap.SameBut a s.heap h' → SetM P w h' a ks' → R (some true) { s with heap := h' }) :
    wpAny (model P w) A (do
        storeSet a es1 t2
        if (!wasDummy && t2.tooFull) = true then do
            g (relayAll t2 es1 (SetTable.grown es1.size)).2.2
            storeSet a (relayAll t2 es1 (SetTable.grown es1.size)).1 (relayAll t2 es1 (SetTable.grown es1.size)).2.1
            pure (some true)
          else pure (some true)) R E s := by
  have hb1 : es1.size < scanBound := Nat.lt_of_le_of_lt hn hb
  refine wpAny_bind (wpAny_storeSet_of ho hd ?_ (fits_of_scanBound hb1))
  have ho1 := store_at (es' := es1) (t' := t2) ho hd
  have sb1 := Heap.SameBut.update s.heap a (Obj.putSet es1 t2)
  split
  · have pm := relayAll_perm t2 es1 (SetTable.grown es1.size)
    have q1 := relayAll_fits t2 es1 (SetTable.grown es1.size)
    have q2 := relayAll_ris t2 es1 (SetTable.grown es1.size)
    have q3 := relayAll_led t2 es1 (SetTable.grown es1.size)
    generalize relayAll t2 es1 (SetTable.grown es1.size) = Z at pm q1 q2 q3 ⊢
    obtain ⟨es2, t3, gave⟩ := Z
    dsimp only at pm q1 q2 q3 ⊢
    have hsz : es2.size = es1.size := by rw [← Array.length_toList, pm.length_eq, Array.length_toList]
    refine wpAny_bind (hg _ _ _ ?_)
    refine wpAny_bind (wpAny_storeSet_of ho1 rfl ?_ (fits_of_scanBound (by omega)))
    have ho2 := store_at (es' := es2) (t' := t3) ho1 rfl
    refine wpAny_pure (hR _ (sb1.trans (Heap.SameBut.update _ a _)) ⟨_, es2, _, t3, ho2, hex, rfl, ⟨fun e he => T.ent e (pm.mem_iff.mp he), (pm.map kyE).nodup_iff.mpr T.nod, q1, q2, ?_⟩, fun k => (pm.map kyE).mem_iff.trans (m1 k), by omega, hb⟩)
    rcases T.led with z | z
    · exact .inl z
    · exact .inr (by rw [q3]; exact z)
  · exact wpAny_pure (hR _ sb1 ⟨_, es1, _, t2, ho1, hex, rfl, T, m1, hn, hb⟩)

theorem setM_add {v : Value} (kv : Ky v) {Q : Bool → Shared → Prop} (R : SetM P w s.heap a ks) (room : ks.length + 1 < scanBound)
    (hQ : ∀ b h', Heap.SameBut a s.heap h' → SetM P w h' a (ks ++ [kyOf v]) → Q b { s with heap := h' }) :
    wpAny (model P w) A (setAddHashed a v ((mixKind P w).hash (kyOf v))) Q E s := by
  obtain ⟨o, es, ep, t, ho, hex, hd, T, hm, hn, hb⟩ := R
  have hkey : (mixKind P w).is (kyOf v) v = true := kv.is P w
  have hel : ElemsOf (mixKind P w) es.toList := ent_elems T.ent
  have hb0 : es.size < scanBound := Nat.lt_of_le_of_lt hn hb
  have hlen : (ks ++ [kyOf v]).length = ks.length + 1 := by rw [List.length_append]; rfl
  unfold setAddHashed setAddHashedIn
  refine wpAny_holding (wpAny_bind (wpAny_setState_of ho hd T.fit ?_))
  dsimp only
  rw [byScan_of kv.scan hb0 hel]
  simp only [↓reduceIte]
  unfold setAddByScan
  refine wpAny_bind (wpAny_bind (wpAny_rule (wpAny_bind (wpAny_setScan_of hkey ho hd T.fit hel ?_))))
  cases hfi : List.findIdx? (fun e => (mixKind P w).is (kyOf v) e.2) es.toList with
  | some j =>
    dsimp only
    obtain ⟨hj, pj, _⟩ := List.findIdx?_eq_some_iff_getElem.mp hfi
    have hin : kyOf v ∈ ks := (hm _).1 ((ent_mem T.ent _).2 ⟨es.toList[j], List.getElem_mem hj, pj⟩)
    refine wpAny_pure (wpAny_pure (hQ _ s.heap (Heap.SameBut.refl a s.heap) ⟨o, es, ep, t, ho, hex, hd, T, fun k => ?_, by omega, by omega⟩))
    rw [hm k, List.mem_append, List.mem_singleton]
    exact ⟨.inl, fun z => z.elim id fun e => e ▸ hin⟩
  | none =>
    dsimp only
    have hnk : kyOf v ∉ es.toList.map kyE := fun z => by
      obtain ⟨e, he, q⟩ := (ent_mem (P := P) (w := w) T.ent _).1 z
      have c := List.findIdx?_eq_none_iff.mp hfi e he
      rw [q] at c
      cases c
    have hgw : ∀ (b : Bool) {s₁ : Shared} {Q' : Unit → Shared → Prop}, Q' () s₁ → wpAny (model P w) A (match b with | true => rule "set.scan.the-table-gave-way" | false => pure ()) Q' E s₁ :=
      fun b s₁ Q' q => by cases b <;> first | exact wpAny_pure q | exact wpAny_rule q
    have pm := layNew_perm t es ((mixKind P w).hash (kyOf v)) v
    have q1 := layNew_fits t es ((mixKind P w).hash (kyOf v)) v
    have q2 := layNew_ris t es ((mixKind P w).hash (kyOf v)) v T.ris
    have q3 := layNew_led t es ((mixKind P w).hash (kyOf v)) v
    generalize layNew t es ((mixKind P w).hash (kyOf v)) v = Z at pm q1 q2 q3 ⊢
    obtain ⟨es1, t1, wasDummy, gave⟩ := Z
    dsimp only at pm q1 q2 q3 ⊢
    rw [Array.toList_push] at pm
    have pc : es1.toList.Perm (((mixKind P w).hash (kyOf v), v) :: es.toList) := pm.trans (List.perm_append_singleton _ _)
    have pk : (es1.toList.map kyE).Perm (kyOf v :: es.toList.map kyE) := pc.map kyE
    have hsz : es1.size = es.size + 1 := by rw [← Array.length_toList, pc.length_eq, List.length_cons, Array.length_toList]
    have T1 : Tab P w es1 t1 := ⟨fun e he => (List.mem_cons.mp (pc.mem_iff.mp he)).elim (fun z => z ▸ ⟨kv, rfl⟩) (T.ent e), pk.nodup_iff.mpr (List.nodup_cons.mpr ⟨hnk, T.nod⟩), q1, q2, T.led.imp id fun z => by rw [q3]; exact z⟩
    have m1 : ∀ k, k ∈ es1.toList.map kyE ↔ k ∈ ks ++ [kyOf v] := fun k => by
      rw [pk.mem_iff, List.mem_cons, List.mem_append, List.mem_singleton, hm k]
      exact Or.comm
    refine wpAny_bind (hgw _ ?_)
    split
    · refine wpAny_bind ?_
      rw [hashByValue_scannable 8 kv.scan]
      refine wpAny_pure ?_
      refine setM_tail (ks' := ks ++ [kyOf v]) ?_ ho hex hd (es1 := es1) ?_ m1 (by omega) (by omega) ?_
      · intro b s₁ Q' q; cases b <;> first | exact wpAny_pure q | exact wpAny_rule q
      · refine ⟨T1.ent, T1.nod, ?_, ?_, ?_⟩
        · first | (split <;> first | exact q1 | exact SetTable.fits_plain_off q1) | exact q1
        · first | (split <;> exact T1.ris) | exact T1.ris
        · first | (split <;> exact T1.led) | exact T1.led
      · intro h' sb r; dsimp only; exact wpAny_pure (hQ _ h' sb r)
    · refine wpAny_bind (wpAny_pure ?_)
      simp only [↓reduceIte]
      refine setM_tail (ks' := ks ++ [kyOf v]) ?_ ho hex hd T1 m1 (by omega) (by omega) ?_
      · intro b s₁ Q' q; cases b <;> first | exact wpAny_pure q | exact wpAny_rule q
      · intro h' sb r; dsimp only; exact wpAny_pure (hQ _ h' sb r)
end

/-! ### set(x) of a row of keys -/
section
variable {P : Program} {w : World} {A : Around} {E : Value → Shared → Prop} {s : Shared}
theorem setM_loop {I : Addr} {fp wr : List Addr} {G : Array GenState → Array GenState → Prop} {n : Nat} {Pv : Nat → Value → Prop} {St : Nat → Shared → Prop} {R : Result → Shared → Prop}
    (W : WalksS P w A.in1 I fp wr G n Pv St) (S : Addr) (nS : S ∉ fp) (vs : List Value) (hn : n = vs.length) (hk : ∀ v ∈ vs, Ky v) (hb : vs.length + 1 < scanBound) (hval : ∀ i v, Pv i v → vs[i]? = some v) :
    ∀ (k i : Nat) (s : Shared), n - i = k → i ≤ n → St i s → SetM P w s.heap S ((vs.take i).map kyOf) → (∀ s', Moved (S :: wr) G s s' → SetM P w s'.heap S (vs.map kyOf) → R (.ok (.ret .none)) s') →
      codeAny (model P w) A (.builtin "set.update.loop" ⟨[.ref S, .ref I], []⟩) R s := by
  have nw : S ∉ wr := fun h => nS (W.sub _ h)
  have up : ∀ b ∈ wr, b ∈ S :: wr := fun b hb => List.mem_cons_of_mem _ hb
  intro k
  induction k with
  | zero =>
    intro i s e le st M fin
    obtain rfl : i = n := by omega
    refine codeAny_builtin F.entry_set_update_loop ?_
    rw [Around.under_plainId F.plain_set_update_loop _]
    refine wpAny_bind (m := pyNext (.ref I)) (W.done s _ _ st fun s' hm => ?_)
    rw [List.take_of_length_le (by omega)] at M
    exact wpAny_pure (fin s' (hm.mono up) (M.at fun o e => hm.heap S o nw e))
  | succ k ih =>
    intro i s e le st M fin
    have lt : i < n := by omega
    refine codeAny_builtin F.entry_set_update_loop ?_
    rw [Around.under_plainId F.plain_set_update_loop _]
    refine wpAny_bind (m := pyNext (.ref I)) (W.item i s _ _ lt st fun v s' pv st' hm => ?_)
    have hv := hval i v pv
    have kv : Ky v := hk v (List.mem_of_getElem? hv)
    have M1 : SetM P w s'.heap S ((vs.take i).map kyOf) := M.at fun o e => hm.heap S o nw e
    refine wpAny_bind (m := holding [v] (setAdd S v)) (wpAny_holding ?_)
    unfold setAdd
    refine wpAny_holding (wpAny_bind ((mixKind P w).pyHash (k := kyOf v) (kv.is P w) ?_))
    have room : ((vs.take i).map kyOf).length + 1 < scanBound := by rw [List.length_map, List.length_take]; omega
    refine setM_add (s := { s' with toks := s'.toks + 1 }) kv M1 room fun b h' sb M2 => ?_
    have M3 : SetM P w h' S ((vs.take (i + 1)).map kyOf) := by
      rw [List.take_add_one, hv, List.map_append]
      exact M2
    refine wpAny_pure ⟨plainId_quiet F.plain_set_update_loop _, ih (i + 1) _ (by omega) lt (W.frame _ s' _ _ st' (Nat.le_succ _) fun c hc o e => ?_) M3 fun s2 hm2 M4 => ?_⟩
    · rw [sb.2 c (fun z : c = S => nS (by rw [← z]; exact hc))]; exact e
    · refine fin s2 (Moved.trans W.gtrans ((hm.mono up).then_heap (Nat.le_succ _) fun c o hc e => ?_) hm2) M4
      rw [sb.2 c (fun z : c = S => hc (by rw [z]; exact List.mem_cons_self))]; exact e
abbrev set0O (w : World) : Obj := { cls := .type "set", dict := none, data := .set #[] 0 (.fresh 0 0 (!w.params.followText "set-order")) }

theorem call_setM_tuple {l : Addr} {items : Array Value} {Q : Value → Shared → Prop} (hh : A.handled = none) (hl : s.heap.IsTuple l items) (hk : ∀ v ∈ items.toList, Ky v) (hb : items.size + 1 < scanBound)
    (q : ∀ (h' : Heap) (tk : Nat), SetM P w h' s.heap.objs.size (items.toList.map kyOf) → (∀ b o, s.heap.get? b = some o → h'.get? b = some o) → Q (.ref s.heap.objs.size) { s with heap := h', toks := tk }) :
    wpAny (model P w) A (call (.type "set") [.ref l]) Q E s := by
  obtain ⟨c, tl, hmro⟩ := F.called_set.mro
  have a1 := F.called_set.made
  have a2 := F.called_set.sub
  refine wpAny_call (codeAny_of_tree ?_)
  change wpAny (model P w) _ (callAny (.type "set") _) _ _ s
  refine wpAny_pure ⟨Code.quiet_builtin _ (by decide +kernel), codeAny_builtin F.entry_type_call ?_⟩
  rw [Around.under_plain (weight_type_call_type "set" [.ref l] []) rfl]
  have a3 := F.called_set.notType
  have a4 := F.called_set.canCreate
  have a5 := F.typeCall_set_1 (.ref l)
  repeat (any_goals (first | assumption | wp_step))
  refine codeAny_mono (code_set_led1 (.ref l) (E := E) (Q₁ := fun ob s1 => ob = .ref s.heap.objs.size ∧ s1 = { s with heap := s.heap.push (set0O w) }) ⟨rfl, rfl⟩) fun r s1 hr => ?_
  cases r with
  | error e => exact hr
  | ok fl =>
    cases fl with
    | ret ob =>
      obtain ⟨rfl, rfl⟩ := hr
      have hS : (s.heap.push (set0O w)).get? s.heap.objs.size = some (set0O w) := Heap.get?_push_size _ rfl
      have hT : Shared.TypeIs { s with heap := s.heap.push (set0O w) } (.ref s.heap.objs.size) "set" := ⟨_, hS, rfl⟩
      have b1 := F.called_set.init.lookup
      have b2 := F.called_set.init.bind (.ref s.heap.objs.size)
      repeat (any_goals (first | assumption | wp_step))
      refine codeAny_mono (codeAny_call_builtin (R := wants (fun r s2 => r = .none ∧ ∃ h' tk, s2 = { s with heap := h', toks := tk } ∧ SetM P w h' s.heap.objs.size (items.toList.map kyOf) ∧ ∀ b o, s.heap.get? b = some o → h'.get? b = some o) E)
        F.called_set.init.plain F.entry_set_init (check_set_init_1 hT ?_)) fun r2 s2 hr2 => ?_
      · obtain ⟨ol, hol, hcl, nl, hdl⟩ := hl
        obtain ⟨oc, od, oda, osl⟩ := ol
        simp only at hcl hdl
        subst hcl; subst hdl
        have hol' : (s.heap.push (set0O w)).get? l = some { cls := .type "tuple", dict := od, data := .seq items nl, slots := osl } := Heap.get?_push_of_some _ hol
        have c1 := PySem.F.sub_tuple_set
        have c2 := PySem.F.sub_tuple_frozenset
        have c3 : (Value.type "tuple" == Value.type "dict") = false := by decide
        have hl1 : (s.heap.push (set0O w)).IsTuple l items := ⟨_, hol', rfl, nl, rfl⟩
        unfold Builtin.«set.__init__» noKeywords Builtin.Frozenset.updateFrom
        generalize hPI : pyIter = PI
        wp_walk
        subst hPI
        refine wpAny_pyIter_tuple hl1 (wpAny_bind (wpAny_runValue ?_))
        have lS : l < s.heap.objs.size := Heap.lt_size hol
        have zS : (s.heap.push (set0O w)).objs.size = s.heap.objs.size + 1 := Heap.size_push ..
        have nI : l ≠ (s.heap.push (set0O w)).objs.size := by rw [zS]; exact Nat.ne_of_lt (Nat.lt_succ_of_lt lS)
        have nS : s.heap.objs.size ∉ [(s.heap.push (set0O w)).objs.size, l] := by
          rw [zS]; simp only [List.mem_cons, List.not_mem_nil, or_false, not_or]
          exact ⟨Nat.ne_of_lt (Nat.lt_succ_self _), Nat.ne_of_gt lS⟩
        refine setM_loop ((Walks.tuple (A := A.in1.in1.in1) (by simp [hh]) _ l nI items).toS) s.heap.objs.size nS items.toList (by rw [Array.length_toList]) hk (by rw [Array.length_toList]; exact hb) (fun i v pv => by rw [Array.getElem?_toList]; exact pv)
          (items.size - 0) 0 _ (by omega) (Nat.zero_le _) ⟨⟨_, Heap.get?_push_size _ rfl, rfl, rfl⟩, hl1.push _⟩ (SetM.nil (Heap.get?_push_of_some _ hS)) fun s' hm M => ?_
        obtain ⟨h', g2, d', tk', os'⟩ := s'
        obtain rfl : g2 = s.gens := hm.gens
        obtain rfl : d' = s.drawn := hm.drawn
        obtain rfl : os' = s.os := hm.os
        refine wpAny_pure ?_
        refine wpAny_pure ⟨rfl, h', tk', rfl, M, fun b o e => ?_⟩
        have h0 : b < s.heap.objs.size := Heap.lt_size e
        refine hm.heap b o ?_ (Heap.get?_push_of_some _ (Heap.get?_push_of_some _ e))
        simp only [List.mem_cons, List.not_mem_nil, or_false, not_or]
        exact ⟨Nat.ne_of_lt h0, by rw [zS]; exact Nat.ne_of_lt (Nat.lt_succ_of_lt h0)⟩
      · cases r2 with
        | error e => exact hr2
        | ok fl2 =>
          cases fl2 with
          | ret r =>
            obtain ⟨rfl, h', tk, rfl, M, k⟩ := hr2
            repeat (any_goals (first | assumption | wp_step))
            exact q _ _ M k
          | _ => exact hr2.elim
    | _ => exact hr.elim

theorem call_setM_list {l : Addr} {items : Array Value} {Q : Value → Shared → Prop} (hh : A.handled = none) (hl : s.heap.IsList l items) (hk : ∀ v ∈ items.toList, Ky v) (hb : items.size + 1 < scanBound)
    (q : ∀ (h' : Heap) (tk : Nat), SetM P w h' s.heap.objs.size (items.toList.map kyOf) → (∀ b o, s.heap.get? b = some o → h'.get? b = some o) → Q (.ref s.heap.objs.size) { s with heap := h', toks := tk }) :
    wpAny (model P w) A (call (.type "set") [.ref l]) Q E s := by
  obtain ⟨c, tl, hmro⟩ := F.called_set.mro
  have a1 := F.called_set.made
  have a2 := F.called_set.sub
  refine wpAny_call (codeAny_of_tree ?_)
  change wpAny (model P w) _ (callAny (.type "set") _) _ _ s
  refine wpAny_pure ⟨Code.quiet_builtin _ (by decide +kernel), codeAny_builtin F.entry_type_call ?_⟩
  rw [Around.under_plain (weight_type_call_type "set" [.ref l] []) rfl]
  have a3 := F.called_set.notType
  have a4 := F.called_set.canCreate
  have a5 := F.typeCall_set_1 (.ref l)
  repeat (any_goals (first | assumption | wp_step))
  refine codeAny_mono (code_set_led1 (.ref l) (E := E) (Q₁ := fun ob s1 => ob = .ref s.heap.objs.size ∧ s1 = { s with heap := s.heap.push (set0O w) }) ⟨rfl, rfl⟩) fun r s1 hr => ?_
  cases r with
  | error e => exact hr
  | ok fl =>
    cases fl with
    | ret ob =>
      obtain ⟨rfl, rfl⟩ := hr
      have hS : (s.heap.push (set0O w)).get? s.heap.objs.size = some (set0O w) := Heap.get?_push_size _ rfl
      have hT : Shared.TypeIs { s with heap := s.heap.push (set0O w) } (.ref s.heap.objs.size) "set" := ⟨_, hS, rfl⟩
      have b1 := F.called_set.init.lookup
      have b2 := F.called_set.init.bind (.ref s.heap.objs.size)
      repeat (any_goals (first | assumption | wp_step))
      refine codeAny_mono (codeAny_call_builtin (R := wants (fun r s2 => r = .none ∧ ∃ h' tk, s2 = { s with heap := h', toks := tk } ∧ SetM P w h' s.heap.objs.size (items.toList.map kyOf) ∧ ∀ b o, s.heap.get? b = some o → h'.get? b = some o) E)
        F.called_set.init.plain F.entry_set_init (check_set_init_1 hT ?_)) fun r2 s2 hr2 => ?_
      · obtain ⟨ol, hol, hcl, nl, hdl⟩ := hl
        obtain ⟨oc, od, oda, osl⟩ := ol
        simp only at hcl hdl
        subst hcl; subst hdl
        have hol' : (s.heap.push (set0O w)).get? l = some { cls := .type "list", dict := od, data := .seq items nl, slots := osl } := Heap.get?_push_of_some _ hol
        have c1 := PySem.F.sub_list_set
        have c2 := PySem.F.sub_list_frozenset
        have c3 : (Value.type "list" == Value.type "dict") = false := by decide
        have hl1 : (s.heap.push (set0O w)).IsList l items := ⟨_, hol', rfl, nl, rfl⟩
        unfold Builtin.«set.__init__» noKeywords Builtin.Frozenset.updateFrom
        generalize hPI : pyIter = PI
        wp_walk
        subst hPI
        refine wpAny_pyIter_list hl1 (wpAny_bind (wpAny_runValue ?_))
        have lS : l < s.heap.objs.size := Heap.lt_size hol
        have zS : (s.heap.push (set0O w)).objs.size = s.heap.objs.size + 1 := Heap.size_push ..
        have nI : l ≠ (s.heap.push (set0O w)).objs.size := by rw [zS]; exact Nat.ne_of_lt (Nat.lt_succ_of_lt lS)
        have nS : s.heap.objs.size ∉ [(s.heap.push (set0O w)).objs.size, l] := by
          rw [zS]; simp only [List.mem_cons, List.not_mem_nil, or_false, not_or]
          exact ⟨Nat.ne_of_lt (Nat.lt_succ_self _), Nat.ne_of_gt lS⟩
        refine setM_loop ((Walks.list (A := A.in1.in1.in1) (by simp [hh]) _ l nI items).toS) s.heap.objs.size nS items.toList (by rw [Array.length_toList]) hk (by rw [Array.length_toList]; exact hb) (fun i v pv => by rw [Array.getElem?_toList]; exact pv)
          (items.size - 0) 0 _ (by omega) (Nat.zero_le _) ⟨⟨_, Heap.get?_push_size _ rfl, rfl, rfl⟩, hl1.push _⟩ (SetM.nil (Heap.get?_push_of_some _ hS)) fun s' hm M => ?_
        obtain ⟨h', g2, d', tk', os'⟩ := s'
        obtain rfl : g2 = s.gens := hm.gens
        obtain rfl : d' = s.drawn := hm.drawn
        obtain rfl : os' = s.os := hm.os
        refine wpAny_pure ?_
        refine wpAny_pure ⟨rfl, h', tk', rfl, M, fun b o e => ?_⟩
        have h0 : b < s.heap.objs.size := Heap.lt_size e
        refine hm.heap b o ?_ (Heap.get?_push_of_some _ (Heap.get?_push_of_some _ e))
        simp only [List.mem_cons, List.not_mem_nil, or_false, not_or]
        exact ⟨Nat.ne_of_lt h0, by rw [zS]; exact Nat.ne_of_lt (Nat.lt_succ_of_lt h0)⟩
      · cases r2 with
        | error e => exact hr2
        | ok fl2 =>
          cases fl2 with
          | ret r =>
            obtain ⟨rfl, h', tk, rfl, M, k⟩ := hr2
            repeat (any_goals (first | assumption | wp_step))
            exact q _ _ M k
          | _ => exact hr2.elim
    | _ => exact hr.elim
end
end DL

/-! Data layer, thirteenth part: sorted(set(x)), len(set(x)); sorted rows of texts are one. -/
namespace DL
open PySem L2 PySem.Spec PyProof.Rows

/-! ### sorted rows of texts -/
def LeS (a b : Str) : Prop := a.cps.toList ≤ b.cps.toList
theorem leS_trans {a b c : Str} (h : LeS a b) (h' : LeS b c) : LeS a c := List.le_trans h h'
theorem leS_anti {a b : Str} (h : LeS a b) (h' : LeS b a) : a = b := by
  have e : a.cps.toList = b.cps.toList := List.le_antisymm h h'
  obtain ⟨⟨a⟩⟩ := a
  obtain ⟨⟨b⟩⟩ := b
  simp only at e
  rw [e]
theorem leS_of {a b : Str} (h : (!ltCps b.cps.toList a.cps.toList) = true) : LeS a b := by
  rw [ltCps_eq] at h
  have h2 : ¬ b.cps.toList < a.cps.toList := by simpa using h
  exact h2
theorem pw_of_rising : ∀ (l : List Str) (p : Str), risingS p l = true → (p :: l).Pairwise LeS
  | [], p, _ => List.pairwise_singleton _ _
  | x :: r, p, h => by
    have h' : (!ltCps x.cps.toList p.cps.toList && risingS x r) = true := h
    rw [Bool.and_eq_true] at h'
    have ih := pw_of_rising r x h'.2
    have hx := leS_of h'.1
    refine List.pairwise_cons.mpr ⟨fun y hy => ?_, ih⟩
    rcases List.mem_cons.mp hy with rfl | hy
    · exact hx
    · exact leS_trans hx ((List.pairwise_cons.mp ih).1 y hy)
theorem pw_of_sorted : ∀ (l : List Str), sortedS l = true → l.Pairwise LeS
  | [], _ => List.Pairwise.nil
  | x :: r, h => pw_of_rising r x h
theorem sorted_one {a b : List Str} (ha : sortedS a = true) (hb : sortedS b = true) (p : a.Perm b) : a = b :=
  p.eq_of_pairwise (fun x y _ _ h h' => leS_anti h h') (pw_of_sorted a ha) (pw_of_sorted b hb)
/-- the texts of xs, each once, ascending -/
def IsSd (xs ys : List Str) : Prop := sortedS ys = true ∧ ys.Nodup ∧ ∀ z, z ∈ ys ↔ z ∈ xs
theorem IsSd.one {xs ys zs : List Str} (h : IsSd xs ys) (h' : IsSd xs zs) : ys = zs :=
  sorted_one h.1 h'.1 ((List.perm_ext_iff_of_nodup h.2.1 h'.2.1).mpr fun z => (h.2.2 z).trans (h'.2.2 z).symm)
/-- the numbers of ns, each once, ascending -/
def IsSdI (ns ms : List Int) : Prop := ms.Pairwise (· < ·) ∧ ∀ k, k ∈ ms ↔ k ∈ ns
theorem IsSdI.one {xs ys zs : List Int} (h : IsSdI xs ys) (h' : IsSdI xs zs) : ys = zs :=
  ((List.perm_ext_iff_of_nodup (h.1.imp fun q => Int.ne_of_lt q) (h'.1.imp fun q => Int.ne_of_lt q)).mpr fun z => (h.2 z).trans (h'.2 z).symm).eq_of_pairwise (fun a b _ _ q q' => absurd q' (Int.lt_asymm q)) h.1 h'.1

/-! ### sorted(s), len(s) -/
section
variable {P : Program} {w : World} {A : Around} {E : Value → Shared → Prop} {s : Shared} {a : Addr}
theorem nodup_of_map' {α β : Type} {f : α → β} {l : List α} (h : (l.map f).Nodup) : l.Nodup := List.Pairwise.of_map f (fun _ _ ne e => ne (congrArg f e)) h
theorem sorted_setM {ks : List Key} {Q : Value → Shared → Prop} (R : SetM P w s.heap a ks) (hh : A.handled = none)
    (q : (∃ xs : List Str, ks = xs.map Sum.inr ∧ ∀ s' p (out : Array Value) (c : Nat) (ys : List Str), (∀ b o, s.heap.get? b = some o → s'.heap.get? b = some o) → s'.gens = s.gens → s'.os = s.os → s.heap.objs.size ≤ p →
        s'.heap.get? p = some (seqObj "list" out c) → StrsAre out.toList ys → IsSd xs ys → ys.length ≤ ks.length → Q (.ref p) s') ∨
      ∃ xs : List Int, ks = xs.map Sum.inl ∧ ∀ s' p (out : Array Value) (c : Nat) (ys : List Int), (∀ b o, s.heap.get? b = some o → s'.heap.get? b = some o) → s'.gens = s.gens → s'.os = s.os → s.heap.objs.size ≤ p →
        s'.heap.get? p = some (seqObj "list" out c) → IntsAre out.toList ys → IsSdI xs ys → ys.length ≤ ks.length → Q (.ref p) s') :
    wpAny (model P w) A (call (.builtin "sorted") [.ref a]) Q E s := by
  obtain ⟨o, es, ep, t, ho, hex, hd, T, hm, hn, hb⟩ := R
  refine Calls.call_function_entry kind_sorted plain_sorted entry_sorted (args_sorted1 _) ?_
  unfold Builtin.«sorted»
  refine wpAny_bind (m := checkCount "sorted" 1 1 _) (wpAny_pure ?_)
  refine wpAny_bind (collect_set (A := A.in1) hh ⟨o, ho, hex.1, hd⟩ T.fit (Nat.lt_of_le_of_lt hn hb) T.ris T.led fun s1 vs k1 hz g1 o1 pm => ?_)
  have vl : vs.length ≤ ks.length := by rw [pm.length_eq, List.length_map, Array.length_toList]; exact hn
  have pk : (vs.map kyOf).Perm (es.toList.map kyE) := by
    have z := pm.map kyOf
    rw [List.map_map] at z
    exact z
  have kv : ∀ v ∈ vs, Ky v := fun v hv => by
    obtain ⟨e, he, z⟩ := List.mem_map.mp (pm.mem_iff.mp hv)
    rw [← z]; exact (T.ent e he).1
  have vn : (vs.map kyOf).Nodup := pk.nodup_iff.mpr T.nod
  have vm : ∀ k, k ∈ vs.map kyOf ↔ k ∈ ks := fun k => pk.mem_iff.trans (hm k)
  have vz : vs.length ≤ sizeLine := Nat.le_trans vl (Nat.le_of_lt (Nat.lt_of_lt_of_le hb (by decide)))
  refine wpAny_bind (wpAny_newList ?_ vz)
  have hoL : (s1.heap.push (seqObj "list" vs.toArray 0)).get? s1.heap.objs.size = some (seqObj "list" vs.toArray 0) := Heap.get?_push_size _ rfl
  have old : ∀ (out : Array Value) b u, s.heap.get? b = some u → (sortedHeap (s1.heap.push (seqObj "list" vs.toArray 0)) s1.heap.objs.size vs out).get? b = some u := fun out b u e => by
    have z := k1 b u e
    have lt := Heap.lt_size z
    rw [sortedHeap_old (Nat.ne_of_lt lt) (by rw [size_push']; exact Nat.lt_succ_of_lt lt)]
    exact Heap.get?_push_of_some _ z
  rcases q with ⟨xs, rfl, q⟩ | ⟨xs, rfl, q⟩
  · have all : ∀ v ∈ vs, ∃ x t, v = .str x t := fun v hv => by
      have hk := (vm (kyOf v)).1 (List.mem_map_of_mem hv)
      obtain ⟨x, _, ex⟩ := List.mem_map.mp hk
      cases kv v hv with
      | int i t => cases ex
      | str x t => exact ⟨x, t, rfl⟩
    have hS := strsAre_map vs all
    have ek : (vs.map strOf).map Sum.inr = vs.map kyOf := by
      rw [List.map_map]
      refine List.map_congr_left fun v hv => ?_
      obtain ⟨x, t, rfl⟩ := all v hv
      rfl
    refine wpAny_bind (wpAny_holding (wpAny_call_entry slot_list_sort ⟨_, hoL, rfl⟩ entry_list_sort
      (list_sort_treeKAny strKind_oneLt hoL hS.keysOf (fun v₁ v₂ rest e => keyKind_strs (by rw [← e]; exact hS)) vz fun st' a1 a2 => ⟨_, rfl, ?_⟩) (args_list_sort _)))
    obtain ⟨ys, g1', g2, g3⟩ := sorted_out_str hS a1 a2
    obtain ⟨c, hc⟩ := sortedHeap_at (vs := vs) (out := (arrOf st').map (·.2)) hoL
    have pi := g2.map (Sum.inr : Str → Key)
    rw [ek] at pi
    refine wpAny_pure ⟨_, rfl, q _ s1.heap.objs.size _ c ys (old _) g1 o1 hz hc g1' ⟨g3, nodup_of_map' (pi.nodup_iff.mpr vn), fun z => ?_⟩ (by rw [g2.length_eq, List.length_map]; exact vl)⟩
    have := (pi.mem_iff (a := Sum.inr z)).trans (vm (Sum.inr z))
    simpa using this
  · have all : ∀ v ∈ vs, ∃ x t, v = .int x t := fun v hv => by
      have hk := (vm (kyOf v)).1 (List.mem_map_of_mem hv)
      obtain ⟨x, _, ex⟩ := List.mem_map.mp hk
      cases kv v hv with
      | int i t => exact ⟨i, t, rfl⟩
      | str x t => cases ex
    have hI := ints_of vs all
    have ek : (vs.map Builtin.Re.reRawOf).map Sum.inl = vs.map kyOf := by
      rw [List.map_map]
      refine List.map_congr_left fun v hv => ?_
      obtain ⟨x, t, rfl⟩ := all v hv
      rfl
    refine wpAny_bind (wpAny_holding (wpAny_call_entry slot_list_sort ⟨_, hoL, rfl⟩ entry_list_sort (list_sort_treeAny hoL hI vz fun out ns' a1 a2 a3 => ⟨_, rfl, ?_⟩) (args_list_sort _)))
    obtain ⟨c, hc⟩ := sortedHeap_at (vs := vs) (out := out) hoL
    have pi := a2.map (Sum.inl : Int → Key)
    rw [ek] at pi
    refine wpAny_pure ⟨_, rfl, q _ s1.heap.objs.size _ c ns' (old _) g1 o1 hz hc a1 ⟨lt_of_le_nodup ns' a3 (nodup_of_map' (pi.nodup_iff.mpr vn)), fun z => ?_⟩ (by rw [a2.length_eq, List.length_map]; exact vl)⟩
    have := (pi.mem_iff (a := Sum.inl z)).trans (vm (Sum.inl z))
    simpa using this
end

/-! ### as rules -/
def SetMO (P : Program) (w : World) (a : Addr) (ks : List Key) : HO := .ext fun h => SetM P w h a ks
theorem setMO_new {P : Program} {w : World} {H : Hp} {h : Heap} {a : Addr} {ks : List Key} (R : SetM P w h a ks) : ObjOk P w H h a (SetMO P w a ks) := by
  have ⟨o, _, _, _, ho, _⟩ := R
  exact ⟨R, ⟨o, ho⟩, fun _ _ p k => SetM.at p k⟩
theorem keys_vals : ∀ {ks : List Key} {us : List Value}, Vals (ks.map kV) us → (∀ v ∈ us, Ky v) ∧ us.map kyOf = ks
  | [], _, .nil => ⟨fun _ h => (by cases h), rfl⟩
  | k :: ks, _, .cons r t => by
    obtain ⟨h1, h2⟩ := keys_vals t
    cases k with
    | inl i =>
      obtain ⟨u, rfl⟩ := r
      exact ⟨fun v hv => (List.mem_cons.mp hv).elim (fun e => e ▸ .int i u) (h1 v), by rw [List.map_cons, h2]; rfl⟩
    | inr x =>
      obtain ⟨u, rfl⟩ := r
      exact ⟨fun v hv => (List.mem_cons.mp hv).elim (fun e => e ▸ .str x u) (h1 v), by rw [List.map_cons, h2]; rfl⟩
section
variable {X : Cx} {k : Nat}
theorem setMO_get {pins : List (Addr × Obj)} {σ : L2.St} {H : Hp} {s : Shared} {a : Addr} {ks : List Key} (I : Inv X pins σ H s) (ha : H a = some (SetMO X.prog X.w a ks)) : SetM X.prog X.w s.heap a ks := (I.hok a _ ha).1
/-- set(x) -/
def rSetM (K : PySem.W.Frag) (P : Program) (w : World) : List V → Hp → VK → Prop := fun xs H Q => ∃ (l : Addr) (ks : List Key), xs = [.ref l] ∧ (SqL K H l (ks.map kV) ∨ SqT K H l (ks.map kV)) ∧ ks.length + 1 < scanBound ∧
  ∀ p, H p = none → Q (.ref p) (upd H p (SetMO P w p ks))
theorem cr_setM (hc : X.calm = true) : CallR X (.type "set") (rSetM X.K X.prog X.w) := by
  intro pins s σ H xs us Q I r h
  obtain ⟨l, ks, rfl, hq, hb, q⟩ := h
  obtain ⟨u, rfl, rx⟩ := vals1 r
  obtain rfl : u = Value.ref l := rx
  have fin : ∀ (its : List Value), its.map kyOf = ks → ∀ (h' : Heap) (tk : Nat), SetM X.prog X.w h' s.heap.objs.size (its.toArray.toList.map kyOf) → (∀ b o, s.heap.get? b = some o → h'.get? b = some o) → EP X pins σ Q (.ref s.heap.objs.size) { s with heap := h', toks := tk } := fun its e h' tk M kp => by
    rw [List.toList_toArray, e] at M
    exact ⟨.ref _, upd H s.heap.objs.size (SetMO X.prog X.w s.heap.objs.size ks), I.laid (t' := tk) kp (Nat.le_refl _) (setMO_new M), rfl, q _ (I.hok.fresh (Nat.le_refl _))⟩
  rcases hq with hq | hq
  · obtain ⟨its, rv, pl, hz⟩ := I.list hq
    obtain ⟨k1, k2⟩ := keys_vals rv
    exact call_setM_list (I.ok.hd hc) pl.isList (by simpa using k1) (by rw [List.size_toArray, ← rv.length, List.length_map]; exact hb) (fin its k2)
  · obtain ⟨its, rv, pl, hz⟩ := I.tuple hq
    obtain ⟨k1, k2⟩ := keys_vals rv
    exact call_setM_tuple (I.ok.hd hc) pl (by simpa using k1) (by rw [List.size_toArray, ← rv.length, List.length_map]; exact hb) (fin its k2)
/-- sorted(s) -/
def rSortedM (P : Program) (w : World) : List V → Hp → VK → Prop := fun vs H Q => ∃ (a : Addr) (ks : List Key), vs = [V.ref a] ∧ H a = some (SetMO P w a ks) ∧
  ((∃ xs : List Str, ks = xs.map Sum.inr ∧ ∀ ys p, IsSd xs ys → H p = none → Q (.ref p) (upd H p (.lst (ys.map V.str)))) ∨
    ∃ xs : List Int, ks = xs.map Sum.inl ∧ ∀ ys p, IsSdI xs ys → H p = none → Q (.ref p) (upd H p (.lst (ys.map V.int))))
theorem cr_sortedM (hc : X.calm = true) : CallR X (.builtin "sorted") (rSortedM X.prog X.w) := by
  intro pins s σ H vs us Q I r h
  obtain ⟨a, ks, rfl, ha, q⟩ := h
  have R := setMO_get I ha
  have hb : ks.length ≤ sizeLine := by
    obtain ⟨_, _, _, _, _, _, _, _, _, _, hb⟩ := R
    exact Nat.le_trans (Nat.le_of_lt hb) (by decide)
  rw [Vals.ref1 r]
  have fin : ∀ (s' : Shared) (p : Addr) (out : Array Value) (c : Nat) (vs : List V), (∀ b o, s.heap.get? b = some o → s'.heap.get? b = some o) → s'.gens = s.gens → s'.os = s.os → s.heap.objs.size ≤ p →
      s'.heap.get? p = some (seqObj "list" out c) → Vals vs out.toList → vs.length ≤ sizeLine → (H p = none → Q (.ref p) (upd H p (.lst vs))) → EP X pins σ Q (.ref p) s' := fun s' p out c vs kp g o hp hg rv hl q => by
    have hn : H p = none := I.hok.fresh hp
    have J : Inv X pins σ (upd H p (.lst vs)) { s with heap := s'.heap, gens := s'.gens, drawn := s'.drawn, toks := s'.toks } :=
      I.call (ch := []) (Un.laid kp hp hn) (I.hok.laid kp hp ⟨hl, out.toList, c, rv, hg⟩) (by rw [g]; exact I.bare) (fun _ z => nomatch z)
    obtain ⟨h', g', d', t', o'⟩ := s'
    obtain rfl : o' = s.os := o
    exact ⟨.ref p, _, J, rfl, q hn⟩
  refine sorted_setM R (I.ok.hd hc) ?_
  rcases q with ⟨xs, rfl, q⟩ | ⟨xs, rfl, q⟩
  · refine .inl ⟨xs, rfl, fun s' p out c ys kp g o hp hg hi hs hl => fin s' p out c _ kp g o hp hg (vals_of_strs hi) ?_ (q ys p hs)⟩
    rw [List.length_map]; omega
  · refine .inr ⟨xs, rfl, fun s' p out c ys kp g o hp hg hi hs hl => fin s' p out c _ kp g o hp hg (vals_of_ints hi) ?_ (q ys p hs)⟩
    rw [List.length_map]; omega
/-- how many unlike ones there are -/
def Many (ks : List Key) (n : Nat) : Prop := ∃ l : List Key, l.Nodup ∧ (∀ k, k ∈ l ↔ k ∈ ks) ∧ l.length = n
theorem Many.one {ks : List Key} {n m : Nat} (h : Many ks n) (h' : Many ks m) : n = m := by
  obtain ⟨l, d, e, rfl⟩ := h
  obtain ⟨l', d', e', rfl⟩ := h'
  exact ((List.perm_ext_iff_of_nodup d d').mpr fun z => (e z).trans (e' z).symm).length_eq
def rLenM (P : Program) (w : World) : List V → Hp → VK → Prop := fun vs H Q => ∃ (a : Addr) (ks : List Key), vs = [V.ref a] ∧ H a = some (SetMO P w a ks) ∧ ∀ n : Nat, Many ks n → Q (.int n) H
theorem cr_lenM : CallR X (.builtin "len") (rLenM X.prog X.w) := by
  intro pins s σ H vs us Q I r h
  obtain ⟨a, ks, rfl, ha, q⟩ := h
  obtain ⟨o, es, ep, t, ho, hex, hd, T, hm, hn, hb⟩ := setMO_get I ha
  rw [Vals.ref1 r]
  have hz : es.size < scanBound := Nat.lt_of_le_of_lt hn hb
  refine call_len_set ho hex hd T.fit (by unfold scanBound at hz; omega) ⟨.int es.size, H, I.tok _, ⟨_, rfl⟩, q _ ⟨es.toList.map kyE, T.nod, hm, by rw [List.length_map, Array.length_toList]⟩⟩

/-! ### over data -/
def srtSet (x : D) (S : Sto) (Q : D → Sto → Prop) : Prop := ∃ ds, sqOf S x = some ds ∧ ds.length + 1 < scanBound ∧
  ((∃ xs : List Str, ds = xs.map D.str ∧ ∀ ys, IsSd xs ys → Q (.fl (ys.map D.str)) S) ∨ ∃ ns : List Int, ds = ns.map D.int ∧ ∀ ms, IsSdI ns ms → Q (.fl (ms.map D.int)) S)
def dSortSet (te : TDE) : TDE := fun δ S Q => te δ S fun x S1 => srtSet x S1 Q
def lenSet (x : D) (S : Sto) (Q : D → Sto → Prop) : Prop := ∃ ds, sqOf S x = some ds ∧ ds.length + 1 < scanBound ∧ ∃ ks : List Key, ds = (ks.map kV).map D.at ∧ ∀ n : Nat, Many ks n → Q (.int n) S
def dLenSet (te : TDE) : TDE := fun δ S Q => te δ S fun x S1 => lenSet x S1 Q
theorem de_sortSet {e : Expr} {te : TDE} {p p2 pos pos2 : Pos} (hc : X.calm = true) (hg : Gl X "sorted") (hm : X.mg "sorted" = none) (hg2 : Gl X "set") (hm2 : X.mg "set" = none) (he : PE X e (lE X.K te))
    (hs2 : starEach [e] X.env = (false, eval e X.env) :: starEach [] X.env := by rfl) (hp2 : (backTo pos2 (starEach [] X.env)).any (·.1) = false := by rfl)
    (hs : starEach [.Call (.Name "set" p2) [e] [] pos2] X.env = (false, eval (.Call (.Name "set" p2) [e] [] pos2) X.env) :: starEach [] X.env := by rfl) (hpl : (backTo pos (starEach [] X.env)).any (·.1) = false := by rfl) :
    PE X (.Call (.Name "sorted" p) [.Call (.Name "set" p2) [e] [] pos2] [] pos) (lE X.K (dSortSet te)) :=
  PE.wk (pe_callB (cr_sortedM hc) hg hm (by decide +kernel) (pa_cons (pe_callTy (cr_setM hc) hg2 hm2 (by decide +kernel) (pa_cons he pa_nil hs2) (by decide) (by decide) hs2 hp2) pa_nil hs) (by decide) (by decide) hs hpl) fun σ H Q ⟨N, δ, S, Q', re, rs, q, kk⟩ => by
    refine ⟨N, δ, S, _, re, rs, q, fun x S1 v H1 b1 rx q1 => ?_⟩
    obtain ⟨ds, hx, hb, q1⟩ := q1
    obtain ⟨a, ws, rfl, sq, rw'⟩ := sq_sq b1.rs rx hx
    rcases q1 with ⟨xs, rfl, q1⟩ | ⟨xs, rfl, q1⟩
    · have e : ws = xs.map V.str := RDs.atoms (us := xs.map V.str) (by rw [List.map_map]; exact rw')
      subst e
      refine ⟨a, xs.map Sum.inr, rfl, by rw [List.map_map]; exact sq, by simpa using hb, fun p np => ?_⟩
      refine ⟨p, _, rfl, upd_same, .inl ⟨xs, rfl, fun ys p' hs np' => ?_⟩⟩
      obtain ⟨rs1, f1, le1⟩ := b1.rs.laid (o := SetMO X.prog X.w p (xs.map Sum.inr)) np
      have b2 : Bh ⟨X.K, N⟩ H S (upd H1 p (SetMO X.prog X.w p (xs.map Sum.inr))) S1 := b1.trans ⟨f1, rs1⟩
      obtain ⟨b3, r3⟩ := new_fl rs1 np' (rds_strs ys)
      exact kk _ S1 _ _ (b2.trans b3) r3 (q1 ys hs)
    · have e : ws = xs.map V.int := RDs.atoms (us := xs.map V.int) (by rw [List.map_map]; exact rw')
      subst e
      refine ⟨a, xs.map Sum.inl, rfl, by rw [List.map_map]; exact sq, by simpa using hb, fun p np => ?_⟩
      refine ⟨p, _, rfl, upd_same, .inr ⟨xs, rfl, fun ys p' hs np' => ?_⟩⟩
      obtain ⟨rs1, f1, le1⟩ := b1.rs.laid (o := SetMO X.prog X.w p (xs.map Sum.inl)) np
      have b2 : Bh ⟨X.K, N⟩ H S (upd H1 p (SetMO X.prog X.w p (xs.map Sum.inl))) S1 := b1.trans ⟨f1, rs1⟩
      obtain ⟨b3, r3⟩ := new_fl rs1 np' (rds_ints ys)
      exact kk _ S1 _ _ (b2.trans b3) r3 (q1 ys hs)
theorem de_lenSet {e : Expr} {te : TDE} {p p2 pos pos2 : Pos} (hc : X.calm = true) (hg : Gl X "len") (hm : X.mg "len" = none) (hg2 : Gl X "set") (hm2 : X.mg "set" = none) (he : PE X e (lE X.K te))
    (hs2 : starEach [e] X.env = (false, eval e X.env) :: starEach [] X.env := by rfl) (hp2 : (backTo pos2 (starEach [] X.env)).any (·.1) = false := by rfl)
    (hs : starEach [.Call (.Name "set" p2) [e] [] pos2] X.env = (false, eval (.Call (.Name "set" p2) [e] [] pos2) X.env) :: starEach [] X.env := by rfl) (hpl : (backTo pos (starEach [] X.env)).any (·.1) = false := by rfl) :
    PE X (.Call (.Name "len" p) [.Call (.Name "set" p2) [e] [] pos2] [] pos) (lE X.K (dLenSet te)) :=
  PE.wk (pe_callB cr_lenM hg hm (by decide +kernel) (pa_cons (pe_callTy (cr_setM hc) hg2 hm2 (by decide +kernel) (pa_cons he pa_nil hs2) (by decide) (by decide) hs2 hp2) pa_nil hs) (by decide) (by decide) hs hpl) fun σ H Q ⟨N, δ, S, Q', re, rs, q, kk⟩ => by
    refine ⟨N, δ, S, _, re, rs, q, fun x S1 v H1 b1 rx q1 => ?_⟩
    obtain ⟨ds, hx, hb, ks, rfl, q1⟩ := q1
    obtain ⟨a, ws, rfl, sq, rw'⟩ := sq_sq b1.rs rx hx
    have e : ws = ks.map kV := RDs.atoms rw'
    subst e
    refine ⟨a, ks, rfl, sq, by simpa using hb, fun p np => ?_⟩
    refine ⟨p, ks, rfl, upd_same, fun n hn => ?_⟩
    obtain ⟨rs1, f1, le1⟩ := b1.rs.laid (o := SetMO X.prog X.w p ks) np
    exact kk _ S1 _ _ (b1.trans ⟨f1, rs1⟩) (.of _) (q1 n hn)
end
end DL

/-! Data layer, fourteenth part: zip of any two, texts that are walked. -/
namespace DL
open PySem L2 PyProof.Rows
section
variable {X : Cx} {pins : List (Addr × Obj)} {σ : L2.St} {H : Hp} {s : Shared} {xs : List V}
theorem Sd.begins (I : Inv X pins σ H s) {u : Value} : ∀ (d : Sd), d.Has X.K H xs → RelV d.v u → ∃ (o : Obj) (St : Heap → Prop), Begins u o St ∧ St s.heap ∧ (∀ h it, h.get? it = some o → d.At h it 0) ∧ d.Old s.heap.objs.size
  | .li a, has, r => by
    obtain rfl : u = Value.ref a := r
    obtain ⟨its, rv, p, _⟩ := I.list has
    exact ⟨_, _, begins_list a its.toArray, p.isList, fun h it e => ⟨_, e, rfl, rfl⟩, p.lt⟩
  | .tu a, has, r => by
    obtain rfl : u = Value.ref a := r
    obtain ⟨its, rv, p, _⟩ := I.tuple has
    have q : s.heap.IsTuple a its.toArray := p
    exact ⟨_, _, begins_tuple a its.toArray, q, fun h it e => ⟨_, e, rfl, rfl⟩, by obtain ⟨o, ho, _⟩ := q; exact Heap.lt_size ho⟩
  | .st x, has, r => by
    obtain ⟨t, rfl⟩ := (show ∃ t, u = Value.str x t from r)
    exact ⟨_, _, begins_text x t, trivial, fun h it e => ⟨t, _, e, rfl, rfl⟩, trivial⟩
end
def iZipM (K : PySem.W.Frag) (ta : TA) : TI := fun σ H R => ta σ H fun vs H1 => ∃ (d1 d2 : Sd) (xs ys : List V), vs = [d1.v, d2.v] ∧ d1.Has K H1 xs ∧ d2.Has K H1 ys ∧ R (Izm K d1 d2) H1
section
variable {X : Cx} {k : Nat}
theorem pi_zipM {e e2 : Expr} {ta : TA} {p pos tpos : Pos} {elts : List Expr} {kk : Nat} (hg : Gl X "zip") (hm : X.mg "zip" = none) (ha : PA X [e, e2] ta)
    (hs : starEach [e, e2] X.env = (false, eval e X.env) :: starEach [e2] X.env := by rfl) (hpl : (backTo pos (starEach [e2] X.env)).any (·.1) = false := by rfl) :
    PI X (.Tuple elts kk tpos) (.Call (.Name "zip" p) [e, e2] [] pos) (iZipM X.K ta) := by
  refine ⟨fun pins s σ H R I h => Call_ (ld_blt I hg hm boot_zip (callWith_type1 (thn (ha.run pos pins s σ H _ I h) fun us s1 ⟨vs, H1, I1, r1, q1⟩ => ?_) hs hpl))⟩
  obtain ⟨d1, d2, xs, ys, rfl, h1, h2, q⟩ := q1
  obtain ⟨u1, us', rfl, t1, rr⟩ : ∃ u us', us = u :: us' ∧ RelV d1.v u ∧ Vals [d2.v] us' := by
    cases r1 with
    | cons r rr => exact ⟨_, _, rfl, r, rr⟩
  obtain ⟨u2, rfl, r2⟩ := vals1 rr
  obtain ⟨o1, S1, B1, b1, a1, l1⟩ := Sd.begins I1 d1 h1 t1
  obtain ⟨o2, S2, B2, b2, a2, l2⟩ := Sd.begins I1 d2 h2 r2
  generalize hn : s1.heap.objs.size = n at l1 l2
  have new : ∀ c : Nat, c ∈ [n + 4, n + 2, n + 3, n, n + 1] → FpOk X pins H1 c := fun c hc => by
    have le : s1.heap.objs.size ≤ c := by
      rw [hn]
      simp only [List.mem_cons, List.not_mem_nil, or_false] at hc
      omega
    exact I1.fpOk le (I1.hok.fresh le)
  refine zip_begins2 B1 B2 b1 b2 fun h' hz hTI hTO g1 g2 hsz hk => wpAny_pyIter_zip hz ?_
  rw [hn] at hz hTI hTO g1 g2 ⊢
  exact ⟨n + 4, [n + 4, n + 2, n + 3, n, n + 1], _, _, H1, rfl, I1.kept (t' := s1.toks) hk, turn_zipM n l1 l2, ⟨hz, hTI, ⟨_, _, hTO⟩, a1 _ _ g1, a2 _ _ g2⟩, new, q⟩

/-! ### over data -/
def signs (x : Str) : List D := x.cps.toList.map fun c => .str ⟨#[c]⟩
def sdOf (S : Sto) (d : D) : Option (List D) := match d with
  | .at (.str x) => some (signs x)
  | d => sqOf S d
def zipMI (x y : D) : ItD := fun i S => (sdOf S x).bind fun p => (sdOf S y).bind fun q => if i ≤ p.length ∧ i ≤ q.length then some (p[i]?.bind fun d => q[i]?.map fun e => .tup [d, e]) else none
theorem rds_signs {K : Kx} {H : Hp} {S : Sto} (x : Str) : RDs K H S (signsV x) (signs x) := by
  have := RDs.of_atoms (K := K) (H := H) (S := S) (signsV x)
  unfold signsV at this ⊢
  rw [List.map_map] at this
  exact this
theorem tupLe_refl {K : Kx} {H : Hp} {S : Sto} : TupLe K H S K H S := ⟨fun _ _ h => h, fun _ _ h => h, fun _ _ h => h⟩
theorem sd_rel {K : Kx} {H0 : Hp} {S0 : Sto} {v : V} {x : D} {ds : List D} (rs : RS K H0 S0) (r : RD K H0 S0 v x) (h : sdOf S0 x = some ds) : ∃ d : Sd, v = d.v ∧
    ∀ (M : Addr → Prop) (H : Hp) (S : Sto), Bh ⟨K.k, M⟩ H0 S0 H S → TupLe K H0 S0 ⟨K.k, M⟩ H S → ∀ es, sdOf S x = some es → ∃ us, d.Has K.k H us ∧ RDs ⟨K.k, M⟩ H S us es := by
  have lists : ∀ ds, lsOf S0 x = some ds → (∀ S, sdOf S x = lsOf S x) → ∃ d : Sd, v = d.v ∧
    ∀ (M : Addr → Prop) (H : Hp) (S : Sto), Bh ⟨K.k, M⟩ H0 S0 H S → TupLe K H0 S0 ⟨K.k, M⟩ H S → ∀ es, sdOf S x = some es → ∃ us, d.Has K.k H us ∧ RDs ⟨K.k, M⟩ H S us es := fun ds hl e => by
    obtain ⟨a, vs, rfl, _, w⟩ := rel_ls rs r hl
    refine ⟨.li a, rfl, fun M H S b le es he => ?_⟩
    rw [e S] at he
    exact ls_at b le w he
  cases x with
  | tup xs =>
    obtain ⟨a, vs, rfl, t, rv⟩ := r.tup_
    refine ⟨.tu a, rfl, fun M H S b le es he => ?_⟩
    cases he
    exact ⟨vs, .of (le.t _ _ t), rv.le le⟩
  | wt xs =>
    obtain ⟨a, vs, rfl, t, rv⟩ := r.wt_
    refine ⟨.tu a, rfl, fun M H S b le es he => ?_⟩
    cases he
    exact ⟨vs, .inr t, rv.le le⟩
  | fl xs => exact lists _ h fun S => rfl
  | «at» u =>
    have e := r.at_
    subst e
    cases v with
    | str y =>
      refine ⟨.st y, rfl, fun M H S b le es he => ?_⟩
      cases he
      exact ⟨signsV y, rfl, rds_signs y⟩
    | ref a => exact lists _ h fun S => rfl
    | _ => exact nomatch h
def iZipMD (t : TDA) : TDI := fun δ S R => t δ S fun xs S1 => ∃ x y ds es, xs = [x, y] ∧ sdOf S1 x = some ds ∧ sdOf S1 y = some es ∧ R (zipMI x y) S1
theorem di_zipM {e e2 : Expr} {ta : TDA} {p pos tpos : Pos} {elts : List Expr} {kk : Nat} (hg : Gl X "zip") (hm : X.mg "zip" = none) (ha : PA X [e, e2] (lA X.K ta))
    (hs : starEach [e, e2] X.env = (false, eval e X.env) :: starEach [e2] X.env := by rfl) (hpl : (backTo pos (starEach [e2] X.env)).any (·.1) = false := by rfl) :
    PI X (.Tuple elts kk tpos) (.Call (.Name "zip" p) [e, e2] [] pos) (lI X.K (iZipMD ta)) :=
  PI.wk (pi_zipM hg hm ha hs hpl) fun σ H R ⟨N, δ, S, R', re, rs, q, kk⟩ => by
    refine ⟨N, δ, S, _, re, rs, q, fun xs S1 vs H1 b1 rv q1 => ?_⟩
    obtain ⟨x, y, ds, es, rfl, h1, h2, q1⟩ := q1
    obtain ⟨v, w, rfl, rx, ry⟩ := rv.two'
    obtain ⟨d1, rfl, w1⟩ := sd_rel b1.rs rx h1
    obtain ⟨d2, rfl, w2⟩ := sd_rel b1.rs ry h2
    obtain ⟨us, c1, _⟩ := w1 _ _ _ (.refl b1.rs) tupLe_refl _ h1
    obtain ⟨ws, c2, _⟩ := w2 _ _ _ (.refl b1.rs) tupLe_refl _ h2
    refine ⟨d1, d2, us, ws, rfl, c1, c2, kk _ S1 _ H1 b1 ?_ q1⟩
    intro M i H' S' bb le
    unfold zipMI
    refine ⟨fun ez => ?_, fun d ez => ?_⟩
    · obtain ⟨p', g1, ez⟩ := Option.bind_eq_some_iff.mp ez
      obtain ⟨q', g2, ez⟩ := Option.bind_eq_some_iff.mp ez
      obtain ⟨u1, s1, r1⟩ := w1 _ _ _ bb le _ g1
      obtain ⟨u2, s2, r2⟩ := w2 _ _ _ bb le _ g2
      split at ez
      · rename_i hi
        have l1 := r1.length
        have l2 := r2.length
        have := zip_end r1 r2 (Option.some.inj ez)
        exact ⟨u1, u2, s1, s2, by omega, by omega, by omega⟩
      · cases ez
    · obtain ⟨p', g1, ez⟩ := Option.bind_eq_some_iff.mp ez
      obtain ⟨q', g2, ez⟩ := Option.bind_eq_some_iff.mp ez
      obtain ⟨u1, s1, r1⟩ := w1 _ _ _ bb le _ g1
      obtain ⟨u2, s2, r2⟩ := w2 _ _ _ bb le _ g2
      split at ez
      · obtain ⟨y1, y2, z1, z2, k1, k2, rfl, k3, k4⟩ := zip_step r1 r2 (Option.some.inj ez)
        refine ⟨⟨u1, u2, y1, y2, s1, s2, k1, k2⟩, fun z H2 yl => ?_⟩
        obtain ⟨T, c1, c2, rfl, hT, rfl, hz1, hz2⟩ := yl
        have e1 := hz1 u1 s1
        rw [k1] at e1
        cases e1
        have e2 := hz2 u2 s2
        rw [k2] at e2
        cases e2
        obtain ⟨b2, r2⟩ := new_tup bb.rs hT (.cons k3 (.cons k4 .nil))
        exact ⟨b2, r2⟩
      · cases ez
/-- a text that is walked -/
def strI (x : Str) : ItD := fun i _ => some (signs x)[i]?
def iStrD (te : TDE) : TDI := fun δ S R => te δ S fun v S1 => ∃ x, v = .str x ∧ R (strI x) S1
theorem di_str {tg e : Expr} {te : TDE} (he : PE X e (lE X.K te)) : PI X tg e (lI X.K (iStrD te)) :=
  PI.wk (pi_str he) fun σ H R ⟨N, δ, S, R', re, rs, q, kk⟩ => by
    refine ⟨N, δ, S, _, re, rs, q, fun x S1 v H1 b1 rx q1 => ?_⟩
    obtain ⟨y, rfl, q1⟩ := q1
    refine ⟨y, rx.at_, kk _ S1 _ H1 b1 ?_ q1⟩
    intro M i H' S' bb le
    unfold strI signs
    rw [List.getElem?_map, Array.getElem?_toList]
    refine ⟨fun ez => ?_, fun d ez => ?_⟩
    · have := Option.map_eq_none_iff.mp (Option.some.inj ez)
      exact Array.getElem?_eq_none_iff.mp this
    · obtain ⟨c, hc, rfl⟩ := Option.map_eq_some_iff.mp (Option.some.inj ez)
      refine ⟨(Array.getElem?_eq_some_iff.mp hc).1, fun z H2 yl => ?_⟩
      obtain ⟨rfl, c', hc', rfl⟩ := yl
      rw [hc] at hc'
      cases hc'
      exact ⟨.refl bb.rs, .of _⟩
end
end DL

/-! Data layer, fifteenth part: dicts by comprehension, written dicts, extend by a tuple. -/
namespace DL
open PySem L2 PyProof.Rows
section
variable {X : Cx} {k : Nat}

/-! ### {k: v for ..} -/
def dDc (wi : TDI) (g : TDG) (tt : TDT) (tk tv : TDE) (vs : List Nat) : TDE := fun δ S Q => wi δ S fun J S1 => ∀ A, S1 A = none → ∃ (W : Nat → Sto → Prop) (n : Nat), W 0 (up S1 A (.dk [])) ∧ ∀ i S2, W i S2 → ∃ r, J i S2 = some r ∧
  (r = none → Q (.ref A) S2) ∧
  ∀ x, r = some x → i < n ∧ g x (wipeD δ vs) S2 fun δ2 S3 => tt δ2 S3 fun b S4 =>
    if b = true then tk δ2 S4 fun y S5 => tv δ2 S5 fun z S6 => ∃ kvs κ, keyD y = some κ ∧ S6 A = some (.dk kvs) ∧ kvs.length < sizeLine ∧ W (i + 1) (up S6 A (.dk (putD kvs κ z))) else W (i + 1) S4
theorem lift_dc {K : PySem.W.Frag} {wi : TDI} {gv : TG} {g : TDG} {tt : TDT} {tk tv : TDE} (own : List (Str × Nat)) (hgd : ∀ N, TgC ⟨K, N⟩ (own.map (·.2)) gv g) {σ : L2.St} {H : Hp} {Q : VK} (h : lE K (dDc wi g tt tk tv (own.map (·.2))) σ H Q) :
    tDc (lI K wi) gv (lT K tt) (lE K tk) (lE K tv) (own.map (·.2)) σ H Q := by
  obtain ⟨N, δ, S, Q', re, rs, q, kk⟩ := h
  refine ⟨N, δ, S, _, re, rs, q, fun J S1 Jv H1 b1 rel q1 A hA => ?_⟩
  obtain ⟨W, n, w0, turn⟩ := q1 A (b1.rs.free hA)
  have re1 := re.le (rs.le b1.fr)
  obtain ⟨a0, f0⟩ := b1.rs.new (o := .dK []) (m := .dk []) hA fun c => ⟨[], upd_same, rfl, .nil⟩
  refine ⟨fun i m H2 => ∃ S2, m = n - i ∧ W i S2 ∧ Bh ⟨K, N⟩ H1 S1 H2 S2, ⟨n, _, rfl, w0, f0, a0⟩, ?_⟩
  rintro i m H2 ⟨S2, rfl, w2, b2⟩
  have l2 := b1.rs.le b2.fr
  have re2 := re1.le l2
  obtain ⟨r, hr, hn, hgo⟩ := turn i S2 w2
  obtain ⟨r1, r2⟩ := rel N i H2 S2 b2 l2
  cases r with
  | none => exact .inl ⟨r1 hr, kk _ S2 _ H2 (b1.trans b2) (.of _) (hn rfl)⟩
  | some x =>
    obtain ⟨hlt, hgx⟩ := hgo x rfl
    obtain ⟨go, yl⟩ := r2 x hr
    refine .inr ⟨go, fun H' => ∃ S', W (i + 1) S' ∧ Bh ⟨K, N⟩ H1 S1 H' S', fun H' ⟨S', h1, h2⟩ => ⟨n - (i + 1), by omega, S', rfl, h1, h2⟩, fun v H3 y => ?_⟩
    obtain ⟨b3, rv⟩ := yl v H3 y
    refine hgd N v x (wipe σ (own.map (·.2))) (wipeD δ (own.map (·.2))) H3 S2 _ _ rv (re_wipe (re2.le (b2.rs.le b3.fr)) _) b3.rs hgx fun σ4 H4 δ4 S4 e4 b4 re4 q4 => ?_
    refine ⟨e4.trans (wipe_wipe _ _), N, δ4, S4, _, re4, b4.rs, q4, fun c S5 H5 b5 q5 => ?_⟩
    have b25 := (b3.trans b4).trans b5
    cases c with
    | false =>
      rw [if_neg Bool.false_ne_true] at q5
      exact iteF ⟨S5, q5, b2.trans b25⟩
    | true =>
      rw [if_pos rfl] at q5
      have re5 := re4.le (b4.rs.le b5.fr)
      refine iteT ⟨N, δ4, S5, _, re5, b5.rs, q5, fun y S6 u H6 b6 r6 q6 => ?_⟩
      refine ⟨N, δ4, S6, _, re5.le (b5.rs.le b6.fr), b6.rs, q6, fun z S7 t H7 b7 r7 q7 => ?_⟩
      obtain ⟨kvs, κ, hk, e7, hl, w7⟩ := q7
      have ey := keyD_eq hk
      subst ey
      obtain ⟨ks, h1, h2, h3⟩ := b7.rs.ob A _ e7
      have hll : ks.length = kvs.length := by simpa using congrArg List.length h2
      obtain ⟨p1, p2⟩ := rel_put h2 h3 κ r7
      obtain ⟨c1, c2⟩ := b7.rs.write (o := .dK (putK ks κ t)) (m' := .dk (putD kvs κ z)) e7 fun le => ⟨_, upd_same, p1, p2.le le⟩
      exact ⟨ks, κ, r6.at_, h1, by omega, _, w7, (b2.trans ((b25.trans b6).trans b7)).trans ⟨c2, c1⟩⟩
variable {kx vx tg iter : Expr} {ifs : List Expr} {scope : Scope} {pos : Pos} {wi : TDI} {gv : TG} {g : TDG} {tt : TDT} {tk tv : TDE}
theorem de_dc (own : List (Str × Nat)) (hc : X.calm = true) (hN : X.N.Nodup) (hi : PI X tg iter (lI X.K wi)) (ok : BlkOk X.N X.env.scope scope own)
    (hg : ∀ (s : Shared) (H : Hp) (C : Addr) (cl : List (Str × Addr)) (fp : List Addr), PG (X.blk s H scope (compEnvC scope cl C X.env) fp) tg gv) (hgd : ∀ N, TgC ⟨X.K, N⟩ (own.map (·.2)) gv g) (ht : ∀ (s : Shared) (H : Hp) (C : Addr) (cl : List (Str × Addr)) (fp : List Addr), PTs (X.blk s H scope (compEnvC scope cl C X.env) fp) ifs (lT X.K tt))
    (hk : ∀ (s : Shared) (H : Hp) (C : Addr) (cl : List (Str × Addr)) (fp : List Addr), PE (X.blk s H scope (compEnvC scope cl C X.env) fp) kx (lE X.K tk)) (he : ∀ (s : Shared) (H : Hp) (C : Addr) (cl : List (Str × Addr)) (fp : List Addr), PE (X.blk s H scope (compEnvC scope cl C X.env) fp) vx (lE X.K tv))
    (hs : ∀ x, foldedSetIterable iter X.env x = pure x := by intro _; rfl) : PE X (.DictComp kx vx [⟨tg, iter, ifs, 0⟩] scope pos) (lE X.K (dDc wi g tt tk tv (own.map (·.2)))) :=
  PE.wk (pe_dc hc hN hi ok hg ht hk he hs) fun σ H Q h => lift_dc own hgd h
theorem ps_setDc {i : Nat} {y : Str} {py spos : Pos} {own : List (Str × Nat)} {wv : TI} {ttv : TT} {tkv tvv : TE} (hc : X.calm = true) (hN : X.N.Nodup) (hy : X.N[i]? = some y) (hyl : X.env.scope.names.lookup y = some .local)
    (hsw : swapsWith (.DictComp kx vx [⟨tg, iter, ifs, 0⟩] scope pos) (some (.Name y py)) spos.line X.env = pure true) (hi : PI X tg iter wv) (ok : BlkOk X.N X.env.scope scope own)
    (hg : ∀ (s : Shared) (H : Hp) (C : Addr) (cl : List (Str × Addr)) (fp : List Addr), PG (X.blk s H scope (compEnvC scope cl C X.env) fp) tg gv) (ht : ∀ (s : Shared) (H : Hp) (C : Addr) (cl : List (Str × Addr)) (fp : List Addr), PTs (X.blk s H scope (compEnvC scope cl C X.env) fp) ifs ttv)
    (hk : ∀ (s : Shared) (H : Hp) (C : Addr) (cl : List (Str × Addr)) (fp : List Addr), PE (X.blk s H scope (compEnvC scope cl C X.env) fp) kx tkv) (he : ∀ (s : Shared) (H : Hp) (C : Addr) (cl : List (Str × Addr)) (fp : List Addr), PE (X.blk s H scope (compEnvC scope cl C X.env) fp) vx tvv)
    (hs : ∀ x, foldedSetIterable iter X.env x = pure x := by intro _; rfl) : PS X (.Assign [.Name y py] (.DictComp kx vx [⟨tg, iter, ifs, 0⟩] scope pos) spos) (tAsg (tDc wv gv ttv tkv tvv (own.map (·.2))) (gName i)) := by
  refine ⟨fun pins s σ H D I h => ?_⟩
  rw [exec_Assign_Name_used _ _ _ _ hsw]
  refine wpAny_bind (wpAny_standAt (wpAny_bind ?_))
  change wpAny _ X.A (do let _ ← comprehension (.DictComp kx vx [⟨tg, iter, ifs, 0⟩] scope pos) scope X.env (firstIterPos [⟨tg, iter, ifs, 0⟩] pos) newDict false (eval iter X.env) (some (assign (.Name y py) X.env))) _ _ s
  have h' : tDc wv gv ttv tkv tvv (own.map (·.2)) σ H (fun x H1 => gName i x σ H1 D.nx) := h
  refine wpAny_bind (thn (dc_core (Qf := fun _ s' => SP X pins D .next s') hc hN I hi ok hg ht hk he hs h' fun L C s' m H' I' q hn f => ?_) fun _ s' hq => wpAny_pure (wpAny_pure hq))
  change wpAny _ _ (assign (.Name y py) X.env (.ref L)) _ _ _
  refine wpAny_assign_Name (store_ok2 (v := V.ref L) I' hN hy (.inl hyl) rfl (fun s2 I2 ⟨a, sb, ha⟩ => ?_) (.inr hyl))
  obtain ⟨f0, f1, f2, f3, f4, f5⟩ := f
  have nC : C ≠ a := by
    rcases ha with z | z
    · rw [z]; exact f1
    · exact fun e => f4 y a z e.symm
  exact ⟨m, hn.sameBut sb nC, fun h3 sb3 => ⟨_, H', I2.turned (t' := s2.toks) (fun b o hb e => (sb3.2 b hb).trans e) f0 f1 f3 f4 f5, q⟩⟩
theorem sw_trueD {gs : List Comprehension} {scope : Scope} {pos py : Pos} {y : Str} {l : Nat} {env : Env} (hk : env.scope.kind = .function) (hy : env.scope.names.lookup y = some .local) (hl : (py.line == pos.line) = true)
    (ha : (scope.names.any fun (n, k) => n == y && (k == .local || k == .cell)) = false) : swapsWith (.DictComp kx vx gs scope pos) (some (.Name y py)) l env = pure true := by
  have ky : env.kindOf y = some .local := hy
  have hb : env.blockKind = .function := by unfold Env.blockKind; rw [hk]; rfl
  unfold swapsWith
  simp only [hb, ky, ha, Expr.pos, hl]
  rfl
theorem ds_setDc (i : Nat) {y : Str} {py spos : Pos} (own : List (Str × Nat)) (hc : X.calm = true) (hN : X.N.Nodup) (hi : PI X tg iter (lI X.K wi)) (ok : BlkOk X.N X.env.scope scope own)
    (hg : ∀ (s : Shared) (H : Hp) (C : Addr) (cl : List (Str × Addr)) (fp : List Addr), PG (X.blk s H scope (compEnvC scope cl C X.env) fp) tg gv) (hgd : ∀ N, TgC ⟨X.K, N⟩ (own.map (·.2)) gv g) (ht : ∀ (s : Shared) (H : Hp) (C : Addr) (cl : List (Str × Addr)) (fp : List Addr), PTs (X.blk s H scope (compEnvC scope cl C X.env) fp) ifs (lT X.K tt))
    (hk : ∀ (s : Shared) (H : Hp) (C : Addr) (cl : List (Str × Addr)) (fp : List Addr), PE (X.blk s H scope (compEnvC scope cl C X.env) fp) kx (lE X.K tk)) (he : ∀ (s : Shared) (H : Hp) (C : Addr) (cl : List (Str × Addr)) (fp : List Addr), PE (X.blk s H scope (compEnvC scope cl C X.env) fp) vx (lE X.K tv))
    (hs : ∀ x, foldedSetIterable iter X.env x = pure x := by intro _; rfl) (hy : X.N[i]? = some y := by rfl) (hyl : X.env.scope.names.lookup y = some .local := by rfl)
    (hsw : swapsWith (.DictComp kx vx [⟨tg, iter, ifs, 0⟩] scope pos) (some (.Name y py)) spos.line X.env = pure true := by exact sw_trueD rfl rfl rfl (by decide +kernel)) :
    PS X (.Assign [.Name y py] (.DictComp kx vx [⟨tg, iter, ifs, 0⟩] scope pos) spos) (lS X.K (dAsg (dDc wi g tt tk tv (own.map (·.2))) (gdName i))) :=
  PS.wk (ps_setDc hc hN hy hyl hsw hi ok hg ht hk he hs) fun D σ H ⟨N, δ, S, D', re, rs, q, l⟩ => lift_dc own hgd ⟨N, δ, S, _, re, rs, q, fun d S1 v H1 b1 r1 q1 => l.nx _ S1 _ H1 b1 ((re.le (rs.le b1.fr)).set r1 i) q1⟩

/-! ### a written dict of texts -/
def lookS (kvs : List (Str × Str)) (z : Str) : Option Str := (kvs.find? fun q => q.1 == z).map (·.2)
def GDt (K : PySem.W.Frag) (w : World) (mg : Str → Option Value) (x : Str) (kvs : List (Str × Str)) : Prop := ∃ a, mg x = some (.ref a) ∧ ∀ z v, lookS kvs z = some v → KDct K w a z (.str v)
def dGix (kvs : List (Str × Str)) (t : TDE) : TDE := fun δ S Q => t δ S fun y S1 => ∃ z v, y = .str z ∧ lookS kvs z = some v ∧ Q (.str v) S1
theorem de_gix {x : Str} {kvs : List (Str × Str)} {e : Expr} {te : TDE} {p pos : Pos} (G : GDt X.K X.w X.mg x kvs) (he : PE X e (lE X.K te)) (hg : Gl X x := by rfl) (hd : (x == ("__debug__" : Str)) = false := by decide) (hs : PlainIx e := by exact fun _ _ => rfl) : PE X (.Subscript (.Name x p) e pos) (lE X.K (dGix kvs te)) := by
  obtain ⟨a, m, G⟩ := G
  refine PE.wk (pe_ix ix_kdict (pe_glob (v := .ref a) hg m rfl hd) he hs) fun σ H Q ⟨N, δ, S, Q', re, rs, q, kk⟩ => ?_
  refine ⟨N, δ, S, _, re, rs, q, fun y S1 v H1 b1 ry q1 => ?_⟩
  obtain ⟨z, u, rfl, hl, q1⟩ := q1
  exact ⟨a, z, .str u, rfl, ry.at_, G z u hl, kk _ S1 _ H1 b1 (.of _) q1⟩

/-! ### list.extend by a tuple or a list -/
theorem extend_tup (l : Addr) (items : Array Value) (n : Nat) (b : Addr) (items2 : Array Value) (n2 : Nat) (dd : Option Addr) (sl : Array (Option Value)) (h0 : ¬(!items.isEmpty && Builtin.List.listTooLong (items.size + items2.size)) = true) (h1 : items.size ≤ sizeLine) (h2 : items.size + items2.size ≤ sizeLine + 1) :
    Meets (Builtin.«list.extend» ⟨[.ref l, .ref b], []⟩) (fun _ R s => s.heap.get? l = some { cls := .type "list", dict := none, data := .seq items n, slots := #[] } ∧ s.heap.get? b = some { cls := .type "tuple", dict := dd, data := .seq items2 n2, slots := sl } ∧ R (.ok (.ret Value.none)) { s with heap := s.heap.update l (Obj.mapSeq fun x => x ++ items2), toks := s.toks }) :=
  .of_wp fun prog w A R s h => by
    obtain ⟨hp, g, d, tk, os⟩ := s
    obtain ⟨hl, hb, h⟩ := h
    have f1 := PySem.AutoSeq1.idx_int
    have f2 := PySem.F.sub_tuple_tuple
    have f3 := PySem.F.sub_list_list
    have f4 := PySem.F.sub_tuple_list
    have f5 := PySem.F.sub_list_tuple
    have hz' : (items ++ items2).size ≤ sizeLine + 1 := by rw [Array.size_append]; exact h2
    wp_walk using (wpAny_updateSeq hl rfl (hz := h1) (_hz' := hz')), AutoSeq1.wpAny_loadPart' hl, AutoSeq1.wpAny_loadPart' hb
    exact ⟨_, rfl, h⟩
def rExtT (K : PySem.W.Frag) : V → List V → Hp → VK → Prop := fun x vs H Q => ∃ (l b : Addr) (xs zs : List V), x = .ref l ∧ vs = [.ref b] ∧ H l = some (.lst xs) ∧ SqT K H b zs ∧ xs.length + zs.length ≤ sizeLine ∧ Q .non (upd H l (.lst (xs ++ zs)))
theorem mt_extT : MtM X "list.extend" (rExtT X.K) := by
  intro pins s σ H x vs v us Q I rx rv h
  obtain ⟨l, b, xs, zs, rfl, rfl, hH, hB, hz, q⟩ := h
  obtain rfl : v = Value.ref l := rx
  obtain ⟨u, rfl, ru⟩ := rv.one
  obtain rfl : u = Value.ref b := ru
  obtain ⟨z, its, n, r, hl, e⟩ := I.lstM hH
  obtain ⟨its2, r2, ⟨⟨c2, d2, dt2, s2⟩, e2, hc, n2, hd⟩, z2⟩ := I.tuple hB
  simp only at hc hd
  subst hc
  subst hd
  have l2 := r2.length
  have hsz : its.toArray.size + its2.toArray.size ≤ sizeLine := by rw [List.size_toArray, List.size_toArray]; omega
  have nl : ¬ (!its.toArray.isEmpty && Builtin.List.listTooLong (its.toArray.size + its2.toArray.size)) = true := by
    rw [notLongL hsz, Bool.and_false]
    exact Bool.false_ne_true
  refine call_meets PySem.F.slot_list_extend ⟨_, e, rfl⟩ PySem.F.entry_list_extend (PySem.F.args_list_extend_2 _ _) (extend_tup l its.toArray n b its2.toArray n2 d2 s2 nl (by omega) (by omega)) ⟨e, e2, ?_⟩
  refine ⟨.non, _, I.lset (its' := its ++ its2) hH e (by simp) (r.append r2) ?_, rfl, q⟩
  rw [List.length_append]
  omega
def tpOf : D → Option (List D)
  | .tup xs => some xs
  | .wt xs => some xs
  | _ => none
def extT : RDM := fun x ys S Q => ∃ a xs y zs, x = .ref a ∧ ys = [y] ∧ S a = some (.lst xs) ∧ tpOf y = some zs ∧ xs.length + zs.length ≤ sizeLine ∧ Q .non (up S a (.lst (xs ++ zs)))
theorem md_extT : MtR X "list.extend" (lM X.K extT) := by
  intro pins s σ H v vs vv us Q I rv rvs hh
  obtain ⟨N, x, ys, S, Q', rx, rxs, rs, ⟨a, xs, y, zs, rfl, rfl, e, hy, hz, q⟩, kk⟩ := hh
  obtain ⟨w, rfl, rw'⟩ := rxs.one'
  obtain ⟨ws, h1, h2⟩ := rs.ob a _ e
  obtain ⟨b, vs, rfl, hs, r3⟩ : ∃ b vs, w = .ref b ∧ SqT X.K H b vs ∧ RDs ⟨X.K, N⟩ H S vs zs := by
    cases y with
    | tup ds =>
      cases hy
      obtain ⟨b, vs, rfl, t, r⟩ := rw'.tup_
      exact ⟨b, vs, rfl, .of t, r⟩
    | wt ds =>
      cases hy
      obtain ⟨b, vs, rfl, t, r⟩ := rw'.wt_
      exact ⟨b, vs, rfl, .inr t, r⟩
    | _ => cases hy
  obtain ⟨b1, b2⟩ := rs.write (o := .lst (ws ++ vs)) (m' := .lst (xs ++ zs)) e fun le => ⟨_, upd_same, (h2.append r3).le le⟩
  exact mt_extT pins s σ H v _ vv us Q I rv rvs ⟨a, b, ws, vs, rx.at_, rfl, h1, hs, by rw [h2.length, r3.length]; exact hz, kk _ _ _ _ ⟨b2, b1⟩ (.of _) q⟩
end
end DL

/-! Data layer, sixteenth part: isinstance, int(bool), lists times, written-out dicts, lists taken apart, sorted(dict). -/
namespace DL
open PySem L2 PyProof.Rows
section
variable {X : Cx} {k : Nat}

/-! ### isinstance(x, T), T a built-in class -/
def tyN (S : Sto) : D → Option String
  | .at .non => some "NoneType"
  | .at (.bl _) => some "bool"
  | .at (.int _) => some "int"
  | .at (.str _) => some "str"
  | .at (.ref a) => match S a with
    | some (.lst _) => some "list"
    | some (.dk _) => some "dict"
    | some (.dt _) => some "dict"
    | _ => none
  | .tup _ => some "tuple"
  | .wt _ => some "tuple"
  | .fl _ => some "list"
  | _ => none
def kis (t c : String) : Bool := t == c || (t == "bool" && c == "int")
theorem kis_ok (K : PySem.W.Frag) : ∀ t ∈ ["NoneType", "bool", "int", "str", "list", "dict", "tuple"], ∀ c ∈ ["bool", "int", "str", "list", "dict", "tuple"], PySem.W.kitOne K (.type t) (.type c) = some (kis t c) := by
  intro t ht c hc
  simp only [List.mem_cons, List.not_mem_nil, or_false] at ht hc
  rcases ht with rfl | rfl | rfl | rfl | rfl | rfl | rfl <;> rcases hc with rfl | rfl | rfl | rfl | rfl | rfl <;> rfl
theorem tyN_mem {S : Sto} {x : D} {t : String} (h : tyN S x = some t) : t ∈ ["NoneType", "bool", "int", "str", "list", "dict", "tuple"] := by
  unfold tyN at h
  split at h <;> first | (cases h; simp) | (split at h <;> first | (cases h; simp) | cases h) | cases h
theorem tyX_of {K : Kx} {H : Hp} {S : Sto} {v : V} {x : D} {t : String} (rs : RS K H S) (r : RD K H S v x) (h : tyN S x = some t) : TyX K.k H v (.type t) := by
  cases x with
  | tup xs =>
    cases h
    obtain ⟨a, vs, rfl, e, _⟩ := r.tup_
    exact .base (.tup e)
  | wt xs =>
    cases h
    obtain ⟨a, vs, rfl, ⟨o, its, n, e, c, _⟩, _⟩ := r.wt_
    exact .kTuple e c
  | fl xs =>
    cases h
    obtain ⟨a, vs, rfl, fz, _⟩ := r.fl_
    rcases fz with ⟨e, _, _⟩ | ⟨o, its, n, e, c, _⟩
    · rcases e with e | ⟨o, e⟩
      · exact .base (.lst e)
      · exact .base (.frz e)
    · exact .kList e c
  | «at» v' =>
    have e := r.at_
    subst e
    cases v with
    | non => cases h; exact .base .non
    | bl b => cases h; exact .base (.bl b)
    | int i => cases h; exact .base (.int i)
    | str z => cases h; exact .base (.str z)
    | ref a =>
      unfold tyN at h
      dsimp only at h
      split at h
      · rename_i ys e
        cases h
        obtain ⟨vs, h1, _⟩ := rs.ob a _ e
        exact .base (.lst h1)
      · rename_i ys e
        cases h
        obtain ⟨vs, h1, _⟩ := rs.ob a _ e
        exact .base (.dK h1)
      · rename_i ys e
        cases h
        obtain ⟨vs, h1, _⟩ := rs.ob a _ e
        exact .base (.dT h1)
      · cases h
    | _ => cases h
def dIsi (T : String) (te : TDE) : TDE := fun δ S Q => te δ S fun x S1 => ∃ t, tyN S1 x = some t ∧ Q (.bl (kis t T)) S1
theorem de_isi {T : Str} {tn : String} {e : Expr} {te : TDE} {p p2 pos : Pos} (hg : Gl X "isinstance") (hm : X.mg "isinstance" = none) (hg2 : Gl X T) (hm2 : X.mg T = none) (he : PE X e (lE X.K te))
    (hv2 : bootBuiltins T = some (.type tn) := by decide +kernel) (hT : tn ∈ ["bool", "int", "str", "list", "dict", "tuple"] := by decide) (hn : T ≠ "__name__" := by decide) (hd : (T == ("__debug__" : Str)) = false := by decide)
    (hs2 : starEach [.Name T p2] X.env = (false, eval (.Name T p2) X.env) :: starEach [] X.env := by rfl) (hs : starEach [e, .Name T p2] X.env = (false, eval e X.env) :: starEach [.Name T p2] X.env := by rfl) (hpl : (backTo pos (starEach [.Name T p2] X.env)).any (·.1) = false := by rfl) :
    PE X (.Call (.Name "isinstance" p) [e, .Name T p2] [] pos) (lE X.K (dIsi tn te)) :=
  PE.wk (pe_callB call_isi hg hm (by decide +kernel) (pa_cons he (pa_cons (pe_bltn (v := .ty tn) hg2 hm2 hv2 rfl hn hd) pa_nil hs2) hs) (by decide) (by decide) hs hpl) fun σ H Q ⟨N, δ, S, Q', re, rs, q, kk⟩ => by
    refine ⟨N, δ, S, _, re, rs, q, fun x S1 v H1 b1 rx q1 => ?_⟩
    obtain ⟨t, ht, q1⟩ := q1
    exact ⟨v, .ty tn, .type t, .type tn, kis t tn, rfl, .ty tn, tyX_of b1.rs rx ht, kis_ok _ t (tyN_mem ht) tn hT, kk _ S1 _ H1 b1 (.of _) q1⟩

/-! ### int(b) -/
def intB : RDL := fun ds S Q => (∃ b, ds = [.bl b] ∧ Q (.int (if b then 1 else 0)) S) ∨ ∃ i, ds = [.int i] ∧ Q (.int i) S
theorem cd_int1 : CallR X (.type "int") (lL X.K intB) := by
  intro pins s σ H vs us Q I r hh
  obtain ⟨N, ds, S, Q', rd, rs, q, kk⟩ := hh
  rcases q with ⟨b, rfl, q⟩ | ⟨b, rfl, q⟩
  · obtain ⟨v, rfl, rx⟩ := rd.one'
    exact call_int1 pins s σ H _ us Q I r (.inr ⟨b, by rw [rx.at_], kk _ S _ H (.refl rs) (.of _) q⟩)
  · obtain ⟨v, rfl, rx⟩ := rd.one'
    exact call_int1 pins s σ H _ us Q I r (.inl ⟨b, by rw [rx.at_], kk _ S _ H (.refl rs) (.of _) q⟩)

/-! ### a list times an int -/
def mulL : RD2 := fun x y S Q => ∃ a i xs, x = .ref a ∧ y = .int i ∧ S a = some (.lst xs) ∧ -(2 ^ 63) ≤ i ∧ i < 2 ^ 63 ∧ xs.length * i.toNat ≤ sizeLine ∧ Q (.fl (List.replicate i.toNat xs).flatten) S
theorem rds_rep {K : Kx} {H : Hp} {S : Sto} {vs : List V} {ds : List D} (r : RDs K H S vs ds) : ∀ n, RDs K H S (List.replicate n vs).flatten (List.replicate n ds).flatten
  | 0 => .nil
  | n + 1 => by
    rw [List.replicate_succ, List.replicate_succ, List.flatten_cons, List.flatten_cons]
    exact r.append (rds_rep r n)
theorem od_mulL : OpR X (binaryOp .Mult) (l2 X.K mulL) := by
  intro pins s σ H v u vv uu Q I rv ru h'
  obtain ⟨N, x, y, S, Q', rx, ry, rs, ⟨a, i, xs, rfl, rfl, e, h1, h2, hz, q⟩, kk⟩ := h'
  obtain ⟨vs, h3, h4⟩ := rs.ob a _ e
  refine op_rep pins s σ H _ _ _ _ Q I rv ru ⟨a, i, vs, rx.at_, ry.at_, h3, h1, h2, by rw [h4.length]; exact hz, fun p np => ?_⟩
  obtain ⟨b1, r1⟩ := new_fl rs np (rds_rep h4 i.toNat)
  exact kk _ S _ _ b1 r1 q

/-! ### {"a": 1, ..}, all written -/
def dDlit (kvs : List (Key × V)) : TDE := fun _ S Q => ∀ p, S p = none → Q (.ref p) (up S p (.dk ((mergeK [] kvs).map fun q => (q.1, .at q.2))))
theorem tPairs_lit : ∀ (kvs : List (Key × V)) (σ : L2.St) (H : Hp) (Q : List (V × V) → Hp → Prop), Q (kvs.map fun kv => (kV kv.1, kv.2)) H → tPairs (kvs.map fun kv => (tC (kV kv.1), tC kv.2)) σ H Q
  | [], _, _, _, q => q
  | (k, v) :: r, σ, H, Q, q => tPairs_lit r σ H _ q
theorem de_dlit (kvs : List (Key × V)) {keys : List (Option Expr)} {values : List Expr} {pos : Pos} (h : PPs X pos keys values (kvs.map fun kv => (tC (kV kv.1), tC kv.2))) (hall : keys.all (·.isSome) = true := by rfl) (hl : keys.length = values.length := by rfl) (h0 : keys ≠ [] := by exact List.cons_ne_nil _ _)
    (h15 : keys.length ≤ 15 := by decide) (h16 : kvs.length ≤ 15 := by decide) : PE X (.Dict keys values pos) (lE X.K (dDlit kvs)) :=
  PE.wk (pe_disp h hall hl h0 h15) fun σ H Q ⟨N, δ, S, Q', re, rs, q, kk⟩ p np => by
    refine tPairs_lit kvs σ _ _ ⟨upd_same, kvs, rfl, h16, ?_⟩
    have e : upd (upd H p (.dK [])) p (.dK (mergeK [] kvs)) = upd H p (.dK (mergeK [] kvs)) := by
      funext a
      unfold upd
      split <;> rfl
    rw [e]
    obtain ⟨b1, b2⟩ := rs.new (o := .dK (mergeK [] kvs)) (m := .dk ((mergeK [] kvs).map fun q => (q.1, .at q.2))) np fun le => ⟨_, upd_same, by rw [List.map_map]; rfl, by
      have := RDs.of_atoms (K := ⟨X.K, N⟩) (H := upd H p (.dK (mergeK [] kvs))) (S := up S p (.dk ((mergeK [] kvs).map fun q => (q.1, .at q.2)))) ((mergeK [] kvs).map (·.2))
      rw [List.map_map] at this ⊢
      exact this⟩
    exact kk _ _ _ _ ⟨b2, b1⟩ (.of _) (q p (rs.free np))

/-! ### a, b, .. = a list -/
def gdLst (n : Nat) (t : TDGs) : TDG := fun d δ S Q => ∃ ds, lsOf S d = some ds ∧ ds.length = n ∧ t ds δ S Q
theorem dg_lst {es : List Expr} {kk : Nat} {pos : Pos} {t : TDGs} {n : Nat} (hc : X.calm = true) (h : PGs X es (lGs X.K t))
    (hn : (assignEach es X.env).length = n := by rfl) (hst : (assignEach es X.env).findIdx? (·.1) = none := by rfl) : PG X (.Tuple es kk pos) (lG X.K (gdLst n t)) :=
  PG.wk (pg_unl hc h hn hst) fun v σ H Q ⟨N, d, δ, S, Q', rd, re, rs, q, k⟩ => by
    obtain ⟨ds, hl, hn', q⟩ := q
    obtain ⟨a, vs, rfl, sq, rv⟩ := ls_sq rs rd hl
    exact ⟨a, vs, rfl, sq, by rw [rv.length, hn'], N, ds, δ, S, Q', rv, re, rs, q, k⟩

/-! ### sorted(d), fewer than 64 keys, texts -/
def srtDk : RDL := fun ds S Q => ∃ a kvs, ∃ ks : List Str, ds = [.ref a] ∧ S a = some (.dk kvs) ∧ kvs.map (·.1) = ks.map Sum.inr ∧ ks.length < 64 ∧ ∀ ys : List Str, ys.Perm ks → sortedS ys = true → Q (.fl (ys.map D.str)) S
theorem cd_sortedDk (hc : X.calm = true) : CallR X (.builtin "sorted") (lL X.K srtDk) := by
  intro pins s σ H vs us Q I r hh
  obtain ⟨N, ds, S, Q', rd, rs, ⟨a, kvs, ks, rfl, e, hk, h64, q⟩, kk⟩ := hh
  obtain ⟨v, rfl, rx⟩ := rd.one'
  have := rx.at_
  subst this
  obtain ⟨gs, h1, h2, h3⟩ := rs.ob a _ e
  refine call_sortedD hc pins s σ H _ us Q I r ⟨a, gs, ks, rfl, .inl h1, h2.trans hk, h64, fun ys p hp hs np => ?_⟩
  obtain ⟨b1, r1⟩ := new_fl rs np (rds_strs ys)
  exact kk _ S _ _ b1 r1 (q ys hp hs)
end
end DL

/-! Data layer, seventeenth part: a written dict's facts. -/
namespace DL
open PySem L2 PyProof.Rows
theorem look_all {K : PySem.W.Frag} {w : World} {a : Addr} (kvs : List (Str × Str)) (h : ∀ q ∈ kvs, KDct K w a q.1 (.str q.2)) : ∀ z v, lookS kvs z = some v → KDct K w a z (.str v) := by
  intro z v e
  unfold lookS at e
  obtain ⟨q, hq, rfl⟩ := Option.map_eq_some_iff.mp e
  have h1 := List.find?_some hq
  have h2 : q.1 = z := by simpa using h1
  subst h2
  exact h q (List.mem_of_find?_eq_some hq)
end DL

/-! Data layer, eighteenth part: words for the newer readings. -/
namespace DL
open PySem L2 PyProof.Rows
theorem zip_at {a b : D} {ds es : List D} {S : Sto} {i : Nat} {x y : D} (h1 : sdOf S a = some ds) (h2 : sdOf S b = some es) (hx : ds[i]? = some x) (hy : es[i]? = some y) : zipMI a b i S = some (some (.tup [x, y])) := by
  have l1 := (List.getElem?_eq_some_iff.mp hx).1
  have l2 := (List.getElem?_eq_some_iff.mp hy).1
  unfold zipMI
  rw [h1, h2]
  simp only [Option.bind_some]
  rw [if_pos ⟨by omega, by omega⟩, hx, hy]
  rfl
theorem zip_no {a b : D} {ds es : List D} {S : Sto} {i : Nat} (h1 : sdOf S a = some ds) (h2 : sdOf S b = some es) (hi : i ≤ ds.length) (hj : i ≤ es.length) (he : i = ds.length ∨ i = es.length) : zipMI a b i S = some none := by
  unfold zipMI
  rw [h1, h2]
  simp only [Option.bind_some]
  rw [if_pos ⟨hi, hj⟩]
  rcases he with rfl | rfl
  · rw [List.getElem?_eq_none (Nat.le_refl _)]; rfl
  · rw [List.getElem?_eq_none (l := es) (Nat.le_refl _)]
    cases ds[es.length]? <;> rfl
theorem sl_t {xs : List D} {lo hi : Option Int} {S : Sto} {Q : KD} {mu : Bool} (q : Q (.tup (cutD xs lo hi)) S) : sliceD mu (.tup xs) lo hi S Q := q
theorem cut_1 (x : D) (xs : List D) : cutD (x :: xs) (some 1) none = xs := by
  unfold cutD
  simp [HT.sIx]
/-- a list that is handed back and that nobody else holds -/
theorem rt_fl {p : Addr} {ds : List D} {S : Sto} {Q : KD} (h : S p = some (.lst ds)) (q : Q (.fl ds) (del S p)) : ∃ d1 S1, VW (.ref p) S d1 S1 ∧ Q d1 S1 := ⟨_, _, .fz sub_del h del_same, q⟩
theorem del_up {S : Sto} {p : Addr} {o : MO} (h : S p = none) : del (up S p o) p = S := by
  funext a
  by_cases e : a = p
  · subst e; rw [del_same, h]
  · rw [del_ne e, up_ne e]
/-- a dict made of items that stand -/
theorem dc_seq {ds : List D} {S0 : Sto} {Nx : Sto → Prop} {B : (Nat → Sto → Prop) → Nat → D → Sto → Prop} (Pv : Nat → Sto → Prop) (h0 : Pv 0 S0)
    (hs : ∀ i x S, ds[i]? = some x → Pv i S → B Pv i x S) (hd : ∀ i S, ds.length ≤ i → Pv i S → Nx S) :
    ∃ (W : Nat → Sto → Prop) (n : Nat), W 0 S0 ∧ ∀ i S2, W i S2 → ∃ r, seqI ds i S2 = some r ∧ (r = none → Nx S2) ∧ ∀ x, r = some x → i < n ∧ B W i x S2 :=
  ⟨Pv, ds.length, h0, fun i S p => ⟨ds[i]?, rfl, fun e => hd i S (List.getElem?_eq_none_iff.mp e) p, fun x e => ⟨(List.getElem?_eq_some_iff.mp e).1, hs i x S e p⟩⟩⟩
/-- handed back, and a thing forgotten that was new -/
theorem rt_up {d : D} {p : Addr} {o : MO} {S : Sto} {Q : KD} (h : S p = none) (q : Q d S) : ∃ d1 S1, VW d (up S p o) d1 S1 ∧ Q d1 S1 := by
  have e : Sub S (up S p o) := by
    have := sub_del (S := up S p o) (p := p)
    rw [del_up h] at this
    exact this
  exact rt_sub e q
end DL

/-! Data layer: objects of own classes: made, read, stored, their methods; lists of a comprehension that will be changed. -/
namespace DL
open PySem L2 PyProof.Rows
/-! ### attributes -/
def putFD (f : Str) (d : D) : List (Str × D) → List (Str × D)
  | [] => [(f, d)]
  | (g, w) :: r => if g = f then (g, d) :: r else (g, w) :: putFD f d r
theorem put_rel {K : Kx} {H : Hp} {S : Sto} {f : Str} {v : V} {d : D} (rv : RD K H S v d) : ∀ {gs : List (Str × V)} {fs : List (Str × D)}, gs.map (·.1) = fs.map (·.1) → RDs K H S (gs.map (·.2)) (fs.map (·.2)) →
    (L2.putF f v gs).map (·.1) = (putFD f d fs).map (·.1) ∧ RDs K H S ((L2.putF f v gs).map (·.2)) ((putFD f d fs).map (·.2))
  | [], [], _, _ => ⟨rfl, .cons rv .nil⟩
  | [], _ :: _, e, _ => by cases e
  | _ :: _, [], e, _ => by cases e
  | (g, w) :: gs, (g', w') :: fs, e, r => by
    rw [List.map_cons, List.map_cons, List.cons.injEq] at e
    obtain ⟨e1, e2⟩ := e
    dsimp only at e1
    subst e1
    obtain ⟨r1, r2⟩ := RDs.of_cons r
    show ((if g = f then (g, v) :: gs else (g, w) :: L2.putF f v gs) : List (Str × V)).map (·.1) = _ ∧ RDs K H S (((if g = f then (g, v) :: gs else (g, w) :: L2.putF f v gs) : List (Str × V)).map (·.2)) _
    unfold putFD
    by_cases h : g = f
    · rw [if_pos h, if_pos h]
      exact ⟨by rw [List.map_cons, List.map_cons, e2], .cons rv r2⟩
    · rw [if_neg h, if_neg h]
      obtain ⟨a, b⟩ := put_rel rv e2 r2
      exact ⟨by rw [List.map_cons, List.map_cons, a], .cons r1 b⟩
theorem look_rel {K : Kx} {H : Hp} {S : Sto} {f : Str} : ∀ {gs : List (Str × V)} {fs : List (Str × D)}, gs.map (·.1) = fs.map (·.1) → RDs K H S (gs.map (·.2)) (fs.map (·.2)) →
    (fs.lookup f = none → gs.lookup f = none) ∧ ∀ d, fs.lookup f = some d → ∃ v, gs.lookup f = some v ∧ RD K H S v d
  | [], [], _, _ => ⟨fun _ => rfl, fun _ e => by cases e⟩
  | [], _ :: _, e, _ => by cases e
  | _ :: _, [], e, _ => by cases e
  | (g, w) :: gs, (g', w') :: fs, e, r => by
    rw [List.map_cons, List.map_cons, List.cons.injEq] at e
    obtain ⟨e1, e2⟩ := e
    dsimp only at e1
    subst e1
    obtain ⟨r1, r2⟩ := RDs.of_cons r
    obtain ⟨a, b⟩ := look_rel (f := f) e2 r2
    rw [List.lookup_cons, List.lookup_cons]
    cases h : (f == g) with
    | true => exact ⟨fun e => (nomatch (show some w' = none from e)), fun d e => by
      have e : some w' = some d := e
      cases e
      exact ⟨w, rfl, r1⟩⟩
    | false => exact ⟨a, b⟩
section
variable {X : Cx} {CX : CXT} {k k' : Nat} {f C : Addr} {fd : FuncData} {ps : List Str} {sp : Sp} {E : XK}
variable {x m fn : Str} {p pos apos : Pos} {e o value : Expr} {es : List Expr} {ta : TE} {t : TA} {dv : List V} {ds : List Value}
theorem pg_meth {pl : Sem Bool} (he : PE X o ta) (c : Cls X.K C) (hm : Meth X.K C m f) (G : CallG X f sp E dv) (ha : PA X (e :: es) t)
    (hst : starEach (e :: es) X.env = (false, eval e X.env) :: starEach es X.env := by rfl) (hpl : (backTo pos (starEach es X.env)).any (·.1) = false := by rfl)
    (ht : eval (.Call (.Attribute o m apos) (e :: es) [] pos) X.env = (do
      let ov ← eval o X.env
      standAt apos.atName
      let (f, first) ← holding [ov] (getMethod ov m pl)
      callWith pos f first (backTo pos (starEach (e :: es) X.env)) (backToKw pos (keywordEach [] X.env))) := by rfl) :
    PE X (.Call (.Attribute o m apos) (e :: es) [] pos) (tMeth C m sp dv E ta t) := by
  constructor
  intro pins s σ H Q I h
  refine PySem.W.methodCall_KW (thn (he.run pins s σ H _ I h) ?_) ht
  rintro u s1 ⟨x, H1, I1, rx, a, dx, fs, rfl, ea, l, q⟩
  cases rx
  refine getmeth_ok I1 ea c hm l ?_
  refine PySem.W.callWith_K (h₀ := X.base) I1.ok.mod.kin hm.kp ?_ hst hpl
  refine thn (ha.run pos pins s1 σ H1 _ I1 q) ?_
  rintro us s2 ⟨vs, H2, I2, r, q2⟩
  exact ⟨I2.kIn, G pins σ H2 s2 Q (.ref a :: us) (.ref a :: vs) I2 (.cons rfl r) q2⟩
theorem pg_meth0 {pl : Sem Bool} (he : PE X o ta) (c : Cls X.K C) (hm : Meth X.K C m f) (G : CallG X f sp E dv)
    (ht : eval (.Call (.Attribute o m apos) [] [] pos) X.env = (do
      let ov ← eval o X.env
      standAt apos.atName
      let (f, first) ← holding [ov] (getMethod ov m pl)
      callWith pos f first (backTo pos (starEach [] X.env)) (backToKw pos (keywordEach [] X.env))) := by rfl) :
    PE X (.Call (.Attribute o m apos) [] [] pos) (tMeth C m sp dv E ta tNil) := by
  constructor
  intro pins s σ H Q I h
  refine PySem.W.methodCall_KW (thn (he.run pins s σ H _ I h) ?_) ht
  rintro u s1 ⟨x, H1, I1, rx, a, dx, fs, rfl, ea, l, q⟩
  cases rx
  refine getmeth_ok I1 ea c hm l ?_
  refine PySem.W.callWith_K0 I1.kIn hm.kp ?_
  exact G pins σ H1 s1 Q [.ref a] [.ref a] I1 (.cons rfl .nil) q
theorem run_makeG {pins : List (Addr × Obj)} {σ : L2.St} {H : Hp} {s : Shared} {Q : VK} {us : List Value} {vs : List V} (M : Mk X.K C f) (F : FnG X.prog X.w X.K X.mg X.base CX k f fd ps sp) (hr : Rg (k + 1) X.A) (hb : Binds X.K fd ps ds) (hd : Vals dv ds) (hx : Passes CX X E) (I : Inv X pins σ H s) (r : Vals vs us)
    (h : ∀ x dx : Addr, H x = none → H dx = none → dx ≠ x → sp (V.ref x :: (vs ++ dv)) (upd (upd H dx (.own x)) x (.ins C dx [])) (fun v H2 => v = V.non ∧ Q (V.ref x) H2) E) :
    wpAny (model X.prog X.w) X.A (call (.ref C) us) (EP X pins σ Q) X.xe s := by
  have hq := h (s.heap.objs.size + 1) s.heap.objs.size (I.hok.fresh (Nat.le_succ _)) (I.hok.fresh (Nat.le_refl _)) (Nat.ne_of_lt (Nat.lt_succ_self _))
  have I2 := I.made (C := C)
  have r2 : Vals (V.ref (s.heap.objs.size + 1) :: (vs ++ dv)) (Value.ref (s.heap.objs.size + 1) :: (us ++ ds)) := .cons rfl (r.append hd)
  have hl : (Value.ref (s.heap.objs.size + 1) :: (us ++ ds)).length = ps.length := r2.length.symm.trans (F.len _ _ _ _ hq)
  apply wpAny_call
  refine make_map I.kIn M.makes M.init (beq_iff_eq.mp M.fn) ?_
  refine codeAny_mono (F.run (X.A.under (Code.builtin "type.__call__" { pos := Value.ref C :: us })) X.stack _ _ ⟨Value.ref (s.heap.objs.size + 1) :: us, []⟩ (Value.ref (s.heap.objs.size + 1) :: (us ++ ds)) (V.ref (s.heap.objs.size + 1) :: (vs ++ dv)) _ E (hr.r.make C us []) ?_ (Env0.make I2.env0 C us []) (hb _ (Value.ref (s.heap.objs.size + 1) :: us) I2.kIn hl) r2 hq) ?_
  · have e : Code.guards (Code.builtin "type.__call__" { pos := Value.ref C :: us }) = [] := by
      unfold Code.guards
      rw [if_neg (by simp [Code.isGuard]; decide +kernel)]
    unfold Around.under
    dsimp only
    rw [e, hr.g]
    rfl
  · intro res s' hq'
    match res, hq' with
    | .error e, hq' => exact hx pins σ _ _ e s' I2 hq'
    | .ok .next, hq' => exact hq'.elim
    | .ok .brk, hq' => exact hq'.elim
    | .ok .cont, hq' => exact hq'.elim
    | .ok (.ret u), hq' =>
      obtain ⟨v, H', I3, rv, ev, q3⟩ := I2.after hq'
      subst ev
      exact ⟨rv, V.ref (s.heap.objs.size + 1), H', I3, rfl, q3⟩
theorem pg_make (M : Mk X.K C f) (F : FnG X.prog X.w X.K X.mg X.base CX k f fd ps sp) (hr : Rg (k + 1) X.A) (hg : Gl X x) (hm : X.mg x = some (.ref C)) (hb : Binds X.K fd ps ds) (hd : Vals dv ds) (hx : Passes CX X E) (ha : PA X (e :: es) t) (hdb : (x == ("__debug__" : Str)) = false := by decide)
    (he : starEach (e :: es) X.env = (false, eval e X.env) :: starEach es X.env := by rfl) (hpl : (backTo pos (starEach es X.env)).any (·.1) = false := by rfl) : PE X (.Call (.Name x p) (e :: es) [] pos) (tMake C sp dv E t) := by
  constructor
  intro pins s σ H Q I h
  apply wpAny_Call_Name_kw
  apply ld_glob I hg hm _ hdb
  apply PySem.W.callWith_K (h₀ := X.base) I.ok.mod.kin M.kp _ he hpl
  apply thn (ha.run pos pins s σ H _ I h)
  rintro us s1 ⟨vs, H1, I1, rv, q⟩
  exact ⟨I1.kIn, run_makeG M F hr hb hd hx I1 rv q⟩
theorem pg_make0 (M : Mk X.K C f) (F : FnG X.prog X.w X.K X.mg X.base CX k f fd ps sp) (hr : Rg (k + 1) X.A) (hg : Gl X x) (hm : X.mg x = some (.ref C)) (hb : Binds X.K fd ps ds) (hd : Vals dv ds) (hx : Passes CX X E) (hdb : (x == ("__debug__" : Str)) = false := by decide) : PE X (.Call (.Name x p) [] [] pos) (tMake C sp dv E tNil) := by
  constructor
  intro pins s σ H Q I h
  apply wpAny_Call_Name_kw
  apply ld_glob I hg hm _ hdb
  apply PySem.W.callWith_K0 I.kIn M.kp
  exact run_makeG M F hr hb hd hx I .nil h
end
/-! ### over data -/
section
variable {X : Cx} {k k' : Nat} {C : Addr} {ps : List Str} {sp : SpD} {st : Stmt}
variable {x m qual fn : Str} {p pos apos : Pos} {e o value : Expr} {es : List Expr} {ta tv : TDE} {t : TDA}
/-- the attribute's value -/
def dFld (C : Addr) (f : Str) (ta : TDE) : TDE := fun δ S Q => ta δ S fun x S1 => ∃ a fs d, x = .ref a ∧ S1 a = some (.ins C fs) ∧ fs.lookup f = some d ∧ Q d S1
theorem de_fld (c : Cls X.K C) (n : NoAttr X.K C fn) (he : PE X o (lE X.K ta)) (hb : attributeBase o fn X.env (eval o X.env) = eval o X.env := by rfl) : PE X (.Attribute o fn pos) (lE X.K (dFld C fn ta)) :=
  PE.wk (pe_fld he hb) fun σ H Q ⟨N, δ, S, Q', re, rs, q, kk⟩ => by
    refine ⟨N, δ, S, _, re, rs, q, fun x S1 v H1 b1 rx q1 => ?_⟩
    obtain ⟨a, fs, d, rfl, e, l, q1⟩ := q1
    obtain ⟨dx, gs, h1, h2, h3⟩ := b1.rs.ob a _ e
    obtain ⟨w, h4, h5⟩ := (look_rel h2 h3).2 d l
    exact ⟨a, C, dx, gs, w, rx.at_, h1, c, n, h4, kk d S1 w H1 b1 h5 q1⟩
/-- o.f = value -/
def dFldSet (C : Addr) (f : Str) (ta tv : TDE) : TDS := fun D δ S => tv δ S fun y S1 => ta δ S1 fun x S2 => ∃ a fs, x = .ref a ∧ S2 a = some (.ins C fs) ∧ fs.length < 1000 ∧ D.nx δ (up S2 a (.ins C (putFD f y fs)))
theorem ds_fld (c : Cls X.K C) (n : NoAttr X.K C fn) (ho : PE X o (lE X.K ta)) (hv : PE X value (lE X.K tv)) (hs : swapsWith value (some (.Attribute o fn apos)) pos.line X.env = pure false := by rfl) : PS X (.Assign [.Attribute o fn apos] value pos) (lS X.K (dFldSet C fn ta tv)) :=
  PS.wk (ps_fld ho hv hs) fun D σ H ⟨N, δ, S, D', re, rs, q, l⟩ => by
    refine ⟨N, δ, S, _, re, rs, q, fun y S1 v H1 b1 ry q1 => ?_⟩
    refine ⟨N, δ, S1, _, re.le (rs.le b1.fr), b1.rs, q1, fun x S2 u H2 b2 rx q2 => ?_⟩
    obtain ⟨a, fs, rfl, e, hl, q2⟩ := q2
    obtain ⟨dx, gs, h1, h2, h3⟩ := b2.rs.ob a _ e
    have ry2 := ry.le (b1.rs.le b2.fr)
    obtain ⟨p1, p2⟩ := put_rel (f := fn) ry2 h2 h3
    obtain ⟨c1, c2⟩ := b2.rs.write (o := .ins C dx (L2.putF fn v gs)) (m' := .ins C (putFD fn y fs)) e fun le => ⟨dx, _, upd_same, p1, p2.le le⟩
    have bb := (b1.trans b2).trans ⟨c2, c1⟩
    refine ⟨a, C, dx, gs, rx.at_, h1, c, n, ?_, l.nx δ _ σ _ bb (re.le (rs.le bb.fr)) q2⟩
    have := congrArg List.length h2
    rw [List.length_map, List.length_map] at this
    omega
/-- o.f += value, of ints -/
def dFldAdd (C : Addr) (f : Str) (ta tv : TDE) : TDS := fun D δ S => ta δ S fun x S1 => ∃ a fs i, x = .ref a ∧ S1 a = some (.ins C fs) ∧ fs.lookup f = some (.int i) ∧ tv δ S1 fun y S2 => ∃ j fs', y = .int j ∧ S2 a = some (.ins C fs') ∧ fs'.length < 1000 ∧ D.nx δ (up S2 a (.ins C (putFD f (.int (i + j)) fs')))
theorem ds_fldAdd (c : Cls X.K C) (n : NoAttr X.K C fn) (ho : PE X o (lE X.K ta)) (hv : PE X value (lE X.K tv)) : PS X (.AugAssign (.Attribute o fn apos) .Add value pos) (lS X.K (dFldAdd C fn ta tv)) :=
  PS.wk (ps_fldaug ho hv in_add) fun D σ H ⟨N, δ, S, D', re, rs, q, l⟩ => by
    refine ⟨N, δ, S, _, re, rs, q, fun x S1 v H1 b1 rx q1 => ?_⟩
    obtain ⟨a, fs, i, rfl, e, l0, q1⟩ := q1
    obtain ⟨dx, gs, h1, h2, h3⟩ := b1.rs.ob a _ e
    obtain ⟨w, h4, h5⟩ := (look_rel h2 h3).2 _ l0
    refine ⟨a, C, dx, gs, w, rx.at_, h1, c, n, h4, N, δ, S1, _, re.le (rs.le b1.fr), b1.rs, q1, fun y S2 u H2 b2 ry q2 => ?_⟩
    obtain ⟨j, fs', rfl, e', hl, q2⟩ := q2
    obtain ⟨dx', gs', g1, g2, g3⟩ := b2.rs.ob a _ e'
    refine ⟨i, j, h5.at_, ry.at_, dx', gs', g1, ?_, ?_⟩
    · have := congrArg List.length g2
      rw [List.length_map, List.length_map] at this
      omega
    · obtain ⟨p1, p2⟩ := put_rel (f := fn) (RD.of (K := ⟨X.K, N⟩) (H := H2) (S := S2) (.int (i + j))) g2 g3
      obtain ⟨c1, c2⟩ := b2.rs.write (o := .ins C dx' (L2.putF fn (.int (i + j)) gs')) (m' := .ins C (putFD fn (.int (i + j)) fs')) e' fun le => ⟨dx', _, upd_same, p1, p2.le le⟩
      have bb := (b1.trans b2).trans ⟨c2, c1⟩
      exact l.nx δ _ σ _ bb (re.le (rs.le bb.fr)) q2
/-- a method of own classes, as its callers know it -/
structure CalM (P : Program) (w : World) (K : PySem.W.Frag) (mg : Str → Option Value) (base : Heap) (k : Nat) (C : Addr) (m qual : Str) (st : Stmt) (ps : List Str) (sp : SpD) : Prop where
  ex : ∃ f fd, FnD P w K mg base CX0 k f fd ps sp ∧ Binds K fd ps [] ∧ Meth K C m f ∧ Fun K m qual st f fd
/-- how an instance is made -/
structure CalI (P : Program) (w : World) (K : PySem.W.Frag) (mg : Str → Option Value) (base : Heap) (k : Nat) (C : Addr) (x qual : Str) (st : Stmt) (ps : List Str) (sp : SpD) : Prop where
  ex : ∃ f fd, FnD P w K mg base CX0 k f fd ps sp ∧ Binds K fd ps [] ∧ Mk K C f ∧ mg x = some (.ref C) ∧ Fun K "__init__" qual st f fd
def dMeth (C : Addr) (m : Str) (sp : SpD) (E : XD) (ta : TDE) (t : TDA) : TDE := fun δ S Q => ta δ S fun x S1 => ∃ a fs, x = .ref a ∧ S1 a = some (.ins C fs) ∧ fs.lookup m = none ∧ t δ S1 fun ds S2 => sp (.ref a :: ds) S2 Q E
theorem lift_meth {σ : L2.St} {H : Hp} {Q : VK} (h : lE X.K (dMeth C m sp X0 ta t) σ H Q) : tMeth C m (lSp X.K sp) [] E0 (lE X.K ta) (lA X.K t) σ H Q := by
  obtain ⟨N, δ, S, Q', re, rs, q, kk⟩ := h
  refine ⟨N, δ, S, _, re, rs, q, fun x S1 v H1 b1 rx q1 => ?_⟩
  obtain ⟨a, fs, rfl, e, l, q1⟩ := q1
  obtain ⟨dx, gs, h1, h2, h3⟩ := b1.rs.ob a _ e
  refine ⟨a, dx, gs, rx.at_, h1, (look_rel h2 h3).1 l, N, δ, S1, _, re.le (rs.le b1.fr), b1.rs, q1, fun ds S2 vs H2 b2 r2 q2 => ?_⟩
  show lSp X.K sp (v :: (vs ++ [])) H2 Q E0
  rw [List.append_nil, ← lX0 (K := X.K), rx.at_]
  exact lift_sp (.cons (.of _) r2) b2.rs q2 fun d S' v H' b3 => kk d S' v H' ((b1.trans b2).trans b3)
theorem de_mt (M : CalM X.prog X.w X.K X.mg X.base k C m qual st ps sp) (c : Cls X.K C) (hr : Rg k' X.A) (ho : PE X o (lE X.K ta)) (ha : PA X (e :: es) (lA X.K t)) (hk : k ≤ k' := by decide) {pl : Sem Bool}
    (hst : starEach (e :: es) X.env = (false, eval e X.env) :: starEach es X.env := by rfl) (hpl : (backTo pos (starEach es X.env)).any (·.1) = false := by rfl)
    (ht : eval (.Call (.Attribute o m apos) (e :: es) [] pos) X.env = (do
      let ov ← eval o X.env
      standAt apos.atName
      let (f, first) ← holding [ov] (getMethod ov m pl)
      callWith pos f first (backTo pos (starEach (e :: es) X.env)) (backToKw pos (keywordEach [] X.env))) := by rfl) :
    PE X (.Call (.Attribute o m apos) (e :: es) [] pos) (lE X.K (dMeth C m sp X0 ta t)) := by
  obtain ⟨f, fd, F, b, mm, fn⟩ := M.ex
  exact PE.wk (pg_meth ho c mm (F.call (hr.mono hk) b .nil pass0) ha hst hpl ht) fun σ H Q h => lift_meth h
theorem de_mt0 (M : CalM X.prog X.w X.K X.mg X.base k C m qual st ps sp) (c : Cls X.K C) (hr : Rg k' X.A) (ho : PE X o (lE X.K ta)) (hk : k ≤ k' := by decide) {pl : Sem Bool}
    (ht : eval (.Call (.Attribute o m apos) [] [] pos) X.env = (do
      let ov ← eval o X.env
      standAt apos.atName
      let (f, first) ← holding [ov] (getMethod ov m pl)
      callWith pos f first (backTo pos (starEach [] X.env)) (backToKw pos (keywordEach [] X.env))) := by rfl) :
    PE X (.Call (.Attribute o m apos) [] [] pos) (lE X.K (dMeth C m sp X0 ta dNil)) := by
  obtain ⟨f, fd, F, b, mm, fn⟩ := M.ex
  refine PE.wk (pg_meth0 ho c mm (F.call (hr.mono hk) b .nil pass0) ht) fun σ H Q h => ?_
  obtain ⟨N, δ, S, Q', re, rs, q, kk⟩ := h
  refine ⟨N, δ, S, _, re, rs, q, fun x S1 v H1 b1 rx q1 => ?_⟩
  obtain ⟨a, fs, rfl, e, l, q1⟩ := q1
  obtain ⟨dx, gs, h1, h2, h3⟩ := b1.rs.ob a _ e
  refine ⟨a, dx, gs, rx.at_, h1, (look_rel h2 h3).1 l, ?_⟩
  show lSp X.K sp ([v] ++ []) H1 Q E0
  rw [List.append_nil, ← lX0 (K := X.K), rx.at_]
  exact lift_sp (.cons (.of _) .nil) b1.rs q1 fun d S' v H' b3 => kk d S' v H' (b1.trans b3)
def dMake (C : Addr) (sp : SpD) (E : XD) (t : TDA) : TDE := fun δ S Q => t δ S fun ds S1 => ∀ x, S1 x = none → sp (.ref x :: ds) (up S1 x (.ins C [])) (fun d S2 => d = .non ∧ Q (.ref x) S2) E
theorem make_rs {K : Kx} {H : Hp} {S : Sto} (rs : RS K H S) {x dx : Addr} (nx : H x = none) (ndx : H dx = none) (ne : dx ≠ x) : Bh K H S (upd (upd H dx (.own x)) x (.ins C dx [])) (up S x (.ins C [])) := by
  obtain ⟨r1, f1, _⟩ := rs.laid (o := .own x) ndx
  have n2 : (upd H dx (.own x)) x = none := by rw [upd_ne ne.symm]; exact nx
  obtain ⟨r2, f2⟩ := r1.new (o := .ins C dx []) (m := .ins C []) n2 fun _ => ⟨dx, [], upd_same, rfl, .nil⟩
  exact ⟨f1.trans f2, r2⟩
theorem de_mk (M : CalI X.prog X.w X.K X.mg X.base k C x qual st ps sp) (hr : Rg k' X.A) (ha : PA X (e :: es) (lA X.K t)) (hk : k + 1 ≤ k' := by decide) (hg : Gl X x := by rfl) (hdb : (x == ("__debug__" : Str)) = false := by decide)
    (he : starEach (e :: es) X.env = (false, eval e X.env) :: starEach es X.env := by rfl) (hpl : (backTo pos (starEach es X.env)).any (·.1) = false := by rfl) : PE X (.Call (.Name x p) (e :: es) [] pos) (lE X.K (dMake C sp X0 t)) := by
  obtain ⟨f, fd, F, b, mm, mg, fn⟩ := M.ex
  refine PE.wk (pg_make mm F (hr.mono hk) hg mg b .nil pass0 ha hdb he hpl) fun σ H Q h => ?_
  obtain ⟨N, δ, S, Q', re, rs, q, kk⟩ := h
  refine ⟨N, δ, S, _, re, rs, q, fun ds S1 vs H1 b1 r1 q1 x dx nx ndx ne => ?_⟩
  have bm := make_rs (C := C) b1.rs nx ndx ne
  rw [List.append_nil, ← lX0 (K := X.K)]
  exact lift_sp (.cons (.of _) (r1.le (b1.rs.le bm.fr))) bm.rs (q1 x (b1.rs.free nx)) fun d S' v H' b3 rv q3 => by
    obtain ⟨rfl, q3⟩ := q3
    exact ⟨rv.at_, kk _ S' _ H' ((b1.trans bm).trans b3) (.of _) q3⟩
theorem de_mk0 (M : CalI X.prog X.w X.K X.mg X.base k C x qual st ps sp) (hr : Rg k' X.A) (hk : k + 1 ≤ k' := by decide) (hg : Gl X x := by rfl) (hdb : (x == ("__debug__" : Str)) = false := by decide) : PE X (.Call (.Name x p) [] [] pos) (lE X.K (dMake C sp X0 dNil)) := by
  obtain ⟨f, fd, F, b, mm, mg, fn⟩ := M.ex
  refine PE.wk (pg_make0 mm F (hr.mono hk) hg mg b .nil pass0 hdb) fun σ H Q h => ?_
  obtain ⟨N, δ, S, Q', re, rs, q, kk⟩ := h
  show ∀ x dx, _
  intro x dx nx ndx ne
  have bm := make_rs (C := C) rs nx ndx ne
  show lSp X.K sp (V.ref x :: ([] ++ [])) _ _ E0
  rw [List.append_nil, ← lX0 (K := X.K)]
  exact lift_sp (.cons (.of _) .nil) bm.rs (q x (rs.free nx)) fun d S' v H' b3 rv q3 => by
    obtain ⟨rfl, q3⟩ := q3
    exact ⟨rv.at_, kk _ S' _ H' (bm.trans b3) (.of _) q3⟩
end
/-! ### lists of a comprehension that will be changed -/
section
variable {X : Cx}
/-- [e for x in .. if ..]: W by the turn, what is made so far, the store; nobody will change the new list -/
def dLcM (wi : TDI) (g : TDG) (tt : TDT) (te : TDE) (vs : List Nat) : TDE := fun δ S Q => wi δ S fun J S1 => ∃ (W : Nat → List DL.D → Sto → Prop) (n : Nat), W 0 [] S1 ∧ ∀ i acc S2, W i acc S2 → ∃ r, J i S2 = some r ∧
  (r = none → ∀ A : Addr, S2 A = none → Q (.ref A) (up S2 A (.lst acc))) ∧
  ∀ x, r = some x → i < n ∧ acc.length < sizeLine ∧ g x (wipeD δ vs) S2 fun δ2 S3 => tt δ2 S3 fun b S4 =>
    if b = true then te δ2 S4 fun y S5 => W (i + 1) (acc ++ [y]) S5 else W (i + 1) acc S4
theorem lift_lcM {K : PySem.W.Frag} {wi : TDI} {gv : TG} {g : TDG} {tt : TDT} {te : TDE} (own : List (Str × Nat)) (hgd : ∀ N, TgC ⟨K, N⟩ (own.map (·.2)) gv g) {σ : L2.St} {H : Hp} {Q : VK} (h : lE K (dLcM wi g tt te (own.map (·.2))) σ H Q) : tLc (lI K wi) gv (lT K tt) (lE K te) (own.map (·.2)) σ H Q := by
  obtain ⟨N, δ, S, Q', re, rs, q, kk⟩ := h
  refine ⟨N, δ, S, _, re, rs, q, fun J S1 Jv H1 b1 rel q1 A hA => ?_⟩
  obtain ⟨W, n, w0, turn⟩ := q1
  have re1 := re.le (rs.le b1.fr)
  have nA := b1.rs.nhid hA
  have sA := b1.rs.free hA
  obtain ⟨M, hM⟩ : ∃ M : Addr → Prop, M = fun a => N a ∨ a = A := ⟨_, rfl⟩
  -- the new list is hidden while it is made
  obtain ⟨rsA, frA, leA⟩ := b1.rs.laid (o := .lst []) hA
  have leM : ∀ {H2 : Hp} {S2 : Sto}, TupLe ⟨K, M⟩ H2 S2 ⟨K, N⟩ H2 S2 := fun {H2 S2} => ⟨fun a xs z => z, fun _ _ z => z, fun a xs z => z.elim (fun ⟨z1, z2, z3⟩ => .inl ⟨z1, z2, fun hn => z3 (by rw [hM]; exact .inl hn)⟩) .inr⟩
  have leN : TupLe ⟨K, N⟩ H1 S1 ⟨K, M⟩ (upd H1 A (.lst [])) S1 := by
    refine ⟨leA.t, fun _ _ z => z, fun a xs z => ?_⟩
    rcases z with ⟨z1, z2, z3⟩ | z
    · have ne : a ≠ A := fun e => by subst e; rcases z1 with z1 | ⟨o, z1⟩ <;> (rw [hA] at z1; cases z1)
      refine .inl ⟨?_, z2, fun hm => ?_⟩
      · rcases z1 with z1 | ⟨o, z1⟩
        · exact .inl (by rw [upd_ne ne]; exact z1)
        · exact .inr ⟨o, by rw [upd_ne ne]; exact z1⟩
      · rw [hM] at hm; exact hm.elim z3 ne
    · exact .inr z
  have bM : Bh ⟨K, M⟩ H1 S1 (upd H1 A (.lst [])) S1 := by
    refine ⟨frA, fun a o e => ?_, fun a ha => ?_, fun a ha => ?_⟩
    · have ne : a ≠ A := fun z => by subst z; rw [sA] at e; cases e
      exact (b1.rs.ob a o e).le leN (upd_ne ne)
    · rw [hM] at ha
      rcases ha with ha | ha
      · exact hid_upd b1.rs.hid a ha
      · exact ⟨_, by rw [ha]; exact upd_same⟩
    · rw [hM] at ha
      rcases ha with ha | ha
      · exact b1.rs.hidS a ha
      · rw [ha]; exact sA
  -- what a turn leaves: seen without the new list
  have toN : ∀ {H2 : Hp} {S2 : Sto}, Bh ⟨K, M⟩ H1 S1 H2 S2 → Bh ⟨K, N⟩ H1 S1 H2 S2 := fun {H2 S2} b => ⟨b.fr, fun a o e => (b.rs.ob a o e).le leM rfl, fun a ha => b.rs.hid a (by show M a; rw [hM]; exact .inl ha), fun a ha => b.rs.hidS a (by show M a; rw [hM]; exact .inl ha)⟩
  have reM : RE ⟨K, M⟩ (upd H1 A (.lst [])) S1 σ δ := re1.le leN
  refine ⟨fun i m H2 => ∃ acc S2 vs, m = n - i ∧ W i acc S2 ∧ (Bh ⟨K, M⟩ H1 S1 H2 S2 ∧ TupLe ⟨K, N⟩ H1 S1 ⟨K, M⟩ H2 S2) ∧ RE ⟨K, M⟩ H2 S2 σ δ ∧ H2 A = some (.lst vs) ∧ S2 A = none ∧ RDs ⟨K, M⟩ H2 S2 vs acc, ⟨n, [], S1, [], rfl, w0, ⟨bM, leN⟩, reM, upd_same, sA, .nil⟩, ?_⟩
  rintro i m H2 ⟨acc, S2, us, rfl, w2, ⟨b2, l2⟩, re2, hA2, sA2, ra⟩
  obtain ⟨r, hr, hn, hgo⟩ := turn i acc S2 w2
  obtain ⟨r1, r2⟩ := rel M i H2 S2 b2 l2
  cases r with
  | none =>
    refine .inl ⟨r1 hr, ?_⟩
    have leU : TupLe ⟨K, M⟩ H2 S2 ⟨K, N⟩ H2 (up S2 A (.lst acc)) := ⟨fun a xs z => z, fun _ _ z => z, fun a xs z => z.elim (fun ⟨z1, z2, z3⟩ => .inl ⟨z1, by rw [up_ne (fun e => z3 (by show M a; rw [hM]; exact .inr e))]; exact z2, fun hn => z3 (by show M a; rw [hM]; exact .inl hn)⟩) .inr⟩
    have bU : Bh ⟨K, N⟩ H1 S1 H2 (up S2 A (.lst acc)) := by
      refine ⟨fun a o e n => ?_, fun a o e => ?_, fun a ha => b2.rs.hid a (by show M a; rw [hM]; exact .inl ha), fun a ha => ?_⟩
      · have ne : a ≠ A := fun z => by subst z; rw [hA] at e; cases e
        obtain ⟨z1, z2⟩ := b2.fr a o e n
        exact ⟨z1, by rw [up_ne ne]; exact z2⟩
      · by_cases z : a = A
        · subst z
          rw [up_same] at e
          cases e
          exact ⟨_, hA2, ra.le leU⟩
        · rw [up_ne z] at e
          exact (b2.rs.ob a o e).le leU rfl
      · have ne : a ≠ A := fun z => by subst z; exact nA ha
        rw [up_ne ne]
        exact b2.rs.hidS a (by show M a; rw [hM]; exact .inl ha)
    exact kk _ _ _ H2 (b1.trans bU) (.of _) (hn rfl A sA2)
  | some x =>
    obtain ⟨hlt, hsz, hgx⟩ := hgo x rfl
    obtain ⟨go, yl⟩ := r2 x hr
    refine .inr ⟨go, fun H' => ∃ acc' S' vs', W (i + 1) acc' S' ∧ (Bh ⟨K, M⟩ H1 S1 H' S' ∧ TupLe ⟨K, N⟩ H1 S1 ⟨K, M⟩ H' S') ∧ RE ⟨K, M⟩ H' S' σ δ ∧ H' A = some (.lst vs') ∧ S' A = none ∧ RDs ⟨K, M⟩ H' S' vs' acc', fun H' ⟨a', S', v', h1, h2, h3, h4, h5, h6⟩ => ⟨n - (i + 1), by omega, a', S', v', rfl, h1, h2, h3, h4, h5, h6⟩, fun v H3 y => ?_⟩
    obtain ⟨b3, rv⟩ := yl v H3 y
    have le3 := b2.rs.le b3.fr
    have fin : ∀ {H' : Hp} {S' : Sto}, Bh ⟨K, M⟩ H2 S2 H' S' → H' A = some (.lst us) ∧ S' A = none := fun {H' S'} b => b.fr A _ hA2 sA2
    -- a turn that adds nothing
    have skip : ∀ {H' : Hp} {S' : Sto}, Bh ⟨K, M⟩ H2 S2 H' S' → W (i + 1) acc S' → ∃ acc' S' vs', W (i + 1) acc' S' ∧ (Bh ⟨K, M⟩ H1 S1 H' S' ∧ TupLe ⟨K, N⟩ H1 S1 ⟨K, M⟩ H' S') ∧ RE ⟨K, M⟩ H' S' σ δ ∧ H' A = some (.lst vs') ∧ S' A = none ∧ RDs ⟨K, M⟩ H' S' vs' acc' := fun {H' S'} b w =>
      have le := b2.rs.le b.fr
      ⟨acc, S', us, w, ⟨b2.trans b, l2.trans le⟩, re2.le le, (fin b).1, (fin b).2, ra.le le⟩
    refine hgd M v x (wipe σ (own.map (·.2))) (wipeD δ (own.map (·.2))) H3 S2 _ _ rv (re_wipe (re2.le le3) _) b3.rs hgx fun σ4 H4 δ4 S4 e4 b4 re4 q4 => ?_
    refine ⟨e4.trans (wipe_wipe _ _), ?_⟩
    have b24 := b3.trans b4
    refine ⟨M, δ4, S4, _, re4, b4.rs, q4, fun c S5 H5 b5 q5 => ?_⟩
    have b25 := b24.trans b5
    cases c with
    | false =>
      rw [if_neg Bool.false_ne_true] at q5
      exact iteF (skip b25 q5)
    | true =>
      rw [if_pos rfl] at q5
      refine iteT ⟨M, δ4, S5, _, re4.le (b4.rs.le b5.fr), b5.rs, q5, fun y S6 u H6 b6 r6 q6 => ?_⟩
      have b26 := b25.trans b6
      obtain ⟨hA6, sA6⟩ := fin b26
      have le6 := b2.rs.le b26.fr
      refine ⟨us, hA6, by rw [ra.length]; exact hsz, ?_⟩
      have le7 : TupLe ⟨K, M⟩ H6 S6 ⟨K, M⟩ (upd H6 A (.lst (us ++ [u]))) S6 := by
        refine ⟨fun a xs z => ?_, fun _ _ z => z, fun a xs z => ?_⟩
        · rw [upd_ne (ne_of z hA6 (by intro w; cases w))]; exact z
        · rcases z with ⟨z1, z2, z3⟩ | z
          · have ne : a ≠ A := fun e => z3 (by show M a; rw [hM]; exact .inr e)
            refine .inl ⟨?_, z2, z3⟩
            rcases z1 with z1 | ⟨o, z1⟩
            · exact .inl (by rw [upd_ne ne]; exact z1)
            · exact .inr ⟨o, by rw [upd_ne ne]; exact z1⟩
          · exact .inr z
      have bb := b2.trans b26
      refine ⟨acc ++ [y], S6, us ++ [u], q6, ⟨⟨fun a o e n => ?_, fun a o e => ?_, fun a ha => hid_upd bb.rs.hid a ha, bb.rs.hidS⟩, (l2.trans le6).trans le7⟩, (re2.le le6).le le7, upd_same, sA6, ((ra.le le6).append (.cons r6 .nil)).le le7⟩
      · obtain ⟨z1, z2⟩ := bb.fr a o e n
        exact ⟨by rw [upd_ne (ne_of_none e hA)]; exact z1, z2⟩
      · have ne : a ≠ A := fun z => by subst z; rw [sA6] at e; cases e
        exact (bb.rs.ob a o e).le le7 (upd_ne ne)
theorem de_lcM {elt tg iter : Expr} {ifs : List Expr} {scope : Scope} {pos : Pos} {wi : TDI} {gv : TG} {g : TDG} {tt : TDT} {te : TDE} (own : List (Str × Nat)) (hc : X.calm = true) (hN : X.N.Nodup) (hi : PI X tg iter (lI X.K wi)) (ok : BlkOk X.N X.env.scope scope own)
    (hg : ∀ (s : Shared) (H : Hp) (C : Addr) (cl : List (Str × Addr)) (fp : List Addr), PG (X.blk s H scope (compEnvC scope cl C X.env) fp) tg gv) (hgd : ∀ N, TgC ⟨X.K, N⟩ (own.map (·.2)) gv g) (ht : ∀ (s : Shared) (H : Hp) (C : Addr) (cl : List (Str × Addr)) (fp : List Addr), PTs (X.blk s H scope (compEnvC scope cl C X.env) fp) ifs (lT X.K tt))
    (he : ∀ (s : Shared) (H : Hp) (C : Addr) (cl : List (Str × Addr)) (fp : List Addr), PE (X.blk s H scope (compEnvC scope cl C X.env) fp) elt (lE X.K te)) (hs : ∀ x, foldedSetIterable iter X.env x = pure x := by intro _; rfl) :
    PE X (.ListComp elt [⟨tg, iter, ifs, 0⟩] scope pos) (lE X.K (dLcM wi g tt te (own.map (·.2)))) := PE.wk (pe_lc hc hN hi ok hg ht he hs) fun σ H Q h => lift_lcM own hgd h
/-- name = [..] -/
theorem ds_setLcM (i : Nat) {y : Str} {py spos : Pos} {elt tg iter : Expr} {ifs : List Expr} {scope : Scope} {pos : Pos} {wi : TDI} {gv : TG} {g : TDG} {tt : TDT} {te : TDE} (own : List (Str × Nat)) (hc : X.calm = true) (hN : X.N.Nodup) (hi : PI X tg iter (lI X.K wi)) (ok : BlkOk X.N X.env.scope scope own)
    (hg : ∀ (s : Shared) (H : Hp) (C : Addr) (cl : List (Str × Addr)) (fp : List Addr), PG (X.blk s H scope (compEnvC scope cl C X.env) fp) tg gv) (hgd : ∀ N, TgC ⟨X.K, N⟩ (own.map (·.2)) gv g) (ht : ∀ (s : Shared) (H : Hp) (C : Addr) (cl : List (Str × Addr)) (fp : List Addr), PTs (X.blk s H scope (compEnvC scope cl C X.env) fp) ifs (lT X.K tt))
    (he : ∀ (s : Shared) (H : Hp) (C : Addr) (cl : List (Str × Addr)) (fp : List Addr), PE (X.blk s H scope (compEnvC scope cl C X.env) fp) elt (lE X.K te)) (hs : ∀ x, foldedSetIterable iter X.env x = pure x := by intro _; rfl)
    (hy : X.N[i]? = some y := by rfl) (hyl : X.env.scope.names.lookup y = some .local := by rfl) (hsw : swapsWith (.ListComp elt [⟨tg, iter, ifs, 0⟩] scope pos) (some (.Name y py)) spos.line X.env = pure true := by exact sw_true rfl rfl rfl (by decide +kernel)) :
    PS X (.Assign [.Name y py] (.ListComp elt [⟨tg, iter, ifs, 0⟩] scope pos) spos) (lS X.K (dAsg (dLcM wi g tt te (own.map (·.2))) (gdName i))) :=
  PS.wk (ps_setLc hc hN hy hyl hsw hi ok hg ht he hs) fun D σ H ⟨N, δ, S, D', re, rs, q, l⟩ => lift_lcM own hgd ⟨N, δ, S, _, re, rs, q, fun d S1 v H1 b1 r1 q1 => l.nx _ S1 _ H1 b1 ((re.le (rs.le b1.fr)).set r1 i) q1⟩
end
end DL

/-! Data layer: a tuple times an int, empty dicts shown, three names at once, str(int), ints of the module. -/
namespace DL
open PySem L2 PyProof.Rows
theorem tuple_mul0 (l : Addr) (items : Array Value) (n : Nat) (dd : Option Addr) (sl : Array (Option Value)) (x : Int) (u : Tok) (c0 : (decide (x < -2 ^ 63) || decide (x ≥ 2 ^ 63)) = false) (c1 : (items.isEmpty || x == 1) = false) (c2 : (decide (x ≤ 0) || items.isEmpty) = true) :
    Meets (Builtin.«tuple.__mul__» { pos := [Value.ref l, Value.int x u] }) fun x_1 R s =>
      s.heap.get? l = some { cls := Value.type "tuple", dict := dd, data := Data.seq items n, slots := sl } ∧ R (Except.ok (Flow.ret (Value.ref s.heap.objs.size))) { heap := s.heap.push { cls := Value.type "tuple", data := Data.seq #[] }, gens := s.gens, drawn := s.drawn, toks := s.toks, os := s.os } := by
  refine Meets.of_wp fun prog w A R s h => ?_
  obtain ⟨hp, g, d, tk, os⟩ := s
  obtain ⟨hl, h⟩ := h
  have f1 := AutoSeq1.idx_int
  refine wpAny_ite_false (decide_eq_false (by rw [c0]; exact Bool.false_ne_true)) ?_
  refine wpAny_bind ?_
  refine wpAny_bind ?_
  refine wpAny_bind (wpAny_load' hl (wpAny_pure (wpAny_pure ?_)))
  refine wpAny_ite_false (by rw [c1]; rfl) ?_
  refine wpAny_ite_true (by rw [c2]; rfl) ?_
  refine wpAny_bind ?_
  unfold Builtin.Tuple.tupleExact newObj
  apply wpAny_ite_false
  · decide
  refine wpAny_bind (wpAny_alloc' (wpAny_pure ?_))
  refine wpAny_pure ?_
  exact ⟨_, rfl, h⟩
section
variable {X : Cx}
/-- a tuple times an int: none, or two and more -/
def rRepT2 (K : PySem.W.Frag) : R2 := fun x y H Q => ∃ l k xs, x = .ref l ∧ y = .int k ∧ H l = some (.tup xs) ∧ xs ≠ [] ∧ xs.length * k.toNat ≤ 1000000 ∧ -1000000 ≤ k ∧ k ≤ 1000000 ∧ k ≠ 1 ∧ ∀ p, H p = none → Q (.ref p) (upd H p (.tup (List.replicate k.toNat xs).flatten))
theorem op_repT2 : OpR X (binaryOp .Mult) (rRepT2 X.K) := by
  intro pins s σ H x y v u Q I rx ry h
  obtain ⟨l, k, xs, rfl, rfl, hT, hne, hm, h1, h2, n1, q⟩ := h
  cases rx
  obtain ⟨t, rfl⟩ := ry
  obtain ⟨its, r, ⟨w, ho, hc, n, hd⟩, hs⟩ := I.tuple (.of hT)
  obtain ⟨cls, dd, data, sl⟩ := w
  dsimp only at hc hd
  subst hc
  subst hd
  have hle : its.length = xs.length := r.length.symm
  have hn : its ≠ [] := fun e => hne (List.eq_nil_of_length_eq_zero (by rw [← hle, e]; rfl))
  have hi : its.toArray.isEmpty = false := by
    cases its with
    | nil => exact absurd rfl hn
    | cons a b => rfl
  have hsz0 : its.toArray.size = xs.length := by rw [List.size_toArray, hle]
  have c0 : (decide (k < -2 ^ 63) || decide (k ≥ 2 ^ 63)) = false := by
    rw [decide_eq_false (by omega), decide_eq_false (by omega)]; rfl
  have c1 : (its.toArray.isEmpty || k == 1) = false := by
    rw [hi, Bool.false_or]
    exact beq_eq_false_iff_ne.mpr n1
  have flen : (List.replicate k.toNat its).flatten.length ≤ sizeLine := by
    rw [lm_len_rep_flat, hle, sizeLine_eq, Nat.mul_comm]; omega
  have flen2 : (List.replicate k.toNat xs).flatten.length ≤ sizeLine := by
    rw [lm_len_rep_flat, sizeLine_eq, Nat.mul_comm]; omega
  by_cases hk : k ≤ 0
  · have ek : k.toNat = 0 := by omega
    have c2 : (decide (k ≤ 0) || its.toArray.isEmpty) = true := by rw [decide_eq_true hk]; rfl
    refine wpAny_binaryOp_repeat_ref (by decide : (Value.type "tuple" == Value.type "int") = false) ⟨_, ho, rfl⟩ (fun s' => typeIs_int s' k t) noFill_tuple_mul F.fills_int_mul F.slot_int_rmul repeat_tuple F.slot_int_index.lookup
      (call_meets F.slot_int_rmul (typeIs_int s k t) F.entry_int_rmul (F.args_int_rmul_2 (Value.int k t) (Value.ref l)) (int_rmul_tuple k t l its.toArray n dd sl) ⟨ho, rfl, ⟨_, ho, rfl⟩,
        call_meets F.slot_tuple_mul ⟨_, ho, rfl⟩ F.entry_tuple_mul (F.args_tuple_mul_2 (Value.ref l) (Value.int k t)) (tuple_mul0 l its.toArray n dd sl k t c0 c1 c2) ⟨ho, ?_⟩⟩)
    have q := q s.heap.objs.size (I.hok.fresh (Nat.le_refl _))
    rw [ek] at q
    refine ⟨V.ref s.heap.objs.size, upd H s.heap.objs.size (HO.tup []), I.laid (fun b ob z => Heap.get?_push_of_some _ z) (Nat.le_refl _) ⟨Nat.zero_le _, [], .nil, IsTup.new s.heap #[]⟩, rfl, q⟩
  · have c2 : (decide (k ≤ 0) || its.toArray.isEmpty) = false := by rw [decide_eq_false hk, hi]; rfl
    have hmi : (its.toArray.size : Int) * k ≤ 1000000 := by
      rw [hsz0]
      have e : ((xs.length * k.toNat : Nat) : Int) = (xs.length : Int) * k := by rw [Int.natCast_mul, Int.toNat_of_nonneg (by omega)]
      omega
    have c4 : Builtin.Tuple.tupleTooMany ((its.toArray.size : Int) * k) = false := by
      show decide ((its.toArray.size : Int) * k > (sizeLine : Nat)) = false
      rw [sizeLine_eq]
      exact decide_eq_false (by omega)
    refine wpAny_binaryOp_repeat_ref (by decide : (Value.type "tuple" == Value.type "int") = false) ⟨_, ho, rfl⟩ (fun s' => typeIs_int s' k t) noFill_tuple_mul F.fills_int_mul F.slot_int_rmul repeat_tuple F.slot_int_index.lookup
      (call_meets F.slot_int_rmul (typeIs_int s k t) F.entry_int_rmul (F.args_int_rmul_2 (Value.int k t) (Value.ref l)) (int_rmul_tuple k t l its.toArray n dd sl) ⟨ho, rfl, ⟨_, ho, rfl⟩,
        call_meets F.slot_tuple_mul ⟨_, ho, rfl⟩ F.entry_tuple_mul (F.args_tuple_mul_2 (Value.ref l) (Value.int k t)) (tuple_mulW l its.toArray n dd sl k t c0 c1 c2 (by omega) c4 (by rw [size_rep, List.size_toArray]; exact flen)) ⟨ho, ?_⟩⟩)
    rw [size_rep]
    exact ⟨V.ref s.heap.objs.size, upd H s.heap.objs.size (HO.tup (List.replicate k.toNat xs).flatten), I.laid (fun b ob z => Heap.get?_push_of_some _ z) (Nat.le_refl _) ⟨flen2, _, r.rep k.toNat, IsTup.new s.heap _⟩, rfl, q s.heap.objs.size (I.hok.fresh (Nat.le_refl _))⟩
def mulT : RD2 := fun x y S Q => ∃ xs k, x = .tup xs ∧ y = .int k ∧ xs ≠ [] ∧ xs.length * k.toNat ≤ 1000000 ∧ -1000000 ≤ k ∧ k ≤ 1000000 ∧ k ≠ 1 ∧ Q (.tup (List.replicate k.toNat xs).flatten) S
theorem od_mulT : OpR X (binaryOp .Mult) (l2 X.K mulT) := by
  intro pins s σ H v u vv uu Q I rv ru h'
  obtain ⟨N, x, y, S, Q', rx, ry, rs, ⟨xs, k, rfl, rfl, hne, hz, k1, k2, k3, q⟩, kk⟩ := h'
  obtain ⟨a, vs, rfl, e, r⟩ := rx.tup_
  refine op_repT2 pins s σ H _ _ _ _ Q I rv ru ⟨a, k, vs, rfl, ry.at_, e, fun z => hne (by subst z; cases xs with | nil => rfl | cons d ds => exact absurd r.length (by simp)), by rw [r.length]; exact hz, k1, k2, k3, fun p np => ?_⟩
  obtain ⟨r1, f1, le⟩ := rs.laid (o := .tup (List.replicate k.toNat vs).flatten) np
  exact kk _ S _ _ ⟨f1, r1⟩ (.of_tup upd_same ((rds_rep r k.toNat).le le)) q
/-! ### repr, of an empty dict, too -/
def repD2 : RDL := fun ds S Q => repD ds S Q ∨ ∃ p, ds = [.ref p] ∧ S p = some (.dk []) ∧ Q (.str "{}") S
theorem cd_repr2 {k : Nat} (hr : Rg k X.A) : CallR X (.builtin "repr") (lL X.K repD2) := by
  intro pins s σ H vs us Q I r hh
  obtain ⟨N, ds, S, Q', rd, rs, q, kk⟩ := hh
  rcases q with q | ⟨p, rfl, e, q⟩
  · exact cd_repr hr pins s σ H vs us Q I r ⟨N, ds, S, Q', rd, rs, q, kk⟩
  · obtain ⟨v, rfl, rx⟩ := rd.one'
    have ev := rx.at_
    subst ev
    obtain ⟨u, rfl, ru⟩ := Vals.one r
    cases ru
    obtain ⟨ks, h1, h2, _⟩ := rs.ob p _ e
    have hk : ks = [] := by cases ks with | nil => rfl | cons a b => simp at h2
    subst hk
    have hu := hr.r.un
    obtain ⟨_, hm, vs, kv, o, es, ep, g1, g2, g3, g4⟩ := I.hok p _ h1
    have hv : vs = [] := by cases kv; rfl
    subst hv
    have he : es.toList = [] := by
      have z := g4.2.1
      cases h : es.toList with
      | nil => rfl
      | cons a b => rw [h] at z; cases z
    have rr : Reads s.heap (.ref p) (.dict []) (p :: [] ++ []) := .dict g1 g2.1 g3 (by rw [he]; exact .nil) (by rw [he]; exact .nil)
    refine repr_of_reads' rr rfl (fun _ z => ?_) hr.g (by show X.A.units + 2 < cLine; omega) (fun _ _ e => e) (fun h' u tk hk => ⟨.str _, H, I.kept hk, ⟨u, rfl⟩, kk _ S _ H (.refl rs) (.of _) q⟩) (by decide)
    have z : sysModules = p := by simpa using z
    rw [z] at hm
    simp at hm
/-! ### str(i) -/
def strN : RDL := fun ds S Q => ∃ i, ds = [.int i] ∧ i.natAbs.log2 < 1920 ∧ Q (.str (Str.ofString (toString i))) S
theorem cd_strN : CallR X (.type "str") (lL X.K strN) := by
  intro pins s σ H vs us Q I r hh
  obtain ⟨N, ds, S, Q', rd, rs, ⟨i, rfl, hi, q⟩, kk⟩ := hh
  obtain ⟨v, rfl, rx⟩ := rd.one'
  exact call_str_int pins s σ H _ us Q I r ⟨i, by rw [rx.at_], hi, kk _ S _ H (.refl rs) (.of _) q⟩
/-! ### a, b, c = x, y, z -/
def dPar3 (i j l : Nat) (ta : TDA) : TDS := fun D δ S => ta δ S fun ds S1 => ∃ d e f, ds = [d, e, f] ∧ D.nx (((δ.set i (some d)).set j (some e)).set l (some f)) S1
theorem ds_par3 (i j l : Nat) {x y z : Str} {a b c : Expr} {ta : TDA} {px py pz pt pos : Pos} {kt k2 pt2} (hc : X.calm = true) (hN : X.N.Nodup) (ha : PA X [a, b, c] (lA X.K ta)) (hi : X.N[i]? = some x := by rfl) (hj : X.N[j]? = some y := by rfl) (hl : X.N[l]? = some z := by rfl) (hij : i ≠ j := by decide) (hil : i ≠ l := by decide) (hjl : j ≠ l := by decide)
    (hx : X.env.scope.names.lookup x = some .local := by rfl) (hy : X.env.scope.names.lookup y = some .local := by rfl) (hz : X.env.scope.names.lookup z = some .local := by rfl)
    (hw : swappedStores [.Tuple [.Name x px, .Name y py, .Name z pz] kt pt] (.Tuple [a, b, c] k2 pt2) X.env = pure (some [x, y, z]) := by rfl)
    (hs : swapsWithSole [.Tuple [.Name x px, .Name y py, .Name z pz] kt pt] (.Tuple [a, b, c] k2 pt2) pos.line X.env = pure false := by rfl) :
    PS X (.Assign [.Tuple [.Name x px, .Name y py, .Name z pz] kt pt] (.Tuple [a, b, c] k2 pt2) pos) (lS X.K (dPar3 i j l ta)) :=
  PS.wk (ps_par3 hc hN hi hj hl hij hil hjl hx hy hz ha hw hs) fun D σ H ⟨N, δ, S, D', re, rs, q, l⟩ => by
    refine ⟨N, δ, S, _, re, rs, q, fun ds S1 vs H1 b1 r1 q1 => ?_⟩
    obtain ⟨d, e, f, rfl, q1⟩ := q1
    obtain ⟨v, ws, rfl, ra, r2⟩ := r1.inv_cons
    obtain ⟨w, ws', rfl, rb, r3⟩ := r2.inv_cons
    obtain ⟨u, ws'', rfl, rc, r4⟩ := r3.inv_cons
    rw [r4.inv_nil]
    exact ⟨v, w, u, rfl, l.nx _ S1 _ H1 b1 ((((re.le (rs.le b1.fr)).set ra _).set rb _).set rc _) q1⟩
/-! ### an int of the module -/
def GI (mg : Str → Option Value) (x : Str) (i : Int) : Prop := ∃ t, mg x = some (.int i t)
theorem de_gi {x : Str} {i : Int} {pos : Pos} (g : GI X.mg x i) (hg : Gl X x := by rfl) (hd : (x == ("__debug__" : Str)) = false := by decide) : PE X (.Name x pos) (lE X.K (dC (.int i))) := by
  obtain ⟨t, m⟩ := g
  exact de_glob (v := .int i) hg m ⟨t, rfl⟩ (fun N H S => .of _) hd
end
end DL

/-! Data layer: data to be compared, of ints of any size; ends of lists. -/
namespace DL
open PySem L2 PyProof.Rows
structure Cm (k : Nat) (d : D) : Prop where
  p : pur d = true
  l : (toPy d).canLay0 = true
  k : (toPy d).depth ≤ k
structure Cms (k : Nat) (ds : List D) : Prop where
  p : purs ds = true
  l : PyData.canLayAll0 (toPys ds) = true
  k : PyData.depthAll (toPys ds) ≤ k
theorem Cm.of {k w : Nat} {d : D} (h : Sm k w d) : Cm k d := ⟨h.p, h.l, h.k⟩
theorem Cm.mono {k k' : Nat} {d : D} (h : Cm k d) (a : k ≤ k') : Cm k' d := ⟨h.p, h.l, Nat.le_trans h.k a⟩
theorem Cms.of {k : Nat} : ∀ {ds : List D}, (∀ d ∈ ds, Cm k d) → Cms k ds
  | [], _ => ⟨by unfold purs; rfl, by simp [toPys, PyData.canLayAll0], by simp [toPys, PyData.depthAll]⟩
  | d :: ds, h => by
    have a := h d List.mem_cons_self
    have b := Cms.of (ds := ds) fun x hx => h x (List.mem_cons_of_mem _ hx)
    refine ⟨by unfold purs; rw [a.p, b.p]; rfl, ?_, ?_⟩
    · unfold toPys; simp [PyData.canLayAll0, a.l, b.l]
    · unfold toPys; simp only [PyData.depthAll]; have := a.k; have := b.k; omega
theorem Cm.tup {k : Nat} {ds : List D} (h : ∀ d ∈ ds, Cm k d) : Cm (k + 1) (.tup ds) := by
  have b := Cms.of h
  refine ⟨by unfold pur; exact b.p, ?_, ?_⟩ <;> unfold toPy
  · simp only [PyData.canLay0]; exact b.l
  · simp only [PyData.depth]; have := b.k; omega
theorem Cm.fl {k : Nat} {ds : List D} (h : ∀ d ∈ ds, Cm k d) : Cm (k + 1) (.fl ds) := by
  have b := Cms.of h
  refine ⟨by unfold pur; exact b.p, ?_, ?_⟩ <;> unfold toPy
  · simp only [PyData.canLay0]; exact b.l
  · simp only [PyData.depth]; have := b.k; omega
theorem Cm.non {k : Nat} : Cm k .non := ⟨by unfold pur; rfl, by unfold toPy; rfl, by unfold toPy; exact Nat.zero_le _⟩
theorem Cm.bl {k : Nat} {b : Bool} : Cm k (.bl b) := ⟨by unfold pur; rfl, by unfold toPy; rfl, by unfold toPy; exact Nat.zero_le _⟩
theorem Cm.int {k : Nat} {i : Int} : Cm k (.int i) := ⟨by unfold pur; rfl, by unfold toPy; rfl, by unfold toPy; exact Nat.zero_le _⟩
theorem Cm.str {k : Nat} {z : Str} (h : PyData.strOk z = true) : Cm k (.str z) := ⟨by unfold pur; rfl, by unfold toPy; exact h, by unfold toPy; exact Nat.zero_le _⟩
theorem Cm.shaped {k : Nat} {d : D} (h : Cm k d) (hk : k ≤ 64 := by decide) : cmpOk d = true := by
  unfold cmpOk
  show (pur d && ((toPy d).canLay0 && decide ((toPy d).depth ≤ 64))) = true
  rw [h.p, h.l, decide_eq_true (Nat.le_trans h.k hk)]
  rfl
theorem cm1 {k : Nat} {a : D} (h : Cm k a) : ∀ d ∈ [a], Cm k d := fun d hd => by rw [List.mem_singleton.mp hd]; exact h
theorem cmc {k : Nat} {a : D} {l : List D} (h : Cm k a) (t : ∀ d ∈ l, Cm k d) : ∀ d ∈ a :: l, Cm k d := fun d hd => (List.mem_cons.mp hd).elim (fun e => e ▸ h) (t d)
theorem cm0 {k : Nat} : Cm (k + 1) (.fl []) := Cm.fl fun d hd => by cases hd
theorem ceq_of {neg : Bool} {x y : D} {S : Sto} {Q : KD} {k k' : Nat} (hx : Cm k x) (hy : Cm k' y) (q : Q (.bl (xor neg (PyData.eqv (toPy x) (toPy y)))) S) (hn : ∀ u, x ≠ .at u) (hk : k ≤ 64 := by decide) (hk' : k' ≤ 64 := by decide) : eqD neg x y S Q := by
  unfold eqD
  split
  all_goals first
    | exact absurd rfl (hn _)
    | skip
  rw [rsv_pur hx.p, rsv_pur hy.p]
  exact ⟨hx.shaped hk, hy.shaped hk', q⟩
/-- a list against the empty one -/
theorem eq_nil {neg : Bool} {xs : List D} {S : Sto} {Q : KD} {k : Nat} (h : ∀ d ∈ xs, Cm k d) (q : Q (.bl (xor neg xs.isEmpty)) S) (hk : k + 1 ≤ 64 := by decide) : eqD neg (.fl xs) (.fl []) S Q :=
  ceq_of (Cm.fl h) (cm0 (k := 0)) (by rw [eqv_nil]; exact q) (fun u e => nomatch e) hk
theorem eq_nilL {neg : Bool} {p : Addr} {xs : List D} {S : Sto} {Q : KD} {k : Nat} (e : S p = some (.lst xs)) (h : ∀ d ∈ xs, Cm k d) (q : Q (.bl (xor neg xs.isEmpty)) S) (hk : k + 1 ≤ 64 := by decide) : eqD neg (.ref p) (.fl []) S Q :=
  eq_l e ((Cm.fl h).shaped hk) ((cm0 (k := 0)).shaped) (by rw [eqv_nil]; exact q)
theorem ng {i : Int} {S : Sto} {Q : KD} (q : Q (.int (-i)) S) : negD (.int i) S Q := q
/-! ### a chain of two, as a test -/
section
variable {X : Cx}
theorem lift_chain {r r' : RD2} {ta tb tc : TDE} {σ : L2.St} {H : Hp} {Q : VK} (h : lE X.K (dChain r r' ta tb tc) σ H Q) : tChain (l2 X.K r) (l2 X.K r') (lE X.K ta) (lE X.K tb) (lE X.K tc) σ H Q := by
  obtain ⟨N, δ, S, Q', re, rs, q, k⟩ := h
  refine ⟨N, δ, S, _, re, rs, q, fun x S1 v H1 b1 rx q1 => ?_⟩
  refine ⟨N, δ, S1, _, re.le (rs.le b1.fr), b1.rs, q1, fun y S2 u H2 b2 ry q2 => ?_⟩
  refine ⟨N, x, y, S2, _, rx.le (b1.rs.le b2.fr), ry, b2.rs, q2, fun z S3 w H3 b3 rz q3 => ?_⟩
  obtain ⟨i, rfl, q3⟩ := q3
  refine ⟨i, rz.at_, ?_⟩
  have bb := (b1.trans b2).trans b3
  cases i with
  | true =>
    rw [if_pos rfl] at q3 ⊢
    refine ⟨N, δ, S3, _, re.le (rs.le bb.fr), b3.rs, q3, fun w' S4 x' H4 b4 rw' q4 => ?_⟩
    exact ⟨N, y, w', S4, Q', (ry.le (b2.rs.le b3.fr)).le (b3.rs.le b4.fr), rw', b4.rs, q4, fun d S' w2 H' b5 => k d S' w2 H' ((bb.trans b4).trans b5)⟩
  | false =>
    rw [if_neg Bool.false_ne_true] at q3 ⊢
    exact k _ S3 _ H3 bb (.of _) q3
theorem dt_chain {r r' : RD2} {ta tb tc : TDE} {a b c : Expr} {pos : Pos} {op op' : CmpOp} (ho : OpR X (compareOp op) (l2 X.K r)) (ho' : OpR X (compareOp op') (l2 X.K r')) (ha : PE X a (lE X.K ta)) (hb : PE X b (lE X.K tb)) (hc : PE X c (lE X.K tc)) (hm : lastMarks [op, op'] [b, c] = false := by first | rfl | decide) : PT X (.Compare a [op, op'] [b, c] pos) (lT X.K (dB (dChain r r' ta tb tc))) :=
  PT.wk (pt_chain ho ho' ha hb hc hm) fun σ H Q ⟨N, δ, S, Q', re, rs, q, k⟩ =>
    lift_chain (Q := fun x H' => ∃ k, x = .bl k ∧ Q k H') ⟨N, δ, S, _, re, rs, q, fun d S' v H' b rv ⟨c, e, q'⟩ => ⟨c, by subst e; exact rv.at_, k c S' H' b q'⟩⟩
end
/-! ### ends of lists -/
theorem ixN_z (n : Nat) : ixN (n + 1) (-1) = some n := by
  unfold ixN
  rw [if_neg (by omega), if_pos (by omega)]
  congr 1
  omega
theorem set_last {α : Type} (xs : List α) (x y : α) : (xs ++ [x]).set xs.length y = xs ++ [y] := by simp
theorem cut_init (xs : List D) : cutD xs none (some (-1)) = xs.dropLast := by
  unfold cutD
  rw [List.dropLast_eq_take]
  simp only [HT.sIx]
  cases xs with
  | nil => rfl
  | cons x xs => simp; congr 1; omega
theorem cut_last (xs : List D) : cutD xs (some (-1)) none = xs.getLast?.toList := by
  unfold cutD
  simp only [HT.sIx]
  rcases List.eq_nil_or_concat xs with rfl | ⟨q, x, e⟩
  · rfl
  · rw [List.concat_eq_append] at e
    subst e
    simp
    have e : (-1 + ((q.length : Int) + 1)).toNat = q.length := by omega
    rw [e, List.drop_left]
    have e2 : q.length + 1 - q.length = 1 := by omega
    rw [e2]
    rfl
end DL

namespace K19
open PySem L2 PyProof.Rows DL
/-! ### rows and programs, in plain Lean -/
inductive Rw where
  | copy (x y : Str)
  | none (x : Str)
  | num (x : Str) (n : Int)
  | sum (w x y z : Str)
  | read (x y f : Str)
  | inp (x : Option Str)
  | tell (y : Str)
  | ret (y : Str)
  | jump (t : Nat)
  | test (w y z : Str) (t : Nat)
  | isk (y k : Str) (t : Nat)
  | make (x k : Str) (ys : List Str)
  | call (x : Option Str) (p : Str) (ys : List Str)
def oD : Option Str → D
  | some x => .str x
  | none => .non
def ysD (ys : List Str) : D := .tup (ys.map D.str)
def Rw.h : Rw → Str
  | .copy _ _ => "copy"
  | .none _ => "none"
  | .num _ _ => "number"
  | .sum w _ _ _ => w
  | .read _ _ _ => "read"
  | .inp _ => "input"
  | .tell _ => "tell"
  | .ret _ => "return"
  | .jump _ => "jump"
  | .test w _ _ _ => w
  | .isk _ _ _ => "is"
  | .make _ _ _ => "make"
  | .call _ _ _ => "call"
def Rw.ps : Rw → List D
  | .copy x y => [.str x, .str y]
  | .none x => [.str x]
  | .num x n => [.str x, .int n]
  | .sum _ x y z => [.str x, .str y, .str z]
  | .read x y f => [.str x, .str y, .str f]
  | .inp x => [oD x]
  | .tell y => [.str y]
  | .ret y => [.str y]
  | .jump t => [.int t]
  | .test _ y z t => [.str y, .str z, .int t]
  | .isk y k t => [.str y, .str k, .int t]
  | .make x k ys => [.str x, .str k, ysD ys]
  | .call x p ys => [oD x, .str p, ysD ys]
def Rw.d (r : Rw) : D := .tup (.str r.h :: r.ps)
/-- its variables -/
def Rw.vs : Rw → List Str
  | .copy x y => [x, y]
  | .none x => [x]
  | .num x _ => [x]
  | .sum _ x y z => [x, y, z]
  | .read x y _ => [x, y]
  | .inp x => x.toList
  | .tell y => [y]
  | .ret y => [y]
  | .jump _ => []
  | .test _ y z _ => [y, z]
  | .isk y _ _ => [y]
  | .make x _ ys => x :: ys
  | .call x _ ys => x.toList ++ ys
def sums : List Str := ["plus", "minus", "times"]
def tst : List Str := ["less", "same", "is"]
def Sh (x : Str) : Prop := PyData.strOk x = true ∧ x.length ≤ 40
/-- a row of a procedure with n rows, in a program of some procedures -/
def Rw.Ok (n : Nat) (fs : List Str) : Rw → Prop
  | .sum w _ _ _ => w ∈ sums
  | .test w _ _ t => (w = "less" ∨ w = "same") ∧ t ≤ n
  | .jump t => t ≤ n
  | .isk _ _ t => t ≤ n
  | .make _ _ ys => ys.length ≤ 4
  | .call _ p ys => p ∈ fs ∧ ys.length ≤ 4
  | _ => True
/-- what it does with the places -/
inductive Kd where
  | ret
  | call (p : Str)
  | jump (t : Nat)
  | test (t : Nat)
  | oth
def Rw.k : Rw → Kd
  | .ret _ => .ret
  | .call _ p _ => .call p
  | .jump t => .jump t
  | .test _ _ _ t => .test t
  | .isk _ _ t => .test t
  | _ => .oth
theorem rw_sh {n : Nat} {fs : List Str} {r : Rw} (ok : r.Ok n fs) : Sh r.h := by
  have h : ∀ x ∈ (["copy", "none", "number", "plus", "minus", "times", "read", "input", "tell", "return", "jump", "less", "same", "is", "make", "call"] : List Str), PyData.strOk x = true ∧ x.length ≤ 40 := by decide +kernel
  refine h _ ?_
  cases r with
  | sum w x y z =>
    have h' : w ∈ sums := ok
    simp only [sums, List.mem_cons, List.not_mem_nil, or_false] at h'
    rcases h' with rfl | rfl | rfl <;> simp [Rw.h]
  | test w y z t =>
    obtain ⟨h', _⟩ := ok
    rcases h' with rfl | rfl <;> simp [Rw.h]
  | _ => simp [Rw.h]
theorem rw_kind {n : Nat} {fs : List Str} {r : Rw} (ok : r.Ok n fs) : (r.k = .ret ∧ r.h = "return") ∨ (∃ p, r.k = .call p ∧ r.h = "call" ∧ r.ps[1]? = some (.str p) ∧ p ∈ fs) ∨ (∃ t, r.k = .jump t ∧ r.h = "jump" ∧ r.ps[0]? = some (.int (t : Nat)) ∧ t ≤ n) ∨
    (∃ t, r.k = .test t ∧ r.h ∈ tst ∧ r.ps[2]? = some (.int (t : Nat)) ∧ t ≤ n) ∨ (r.k = .oth ∧ r.h ≠ "return" ∧ r.h ≠ "call" ∧ r.h ≠ "jump" ∧ r.h ∉ tst) := by
  have f : ∀ x ∈ (["copy", "none", "number", "plus", "minus", "times", "read", "input", "tell", "make"] : List Str), x ≠ "return" ∧ x ≠ "call" ∧ x ≠ "jump" ∧ x ∉ tst := by decide +kernel
  cases r with
  | ret y => exact .inl ⟨rfl, rfl⟩
  | call x p ys => exact .inr (.inl ⟨p, rfl, rfl, rfl, ok.1⟩)
  | jump t => exact .inr (.inr (.inl ⟨t, rfl, rfl, rfl, ok⟩))
  | test w y z t =>
    obtain ⟨h', ht⟩ := ok
    have hw : w ∈ tst := by rcases h' with rfl | rfl <;> decide +kernel
    exact .inr (.inr (.inr (.inl ⟨t, rfl, hw, rfl, ht⟩)))
  | isk y k t => exact .inr (.inr (.inr (.inl ⟨t, rfl, by show ("is" : Str) ∈ _; decide +kernel, rfl, ok⟩)))
  | sum w x y z =>
    have h' : w ∈ sums := ok
    simp only [sums, List.mem_cons, List.not_mem_nil, or_false] at h'
    refine .inr (.inr (.inr (.inr ⟨rfl, f w ?_⟩)))
    rcases h' with rfl | rfl | rfl <;> simp
  | copy x y => exact .inr (.inr (.inr (.inr ⟨rfl, f "copy" (by simp)⟩)))
  | none x => exact .inr (.inr (.inr (.inr ⟨rfl, f "none" (by simp)⟩)))
  | num x y => exact .inr (.inr (.inr (.inr ⟨rfl, f "number" (by simp)⟩)))
  | read x y z => exact .inr (.inr (.inr (.inr ⟨rfl, f "read" (by simp)⟩)))
  | inp x => exact .inr (.inr (.inr (.inr ⟨rfl, f "input" (by simp)⟩)))
  | tell x => exact .inr (.inr (.inr (.inr ⟨rfl, f "tell" (by simp)⟩)))
  | make x k ys => exact .inr (.inr (.inr (.inr ⟨rfl, f "make" (by simp)⟩)))
theorem kd_excl {n : Nat} {fs : List Str} {r : Rw} (ok : r.Ok n fs) : (r.h = "call" → ∃ p, r.k = .call p) ∧ (r.h = "jump" → ∃ t, r.k = .jump t) ∧ (r.h = "return" → r.k = .ret) ∧ (r.h ∈ tst → ∃ t, r.k = .test t) := by
  have g : ∀ x ∈ tst, x ≠ "return" ∧ x ≠ "call" ∧ x ≠ "jump" := by decide +kernel
  have c1 : ("return" : Str) ≠ "call" ∧ ("return" : Str) ≠ "jump" ∧ ("return" : Str) ∉ tst ∧ ("call" : Str) ≠ "jump" ∧ ("call" : Str) ∉ tst ∧ ("jump" : Str) ∉ tst := by decide +kernel
  obtain ⟨c1, c2, c3, c4, c5, c6⟩ := c1
  rcases rw_kind ok with ⟨a, b⟩ | ⟨p, a, b, _⟩ | ⟨t, a, b, _⟩ | ⟨t, a, b, _⟩ | ⟨a, b1, b2, b3, b4⟩
  · rw [b]
    exact ⟨fun e => absurd e c1, fun e => absurd e c2, fun _ => a, fun e => absurd e c3⟩
  · rw [b]
    exact ⟨fun _ => ⟨p, a⟩, fun e => absurd e c4, fun e => absurd e.symm c1, fun e => absurd e c5⟩
  · rw [b]
    exact ⟨fun e => absurd e.symm c4, fun _ => ⟨t, a⟩, fun e => absurd e.symm c2, fun e => absurd e c6⟩
  · exact ⟨fun e => absurd e (g _ b).2.1, fun e => absurd e (g _ b).2.2, fun e => absurd e (g _ b).1, fun _ => ⟨t, a⟩⟩
  · exact ⟨fun e => absurd e b2, fun e => absurd e b3, fun e => absurd e b1, fun e => absurd e b4⟩
/-! ### programs -/
abbrev Pc := Str × List Str × List Rw
def rwsD (rs : List Rw) : D := .tup (rs.map Rw.d)
def vars (ps : List Str) (rs : List Rw) : List Str := ps ++ rs.flatMap Rw.vs
def pcD (p : Pc) : D := .tup [.str p.1, ysD p.2.1, rwsD p.2.2]
def prD (ks : D) (ps : List Pc) : D := .tup [ks, .tup (ps.map pcD)]
/-- the first one with a name -/
def pcOf (ps : List Pc) (x : Str) : Option Pc := (ps.filter fun p => decide (p.1 = x))[0]?
theorem pcOf_ex {ps : List Pc} {x : Str} (h : x ∈ ps.map (·.1)) : ∃ p, pcOf ps x = some p ∧ p ∈ ps := by
  obtain ⟨p, hp, rfl⟩ := List.mem_map.mp h
  have hm : p ∈ ps.filter fun q => decide (q.1 = p.1) := List.mem_filter.mpr ⟨hp, by simp⟩
  unfold pcOf
  cases e : ps.filter fun q => decide (q.1 = p.1) with
  | nil => rw [e] at hm; cases hm
  | cons q r => exact ⟨q, rfl, (List.mem_filter.mp (by rw [e]; exact List.mem_cons_self : q ∈ ps.filter _)).1⟩
structure PcOk (fs : List Str) (p : Pc) : Prop where
  pl : p.2.1.length ≤ 4
  rl : p.2.2.length ≤ 20
  ok : ∀ r ∈ p.2.2, r.Ok p.2.2.length fs
structure PrOk (ps : List Pc) : Prop where
  l : ps.length ≤ 6
  m : ("main" : Str) ∈ ps.map (·.1)
  sh : ∀ x ∈ ps.map (·.1), Sh x
  p : ∀ p ∈ ps, PcOk (ps.map (·.1)) p
/-- the rows of a procedure -/
def rowsOf (ps : List Pc) (x : Str) : List Rw := ((pcOf ps x).map (·.2.2)).getD []
theorem rowsOf_ok {ps : List Pc} (ok : PrOk ps) {x : Str} (h : x ∈ ps.map (·.1)) : ∃ p, pcOf ps x = some p ∧ rowsOf ps x = p.2.2 ∧ PcOk (ps.map (·.1)) p := by
  obtain ⟨p, h1, h2⟩ := pcOf_ex h
  exact ⟨p, h1, by unfold rowsOf; rw [h1]; rfl, ok.p p h2⟩
/-! ### places along a way, the top one last -/
abbrev Pl := List (Str × Nat)
def bump (q : Pl) : Pl := match q.getLast? with
  | none => []
  | some (n, i) => q.dropLast ++ [(n, i + 1)]
def stepP (ps : List Pc) (pl : Pl) (o : Bool) : Pl := match pl.getLast? with
  | none => []
  | some (n, i) => match (rowsOf ps n)[i]? with
    | none => bump pl.dropLast
    | some r => match r.k with
      | .ret => bump pl.dropLast
      | .call p => pl ++ [(p, 0)]
      | .jump t => pl.dropLast ++ [(n, t)]
      | .test t => pl.dropLast ++ [(n, if o then t else i + 1)]
      | .oth => pl.dropLast ++ [(n, i + 1)]
def isT (ps : List Pc) (pl : Pl) : Bool := match pl.getLast? with
  | none => false
  | some (n, i) => match (rowsOf ps n)[i]? with
    | none => false
    | some r => match r.k with
      | .test _ => true
      | _ => false
/-- each place is one of the program, each but the top one is ahead of the end -/
def PlOk (ps : List Pc) (pl : Pl) : Prop := ∀ (j : Nat) (n : Str) (i : Nat), pl[j]? = some (n, i) → n ∈ ps.map (·.1) ∧ i ≤ (rowsOf ps n).length ∧ (j + 1 < pl.length → i < (rowsOf ps n).length)
theorem PlOk.nil {ps : List Pc} : PlOk ps [] := fun j n i h => by simp at h
theorem PlOk.snoc {ps : List Pc} {q : Pl} {n : Str} {i : Nat} (h : PlOk ps q) (hl : ∀ m k, q.getLast? = some (m, k) → k < (rowsOf ps m).length) (hn : n ∈ ps.map (·.1)) (hi : i ≤ (rowsOf ps n).length) : PlOk ps (q ++ [(n, i)]) := by
  intro j m k e
  by_cases hj : j < q.length
  · rw [List.getElem?_append_left hj] at e
    obtain ⟨a, b, c⟩ := h j m k e
    refine ⟨a, b, fun _ => ?_⟩
    by_cases h2 : j + 1 < q.length
    · exact c h2
    · refine hl m k ?_
      rw [List.getLast?_eq_getElem?, show q.length - 1 = j by omega]
      exact e
  · rw [List.getElem?_append_right (by omega)] at e
    have : j - q.length = 0 := by
      have := (List.getElem?_eq_some_iff.mp e).1
      simp at this
      omega
    rw [this] at e
    cases e
    exact ⟨hn, hi, fun z => by rw [List.length_append, List.length_singleton] at z; omega⟩
theorem PlOk.init {ps : List Pc} {q : Pl} {n : Str} {i : Nat} (h : PlOk ps (q ++ [(n, i)])) : PlOk ps q ∧ (∀ m k, q.getLast? = some (m, k) → k < (rowsOf ps m).length) ∧ n ∈ ps.map (·.1) ∧ i ≤ (rowsOf ps n).length := by
  have ht := h q.length n i (by rw [List.getElem?_append_right (Nat.le_refl _), Nat.sub_self]; rfl)
  refine ⟨fun j m k e => ?_, fun m k e => ?_, ht.1, ht.2.1⟩
  · have hj := (List.getElem?_eq_some_iff.mp e).1
    obtain ⟨a, b, c⟩ := h j m k (by rw [List.getElem?_append_left hj]; exact e)
    exact ⟨a, b, fun z => c (by rw [List.length_append]; omega)⟩
  · rw [List.getLast?_eq_getElem?] at e
    have hj := (List.getElem?_eq_some_iff.mp e).1
    obtain ⟨a, b, c⟩ := h _ m k (by rw [List.getElem?_append_left hj]; exact e)
    exact c (by rw [List.length_append, List.length_singleton]; omega)
theorem last_snoc {α : Type} (q : List α) (x : α) : (q ++ [x]).getLast? = some x := by simp
theorem bump_ok {ps : List Pc} {q : Pl} (h : PlOk ps q) (hl : ∀ m k, q.getLast? = some (m, k) → k < (rowsOf ps m).length) : PlOk ps (bump q) := by
  rcases List.eq_nil_or_concat q with rfl | ⟨q', ⟨n, i⟩, e⟩
  · exact .nil
  · rw [List.concat_eq_append] at e
    subst e
    unfold bump
    rw [last_snoc]
    dsimp only
    rw [List.dropLast_concat]
    obtain ⟨a, b, c, d⟩ := h.init
    exact a.snoc b c (hl n i (last_snoc _ _))
theorem step_ok {ps : List Pc} (ok : PrOk ps) {pl : Pl} (h : PlOk ps pl) (o : Bool) : PlOk ps (stepP ps pl o) := by
  rcases List.eq_nil_or_concat pl with rfl | ⟨q, ⟨n, i⟩, e⟩
  · exact .nil
  · rw [List.concat_eq_append] at e
    subst e
    obtain ⟨a, b, c, d⟩ := h.init
    unfold stepP
    rw [last_snoc]
    dsimp only
    rw [List.dropLast_concat]
    cases hr : (rowsOf ps n)[i]? with
    | none => exact bump_ok a b
    | some r =>
      have hi := (List.getElem?_eq_some_iff.mp hr).1
      obtain ⟨p, h1, h2, h3⟩ := rowsOf_ok ok c
      have okr := h3.ok r (by rw [← h2]; exact List.mem_of_getElem? hr)
      rw [← h2] at okr
      dsimp only
      rcases rw_kind okr with ⟨e, _⟩ | ⟨p', e, _, _, e2⟩ | ⟨t, e, _, _, e2⟩ | ⟨t, e, _, _, e2⟩ | ⟨e, _⟩ <;> rw [e] <;> dsimp only
      · exact bump_ok a b
      · refine h.snoc (fun m k z => ?_) e2 (Nat.zero_le _)
        rw [last_snoc] at z
        cases z
        exact hi
      · exact a.snoc b c e2
      · refine a.snoc b c ?_
        split
        · exact e2
        · exact hi
      · exact a.snoc b c hi
/-- the outcomes left behind so many steps; none if there is none to be made -/
def runT (ps : List Pc) : Nat → Pl → List Bool → Option (List Bool)
  | 0, _, os => some os
  | n + 1, pl, os => if pl = [] then none else if isT ps pl = true then (match os with
    | [] => none
    | o :: os' => runT ps n (stepP ps pl o) os') else runT ps n (stepP ps pl false) os
theorem step_irr {ps : List Pc} {pl : Pl} (h : isT ps pl = false) (o : Bool) : stepP ps pl o = stepP ps pl false := by
  unfold isT at h
  unfold stepP
  split
  · rfl
  · rename_i n i e
    rw [e] at h
    dsimp only at h
    split
    · rfl
    · rename_i r hr
      rw [hr] at h
      dsimp only at h
      split <;> first | rfl | skip
      rename_i t ht
      rw [ht] at h
      cases h
/-! ### values -/
inductive Vl : D → Prop
  | non : Vl .non
  | bl (b : Bool) : Vl (.bl b)
  | int (i : Int) : Vl (.int i)
  | str (z : Str) : Vl (.str z)
  | tup (ds : List D) (h : ∀ d ∈ ds, Vl d) : Vl (.tup ds)
  | fl (ds : List D) (h : ∀ d ∈ ds, Vl d) : Vl (.fl ds)
def AnyD (S : Sto) (d : D) : Prop := Vl d ∨ ∃ p, d = .ref p ∧ S p = some (.dk [])
def isI : D → Bool
  | .at (.int _) => true
  | _ => false
def isB : D → Bool
  | .at (.bl _) => true
  | _ => false
def isTp : D → Bool
  | .tup _ => true
  | _ => false
theorem any_ty {S : Sto} {d : D} (h : AnyD S d) : ∃ t, tyN S d = some t ∧ kis t "tuple" = isTp d ∧ kis t "int" = (isI d || isB d) ∧ kis t "bool" = isB d := by
  rcases h with h | ⟨p, rfl, e⟩
  · cases h with
    | non => exact ⟨_, rfl, by simp [kis, isTp], by simp [kis, isI, isB], by simp [kis, isB]⟩
    | bl b => exact ⟨_, rfl, by simp [kis, isTp], by simp [kis, isI, isB], by simp [kis, isB]⟩
    | int i => exact ⟨_, rfl, by simp [kis, isTp], by simp [kis, isI, isB], by simp [kis, isB]⟩
    | str z => exact ⟨_, rfl, by simp [kis, isTp], by simp [kis, isI, isB], by simp [kis, isB]⟩
    | tup ds h => exact ⟨_, rfl, by simp [kis, isTp], by simp [kis, isI, isB], by simp [kis, isB]⟩
    | fl ds h => exact ⟨_, rfl, by simp [kis, isTp], by simp [kis, isI, isB], by simp [kis, isB]⟩
  · exact ⟨"dict", by unfold tyN; dsimp only; rw [e], by simp [kis, isTp], by simp [kis, isI, isB], by simp [kis, isB]⟩
theorem tp_of {S : Sto} {d : D} (h : AnyD S d) (e : isTp d = true) : ∃ ds, d = .tup ds ∧ ∀ x ∈ ds, Vl x := by
  rcases h with h | ⟨p, rfl, _⟩
  · cases h <;> first | exact ⟨_, rfl, by assumption⟩ | cases e
  · cases e
theorem i_of {d : D} (h : Vl d) (e : isI d = true) : ∃ i, d = .int i := by
  cases h <;> first | exact ⟨_, rfl⟩ | cases e
theorem b_of' {d : D} (h : Vl d) (e : isB d = true) : ∃ b, d = .bl b := by
  cases h <;> first | exact ⟨_, rfl⟩ | cases e
def bOf : D → Bool
  | .at (.bl b) => b
  | _ => false
theorem bs_of : ∀ {ds : List D}, (∀ d ∈ ds, Vl d) → ds.all isB = true → ds = (ds.map bOf).map D.bl
  | [], _, _ => rfl
  | d :: ds, h, e => by
    rw [List.all_cons, Bool.and_eq_true] at e
    obtain ⟨b, rfl⟩ := b_of' (h d List.mem_cons_self) e.1
    rw [List.map_cons, List.map_cons, ← bs_of (fun x hx => h x (List.mem_cons_of_mem _ hx)) e.2]
    rfl
/-- steps and outcomes of what has the form of a way -/
def formD : D → Option (Int × List Bool)
  | .tup [.at (.int i), .tup bs] => if 0 ≤ i ∧ i ≤ 3000 ∧ bs.all isB = true then some (i, bs.map bOf) else none
  | _ => none
def wayD (ps : List Pc) (pl : Pl) (d : D) : Bool := match formD d with
  | none => false
  | some (i, os) => decide (runT ps i.toNat pl os = some [])
/-! ### frames -/
abbrev Fm := Str × Nat × D
def fmD (f : Fm) : D := .tup [.str f.1, .int (f.2.1 : Nat), f.2.2]
def plOf (fs : List Fm) : Pl := fs.map fun f => (f.1, f.2.1)
def plD (x : Str × Nat) : D := .tup [.str x.1, .int (x.2 : Nat)]
def stD (fs : List Fm) (c m : D) : D := .tup [.tup (fs.map fmD), c, m]
end K19


namespace K19
open PySem L2 PyProof.Rows DL
def top (i : Nat) : Stmt := PySem.Challenge.pw_reinways_k19_ways_of_any_value.main.body.getD i (.Pass ⟨0, 0, 0, 0⟩)
abbrev s_is_integer : Stmt := top 1
abbrev s_procedure_of : Stmt := top 4
abbrev s_row_at : Stmt := top 6
abbrev s_branch : Stmt := top 7
abbrev s_Walk_init : Stmt := inClass (top 8) 0
abbrev s_Walk_move : Stmt := inClass (top 8) 1
abbrev s_Walk_leave : Stmt := inClass (top 8) 2
abbrev s_Walk_onward : Stmt := inClass (top 8) 3
abbrev s_has_form : Stmt := top 11
abbrev s_is_way : Stmt := top 12
abbrev s__law_deck : Stmt := top 14
abbrev s__law_draw : Stmt := top 15
abbrev s__law_pick : Stmt := top 16
abbrev s__law_kinds : Stmt := top 17
abbrev s__law_plain_row : Stmt := top 18
abbrev s__law_row : Stmt := top 19
abbrev s__law_code : Stmt := top 20
abbrev s__law_named : Stmt := top 21
abbrev s__law_in_row : Stmt := top 22
abbrev s__law_variables : Stmt := top 23
abbrev s__law_value : Stmt := top 24
abbrev s__law_cells : Stmt := top 25
abbrev s__law_calls : Stmt := top 26
abbrev s__law_moment : Stmt := top 27
abbrev s__law_is_test : Stmt := top 28
abbrev s__law_onward : Stmt := top 29
abbrev s__law_trip : Stmt := top 30
abbrev s__law_is_trip : Stmt := top 31
abbrev s__law_bent : Stmt := top 32
abbrev s__law_judged_right : Stmt := top 33
abbrev s__law_ring : Stmt := top 34
abbrev s__law_rings_right : Stmt := top 35
abbrev s_law : Stmt := top 36
structure Tc_Walk (K : PySem.W.Frag) (C : Addr) : Prop where
  cl : Cls K C
  n_program : NoAttr K C "program"
  n_places : NoAttr K C "places"
  n_outcomes : NoAttr K C "outcomes"
  n_passed : NoAttr K C "passed"
theorem sc_is_integer : FnScope ["thing"] ["thing"] (defScope s_is_integer) := ⟨rfl, rfl, rfl, by decide +kernel, rfl, by decide +kernel, by decide +kernel⟩
theorem sc_procedure_of : FnScope ["program", "name", "procedure"] ["program", "name"] (defScope s_procedure_of) := ⟨rfl, rfl, rfl, by decide +kernel, rfl, by decide +kernel, by decide +kernel⟩
theorem sc_row_at : FnScope ["program", "procedure", "index", "rows"] ["program", "procedure", "index"] (defScope s_row_at) := ⟨rfl, rfl, rfl, by decide +kernel, rfl, by decide +kernel, by decide +kernel⟩
theorem sc_branch : FnScope ["row", "index", "outcome"] ["row", "index", "outcome"] (defScope s_branch) := ⟨rfl, rfl, rfl, by decide +kernel, rfl, by decide +kernel, by decide +kernel⟩
theorem sc_Walk_init : FnScope ["self", "program", "state", "outcomes", "name", "index", "variables"] ["self", "program", "state", "outcomes"] (defScope s_Walk_init) := ⟨rfl, rfl, rfl, by decide +kernel, rfl, by decide +kernel, by decide +kernel⟩
theorem sc_Walk_move : FnScope ["self", "index"] ["self", "index"] (defScope s_Walk_move) := ⟨rfl, rfl, rfl, by decide +kernel, rfl, by decide +kernel, by decide +kernel⟩
theorem sc_Walk_leave : FnScope ["self"] ["self"] (defScope s_Walk_leave) := ⟨rfl, rfl, rfl, by decide +kernel, rfl, by decide +kernel, by decide +kernel⟩
theorem sc_Walk_onward : FnScope ["self", "name", "index", "row"] ["self"] (defScope s_Walk_onward) := ⟨rfl, rfl, rfl, by decide +kernel, rfl, by decide +kernel, by decide +kernel⟩
theorem sc_has_form : FnScope ["thing", "outcome"] ["thing"] (defScope s_has_form) := ⟨rfl, rfl, rfl, by decide +kernel, rfl, by decide +kernel, by decide +kernel⟩
theorem sc_is_way : FnScope ["program", "state", "thing", "walk", "turn"] ["program", "state", "thing"] (defScope s_is_way) := ⟨rfl, rfl, rfl, by decide +kernel, rfl, by decide +kernel, by decide +kernel⟩
theorem sc__law_deck : FnScope ["script", "cells", "mixed", "cell"] ["script"] (defScope s__law_deck) := ⟨rfl, rfl, rfl, by decide +kernel, rfl, by decide +kernel, by decide +kernel⟩
theorem sc__law_draw : FnScope ["deck", "count", "number", "cell"] ["deck", "count"] (defScope s__law_draw) := ⟨rfl, rfl, rfl, by decide +kernel, rfl, by decide +kernel, by decide +kernel⟩
theorem sc__law_pick : FnScope ["deck", "some"] ["deck", "some"] (defScope s__law_pick) := ⟨rfl, rfl, rfl, by decide +kernel, rfl, by decide +kernel, by decide +kernel⟩
theorem sc__law_kinds : FnScope ["deck", "fields", "names", "found", "k", "at", "step", "j"] ["deck"] (defScope s__law_kinds) := ⟨rfl, rfl, rfl, by decide +kernel, rfl, by decide +kernel, by decide +kernel⟩
theorem sc__law_plain_row : FnScope ["deck", "names", "size", "word", "x", "y", "z", "k", "many"] ["deck", "names", "size"] (defScope s__law_plain_row) := ⟨rfl, rfl, rfl, by decide +kernel, rfl, by decide +kernel, by decide +kernel⟩
theorem sc__law_row : FnScope ["deck", "kinds", "heads", "names", "size", "word", "x", "y", "z", "k", "called", "one", "kind", "field", "what"] ["deck", "kinds", "heads", "names", "size"] (defScope s__law_row) := ⟨rfl, rfl, rfl, by decide +kernel, rfl, by decide +kernel, by decide +kernel⟩
theorem sc__law_code : FnScope ["deck", "kinds", "heads", "found", "name", "handed", "names", "size", "k"] ["deck"] (defScope s__law_code) := ⟨rfl, rfl, rfl, by decide +kernel, rfl, by decide +kernel, by decide +kernel⟩
theorem sc__law_named : FnScope ["code", "name", "one"] ["code", "name"] (defScope s__law_named) := ⟨rfl, rfl, rfl, by decide +kernel, rfl, by decide +kernel, by decide +kernel⟩
theorem sc__law_in_row : FnScope ["row", "many"] ["row"] (defScope s__law_in_row) := ⟨rfl, rfl, rfl, by decide +kernel, rfl, by decide +kernel, by decide +kernel⟩
theorem sc__law_variables : FnScope ["code", "name", "procedure", "found", "row"] ["code", "name"] (defScope s__law_variables) := ⟨rfl, rfl, rfl, by decide +kernel, rfl, by decide +kernel, by decide +kernel⟩
theorem sc__law_value : FnScope ["deck", "cells"] ["deck", "cells"] (defScope s__law_value) := ⟨rfl, rfl, rfl, by decide +kernel, rfl, by decide +kernel, by decide +kernel⟩
theorem sc__law_cells : FnScope ["deck", "kinds", "found", "number", "k", "kind", "some", "field"] ["deck", "kinds"] (defScope s__law_cells) := ⟨rfl, rfl, rfl, by decide +kernel, rfl, by decide +kernel, by decide +kernel⟩
theorem sc__law_calls : FnScope ["code", "name", "rows", "at"] ["code", "name"] (defScope s__law_calls) := ⟨rfl, rfl, rfl, by decide +kernel, rfl, by decide +kernel, by decide +kernel⟩
theorem sc__law_moment : FnScope ["deck", "code", "cells", "places", "name", "at", "other", "frames", "one"] ["deck", "code"] (defScope s__law_moment) := ⟨rfl, rfl, rfl, by decide +kernel, rfl, by decide +kernel, by decide +kernel⟩
theorem sc__law_is_test : FnScope ["code", "places", "name", "at", "rows"] ["code", "places"] (defScope s__law_is_test) := ⟨rfl, rfl, rfl, by decide +kernel, rfl, by decide +kernel, by decide +kernel⟩
theorem sc__law_onward : FnScope ["code", "places", "outcome", "name", "at", "rows", "rest", "one", "k", "row"] ["code", "places", "outcome"] (defScope s__law_onward) := ⟨rfl, rfl, rfl, by decide +kernel, rfl, by decide +kernel, by decide +kernel⟩
theorem sc__law_trip : FnScope ["deck", "code", "moment", "count", "places", "outcomes", "steps", "frame", "outcome"] ["deck", "code", "moment", "count"] (defScope s__law_trip) := ⟨rfl, rfl, rfl, by decide +kernel, rfl, by decide +kernel, by decide +kernel⟩
theorem sc__law_is_trip : FnScope ["code", "moment", "it", "one", "places", "left", "frame", "turn"] ["code", "moment", "it"] (defScope s__law_is_trip) := ⟨rfl, rfl, rfl, by decide +kernel, rfl, by decide +kernel, by decide +kernel⟩
theorem sc__law_bent : FnScope ["deck", "trip", "steps", "outcomes", "found", "at", "other"] ["deck", "trip"] (defScope s__law_bent) := ⟨rfl, rfl, rfl, by decide +kernel, rfl, by decide +kernel, by decide +kernel⟩
theorem sc__law_judged_right : FnScope ["code", "moment", "it", "kept", "due", "told"] ["code", "moment", "it"] (defScope s__law_judged_right) := ⟨rfl, rfl, rfl, by decide +kernel, rfl, by decide +kernel, by decide +kernel⟩
theorem sc__law_ring : FnScope ["deck", "way", "rows", "call"] ["deck"] (defScope s__law_ring) := ⟨rfl, rfl, rfl, by decide +kernel, rfl, by decide +kernel, by decide +kernel⟩
theorem sc__law_rings_right : FnScope ["deck", "code", "share", "spots", "name", "moment", "told", "many"] ["deck"] (defScope s__law_rings_right) := ⟨rfl, rfl, rfl, by decide +kernel, rfl, by decide +kernel, by decide +kernel⟩
theorem sc_law : FnScope ["script", "deck", "turn", "code", "moment", "trip", "it"] ["script"] (defScope s_law) := ⟨rfl, rfl, rfl, by decide +kernel, rfl, by decide +kernel, by decide +kernel⟩
theorem kw_is_way_program_state_thing : KwOk s_is_way "is_way" ["program", "state", "thing"] ["program", "state", "thing"] 0 [0, 1, 2] := fun _ _ _ _ _ _ us ws h1 h2 => match us, ws, h1, h2 with | [], [_, _, _], _, _ => rfl
structure Txt (K : PySem.W.Frag) (mg : Str → Option Value) : Prop where
  nb_all : mg "all" = none
  nb_bool : mg "bool" = none
  nb_int : mg "int" = none
  nb_isinstance : mg "isinstance" = none
  nb_len : mg "len" = none
  nb_list : mg "list" = none
  nb_range : mg "range" = none
  nb_repr : mg "repr" = none
  nb_set : mg "set" = none
  nb_sorted : mg "sorted" = none
  nb_str : mg "str" = none
  nb_tuple : mg "tuple" = none
  g_MOST_STEPS : GI mg "MOST_STEPS" 3000
  g_TESTS : GT K mg "TESTS" [.str "less", .str "same", .str "is"]
/-! ### small defs -/
theorem ib {d : D} (h : isI d = true) : isB d = false := by
  unfold isI at h
  split at h
  · rfl
  · cases h
theorem rw_test {r : Rw} {t : Nat} (h : r.k = .test t) : (D.str r.h :: r.ps)[3]? = some (.int (t : Nat)) := by
  cases r <;> cases h <;> rfl
theorem rw_jump {r : Rw} {t : Nat} (h : r.k = .jump t) : (D.str r.h :: r.ps)[1]? = some (.int (t : Nat)) := by
  cases r <;> cases h <;> rfl
theorem rw_call {r : Rw} {p : Str} (h : r.k = .call p) : (D.str r.h :: r.ps)[2]? = some (.str p) := by
  cases r <;> cases h <;> rfl
def sp_is_integer : SpD := fun ds S Q _ => ∃ d, ds = [d] ∧ AnyD S d ∧ Q (.bl (isI d)) S
theorem ok_is_integer {P : Program} {w : World} {K : PySem.W.Frag} {mg : Str → Option Value} {base : Heap} (T : Txt K mg)  {ff : Addr} {fd : FuncData} (F : Fun K "is_integer" "is_integer" s_is_integer ff fd) (mf : mg "is_integer" = some (.ref ff)) : Cal P w K mg base 1 "is_integer" s_is_integer ["thing"] sp_is_integer := by
  refine ⟨ff, fd, okD F sc_is_integer (fun ds S Q E h => ?len) (fun cdv A outer s H E ds S Q E' hcd hr h => ⟨_, (dss_one (ds_ret (de_and (de_isi (tn := "int") (by rfl) T.nb_isinstance (by rfl) T.nb_int (de_var 0)) (de_one (de_not (de_isi (tn := "bool") (by rfl) T.nb_isinstance (by rfl) T.nb_bool (de_var 0))))))), ?run⟩), F.binds (ps := ["thing"]) fun _ _ _ _ _ _ us hl => match us, hl with | [_], _ => rfl, mf, F⟩
  case len => obtain ⟨d, rfl, _⟩ := h; rfl
  case run =>
    obtain ⟨d, rfl, hd, q⟩ := h
    simp only [dVar, dC, dOp, dUn, dChain, dTr, dB, dAnd, dOr, dNot, dIf, dAndV, dOrV, dNotV, dNil, dCons, dTup, dLst, dLf, dNext, dSeq, dBreak, dCont, dDrop, dRet, dRetN, dIfS, gdName, gdNil, gdCons, gdTup, gdSub, dAsg, dPar, dCall, dCallK, dCB, dM0, dM, dGet1, dGet2, dDk, dDt, dPart, dNoPart, dSlice, dAug, dYes, dSort2, revD, iTupD, iLstD, iLf, iLw, iRange1, iRange2, iRange3, iEnumD, iZipD, iZipMD, iStrD, dGix, dDc, dIsi, dSortSet, dLenSet, dDlit, gdLst, dFor, dWhile, dLc, dLcM, dFld, dFldSet, dFldAdd, dMeth, dMake, dPar3, dCut, dTcut, wipeD, bodyE, startD, List.map_cons, List.map_nil, List.length_cons, List.length_nil, List.replicate_succ, List.replicate_zero, List.cons_append, List.nil_append, Nat.reduceAdd, Nat.reduceSub, Nat.zero_add, List.getElem?_cons_zero, List.getElem?_cons_succ, List.set_cons_zero, List.set_cons_succ, Option.some.injEq, exists_eq_left', exists_eq_left, if_true, sizeLine_eq, Nat.reduceLeDiff, Nat.reduceLT, Nat.zero_le, true_and, and_true, Bool.false_eq_true, if_false]
    obtain ⟨t, h1, h2, h3, h4⟩ := any_ty hd
    refine ⟨t, h1, _, rfl, ?_⟩
    rw [h3]
    by_cases c : (isI d || isB d) = true
    · refine brT c ⟨t, h1, _, rfl, ?_⟩
      have e : (!isB d) = isI d := by
        cases hI : isI d with
        | true => rw [ib hI]; rfl
        | false => rw [hI, Bool.false_or] at c; rw [c]; rfl
      rw [h4, e]
      exact rt_of q
    · have c' : isI d = false ∧ isB d = false := by simpa using c
      rw [c'.1] at q
      exact brF (by rw [c'.1, c'.2]; rfl) (rt_of q)
def sp_procedure_of : SpD := fun ds S Q _ => ∃ (ks : D) (ps : List Pc) (x : Str) (p : Pc), ds = [prD ks ps, .str x] ∧ ps.length ≤ 10 ∧ pcOf ps x = some p ∧ Q (pcD p) S
theorem ok_procedure_of {P : Program} {w : World} {K : PySem.W.Frag} {mg : Str → Option Value} {base : Heap} (T : Txt K mg)  {ff : Addr} {fd : FuncData} (F : Fun K "procedure_of" "procedure_of" s_procedure_of ff fd) (mf : mg "procedure_of" = some (.ref ff)) : Cal P w K mg base 1 "procedure_of" s_procedure_of ["program", "name"] sp_procedure_of := by
  refine ⟨ff, fd, okD F sc_procedure_of (fun ds S Q E h => ?len) (fun cdv A outer s H E ds S Q E' hcd hr h => ⟨_, (dss_one (ds_ret (de_ix (xd_ix hr) (de_lc [("procedure", 2)] rfl sc_procedure_of.nd (di_tup (de_ix (xd_ix hr) (de_var 0) de_int)) (blkOk_by (N := ["program", "name", "procedure"]) (sc := defScope s_procedure_of) (by decide +kernel)) (fun _ _ _ _ _ => (pg_name (i := 2) sc_procedure_of.nd rfl (Or.inl rfl) (Or.inr rfl))) (fun N => (tg_name (vs := [2]) (i := 2) (by decide))) (fun _ _ _ _ _ => pts_one (dt_cmp (od_eq hr) (de_ix (xd_ix hr) (de_var 2) de_int) (de_var 1))) (fun _ _ _ _ _ => (de_var 2))) de_int))), ?run⟩), F.binds (ps := ["program", "name"]) fun _ _ _ _ _ _ us hl => match us, hl with | [_, _], _ => rfl, mf, F⟩
  case len => obtain ⟨ks, ps, x, p, rfl, _⟩ := h; rfl
  case run =>
    obtain ⟨ks, ps, x, p, rfl, h10, hp, q⟩ := h
    simp only [dVar, dC, dOp, dUn, dChain, dTr, dB, dAnd, dOr, dNot, dIf, dAndV, dOrV, dNotV, dNil, dCons, dTup, dLst, dLf, dNext, dSeq, dBreak, dCont, dDrop, dRet, dRetN, dIfS, gdName, gdNil, gdCons, gdTup, gdSub, dAsg, dPar, dCall, dCallK, dCB, dM0, dM, dGet1, dGet2, dDk, dDt, dPart, dNoPart, dSlice, dAug, dYes, dSort2, revD, iTupD, iLstD, iLf, iLw, iRange1, iRange2, iRange3, iEnumD, iZipD, iZipMD, iStrD, dGix, dDc, dIsi, dSortSet, dLenSet, dDlit, gdLst, dFor, dWhile, dLc, dLcM, dFld, dFldSet, dFldAdd, dMeth, dMake, dPar3, dCut, dTcut, wipeD, bodyE, startD, List.map_cons, List.map_nil, List.length_cons, List.length_nil, List.replicate_succ, List.replicate_zero, List.cons_append, List.nil_append, Nat.reduceAdd, Nat.reduceSub, Nat.zero_add, List.getElem?_cons_zero, List.getElem?_cons_succ, List.set_cons_zero, List.set_cons_succ, Option.some.injEq, exists_eq_left', exists_eq_left, if_true, sizeLine_eq, Nat.reduceLeDiff, Nat.reduceLT, Nat.zero_le, true_and, and_true, Bool.false_eq_true, if_false]
    have s1 : (1000 : Nat) ≤ sizeLine := by decide
    refine ix_sq rfl rfl (at_n (i := 1) rfl) ⟨_, .inl rfl, lc_seq (fun i acc S' => S' = S ∧ acc = ((ps.take i).filter fun p => decide (p.1 = x)).map pcD) ⟨rfl, rfl⟩ ?_ ?_⟩
    · rintro i y acc S' hy ⟨rfl, rfl⟩
      obtain ⟨p', hp', rfl⟩ := map_at hy
      refine ⟨by rw [List.length_map]; have := List.length_filter_le (fun p : Pc => decide (p.1 = x)) (ps.take i); rw [List.length_take] at this; omega, ix_sq rfl rfl at_0 ⟨_, rfl, ?_⟩⟩
      by_cases h : p'.1 = x
      · refine brT (xt h) ⟨rfl, ?_⟩
        rw [tk1 hp', List.filter_append, List.map_append, List.filter_cons, if_pos (by simpa using h)]
        rfl
      · refine brF (xf h) ⟨rfl, ?_⟩
        rw [tk1 hp', List.filter_append, List.filter_cons, if_neg (by simpa using h)]
        simp
    · rintro i acc S' hi ⟨rfl, rfl⟩
      rw [List.take_of_length_le (by simpa using hi)]
      refine ix_sq rfl rfl (at_n (i := 0) (by rw [List.getElem?_map]; unfold pcOf at hp; rw [hp]; rfl)) (rt_of q)
/-- the row at a place -/
def rowD (rs : List Rw) (i : Nat) : D := ((rs[i]?).map Rw.d).getD .non
def sp_row_at : SpD := fun ds S Q _ => ∃ (ks : D) (ps : List Pc) (x : Str) (i : Nat), ds = [prD ks ps, .str x, .int (i : Nat)] ∧ PrOk ps ∧ x ∈ ps.map (·.1) ∧ i ≤ (rowsOf ps x).length ∧ Q (rowD (rowsOf ps x) i) S
theorem ok_row_at {P : Program} {w : World} {K : PySem.W.Frag} {mg : Str → Option Value} {base : Heap} (T : Txt K mg) (C_procedure_of : Cal P w K mg base 1 "procedure_of" s_procedure_of ["program", "name"] sp_procedure_of) {ff : Addr} {fd : FuncData} (F : Fun K "row_at" "row_at" s_row_at ff fd) (mf : mg "row_at" = some (.ref ff)) : Cal P w K mg base 2 "row_at" s_row_at ["program", "procedure", "index"] sp_row_at := by
  refine ⟨ff, fd, okD F sc_row_at (fun ds S Q E h => ?len) (fun cdv A outer s H E ds S Q E' hcd hr h => ⟨_, (dss_cons (ds_set 3 sc_row_at.nd (de_ix (xd_ix hr) (de_c C_procedure_of hr (da_cons (de_var 0) (da_cons (de_var 1) da_nil))) de_int))
      (dss_one (ds_ret (de_ifExp (dt_cmp od_lt (de_var 2) (de_callB cd_len (by rfl) T.nb_len (da_cons (de_var 3) da_nil))) (de_ix (xd_ix hr) (de_var 3) (de_var 2)) de_non)))), ?run⟩), F.binds (ps := ["program", "procedure", "index"]) fun _ _ _ _ _ _ us hl => match us, hl with | [_, _, _], _ => rfl, mf, F⟩
  case len => obtain ⟨ks, ps, x, i, rfl, _⟩ := h; rfl
  case run =>
    obtain ⟨ks, ps, x, i, rfl, ok, hx, hi, q⟩ := h
    simp only [dVar, dC, dOp, dUn, dChain, dTr, dB, dAnd, dOr, dNot, dIf, dAndV, dOrV, dNotV, dNil, dCons, dTup, dLst, dLf, dNext, dSeq, dBreak, dCont, dDrop, dRet, dRetN, dIfS, gdName, gdNil, gdCons, gdTup, gdSub, dAsg, dPar, dCall, dCallK, dCB, dM0, dM, dGet1, dGet2, dDk, dDt, dPart, dNoPart, dSlice, dAug, dYes, dSort2, revD, iTupD, iLstD, iLf, iLw, iRange1, iRange2, iRange3, iEnumD, iZipD, iZipMD, iStrD, dGix, dDc, dIsi, dSortSet, dLenSet, dDlit, gdLst, dFor, dWhile, dLc, dLcM, dFld, dFldSet, dFldAdd, dMeth, dMake, dPar3, dCut, dTcut, wipeD, bodyE, startD, List.map_cons, List.map_nil, List.length_cons, List.length_nil, List.replicate_succ, List.replicate_zero, List.cons_append, List.nil_append, Nat.reduceAdd, Nat.reduceSub, Nat.zero_add, List.getElem?_cons_zero, List.getElem?_cons_succ, List.set_cons_zero, List.set_cons_succ, Option.some.injEq, exists_eq_left', exists_eq_left, if_true, sizeLine_eq, Nat.reduceLeDiff, Nat.reduceLT, Nat.zero_le, true_and, and_true, Bool.false_eq_true, if_false]
    obtain ⟨p, h1, h2, h3⟩ := rowsOf_ok ok hx
    have l6 := ok.l
    refine ⟨ks, ps, x, p, rfl, by omega, h1, ix_sq rfl rfl (at_n (i := 2) rfl) (len_sq rfl ⟨_, rfl, ?_⟩)⟩
    rw [h2] at q hi
    by_cases hlt : i < p.2.2.length
    · have e : p.2.2[i]? = some p.2.2[i] := List.getElem?_eq_getElem hlt
      unfold rowD at q
      rw [e] at q
      exact brT (decide_eq_true (by rw [List.length_map]; omega)) (ix_sq rfl rfl (at_n (by rw [List.getElem?_map, e]; rfl)) (rt_of q))
    · unfold rowD at q
      rw [List.getElem?_eq_none (by omega)] at q
      exact brF (decide_eq_false (by rw [List.length_map]; omega)) (rt_of q)
def sp_branch : SpD := fun ds S Q _ => ∃ (r : Rw) (n : Nat) (fs : List Str) (i t : Nat) (b : Bool), ds = [r.d, .int (i : Nat), .bl b] ∧ r.Ok n fs ∧ r.k = .test t ∧ Q (.int ((if b then t else i + 1 : Nat) : Int)) S
theorem ok_branch {P : Program} {w : World} {K : PySem.W.Frag} {mg : Str → Option Value} {base : Heap} (T : Txt K mg)  {ff : Addr} {fd : FuncData} (F : Fun K "branch" "branch" s_branch ff fd) (mf : mg "branch" = some (.ref ff)) : Cal P w K mg base 1 "branch" s_branch ["row", "index", "outcome"] sp_branch := by
  refine ⟨ff, fd, okD F sc_branch (fun ds S Q E h => ?len) (fun cdv A outer s H E ds S Q E' hcd hr h => ⟨_, (dss_one (ds_ret (de_ifExp (dt_tr td_tru (de_var 2)) (de_ix (xd_ix hr) (de_var 0) de_int) (de_op (od_add false) (de_var 1) de_int)))), ?run⟩), F.binds (ps := ["row", "index", "outcome"]) fun _ _ _ _ _ _ us hl => match us, hl with | [_, _, _], _ => rfl, mf, F⟩
  case len => obtain ⟨r, n, fs, i, t, b, rfl, _⟩ := h; rfl
  case run =>
    obtain ⟨r, n, fs, i, t, b, rfl, ok, hk, q⟩ := h
    simp only [dVar, dC, dOp, dUn, dChain, dTr, dB, dAnd, dOr, dNot, dIf, dAndV, dOrV, dNotV, dNil, dCons, dTup, dLst, dLf, dNext, dSeq, dBreak, dCont, dDrop, dRet, dRetN, dIfS, gdName, gdNil, gdCons, gdTup, gdSub, dAsg, dPar, dCall, dCallK, dCB, dM0, dM, dGet1, dGet2, dDk, dDt, dPart, dNoPart, dSlice, dAug, dYes, dSort2, revD, iTupD, iLstD, iLf, iLw, iRange1, iRange2, iRange3, iEnumD, iZipD, iZipMD, iStrD, dGix, dDc, dIsi, dSortSet, dLenSet, dDlit, gdLst, dFor, dWhile, dLc, dLcM, dFld, dFldSet, dFldAdd, dMeth, dMake, dPar3, dCut, dTcut, wipeD, bodyE, startD, List.map_cons, List.map_nil, List.length_cons, List.length_nil, List.replicate_succ, List.replicate_zero, List.cons_append, List.nil_append, Nat.reduceAdd, Nat.reduceSub, Nat.zero_add, List.getElem?_cons_zero, List.getElem?_cons_succ, List.set_cons_zero, List.set_cons_succ, Option.some.injEq, exists_eq_left', exists_eq_left, if_true, sizeLine_eq, Nat.reduceLeDiff, Nat.reduceLT, Nat.zero_le, true_and, and_true, Bool.false_eq_true, if_false]
    cases b with
    | true => exact tru_b (brT rfl (ix_sq rfl rfl (at_n (i := 3) (rw_test hk)) (rt_of q)))
    | false => exact tru_b (brF rfl (add_i (rt_of q)))
/-! ### draws -/
/-- the spring at p, its cells at a, n draws at most to come -/
def Spr (S : Sto) (p a : Addr) (n : Nat) : Prop := ∃ (ms : List Int) (m : Int) (c : Nat), S p = some (.lst [.ref a, .int m, .int (c : Nat)]) ∧ S a = some (.lst (ms.map D.int)) ∧ p ≠ a ∧ ms.length ≤ 100 ∧ c + n ≤ 2 ^ 40
theorem Spr.mono {S : Sto} {p a : Addr} {n m : Nat} (h : Spr S p a n) (hm : m ≤ n) : Spr S p a m := by
  obtain ⟨ms, q, c, h1, h2, h3, h4, h5⟩ := h
  exact ⟨ms, q, c, h1, h2, h3, h4, by omega⟩
/-- nothing but the spring has changed -/
def Off (p a : Addr) (S S' : Sto) : Prop := ∀ b, b ≠ p → b ≠ a → S' b = S b
theorem Off.refl {p a : Addr} {S : Sto} : Off p a S S := fun _ _ _ => rfl
theorem Off.trans {p a : Addr} {S S1 S2 : Sto} (h : Off p a S S1) (k : Off p a S1 S2) : Off p a S S2 := fun b h1 h2 => (k b h1 h2).trans (h b h1 h2)
theorem Spr.up {S : Sto} {p a b : Addr} {n : Nat} {o : MO} (h : Spr S p a n) (h1 : b ≠ p) (h2 : b ≠ a) : Spr (up S b o) p a n := by
  obtain ⟨ms, m, c, k1, k2, k3⟩ := h
  exact ⟨ms, m, c, by rw [up_ne h1.symm]; exact k1, by rw [up_ne h2.symm]; exact k2, k3⟩
theorem Spr.del {S : Sto} {p a b : Addr} {n : Nat} (h : Spr S p a n) (h1 : b ≠ p) (h2 : b ≠ a) : Spr (del S b) p a n := by
  obtain ⟨ms, m, c, k1, k2, k3⟩ := h
  exact ⟨ms, m, c, by rw [del_ne h1.symm]; exact k1, by rw [del_ne h2.symm]; exact k2, k3⟩
theorem Spr.ne {S : Sto} {p a b : Addr} {n : Nat} (h : Spr S p a n) (hb : S b = none) : b ≠ p ∧ b ≠ a := by
  obtain ⟨ms, m, c, k1, k2, k3⟩ := h
  exact ⟨fun e => (by rw [e, k1] at hb; cases hb), fun e => (by rw [e, k2] at hb; cases hb)⟩
def sp__law_deck : SpD := fun ds S Q _ => ∃ ns : List Int, ds = [.fl (ns.map D.int)] ∧ ns.length ≤ 63 ∧ ∀ p a S', Spr S' p a (2 ^ 40) → S p = none → S a = none → Off p a S S' → Q (.ref p) S'
theorem ok__law_deck {P : Program} {w : World} {K : PySem.W.Frag} {mg : Str → Option Value} {base : Heap} (T : Txt K mg)  {ff : Addr} {fd : FuncData} (F : Fun K "_law_deck" "_law_deck" s__law_deck ff fd) (mf : mg "_law_deck" = some (.ref ff)) : Cal P w K mg base 1 "_law_deck" s__law_deck ["script"] sp__law_deck := by
  refine ⟨ff, fd, okD F sc__law_deck (fun ds S Q E h => ?len) (fun cdv A outer s H E ds S Q E' hcd hr h => ⟨_, (dss_cons (ds_par 1 2 rfl sc__law_deck.nd (da_cons (de_callTy (cd_list false) (by rfl) T.nb_list (da_cons (de_slice (xd_slice false) (de_var 0) do_none (do_some de_int)) da_nil)) (da_cons de_int da_nil)))
      (dss_cons (ds_for PassesOwn.never rfl (di_lst (de_var 1)) (dg_name 3 sc__law_deck.nd) (dss_one (ds_set 2 sc__law_deck.nd (de_op od_mod (de_op (od_add false) (de_op (od_add false) (de_op od_mul (de_var 2) de_int) (de_op od_mod (de_var 3) de_int)) de_int) de_int))))
      (dss_one (ds_ret (de_lst (da_cons (de_rev true (de_var 1)) (da_cons (de_var 2) (da_cons de_int da_nil)))))))), ?run⟩), F.binds (ps := ["script"]) fun _ _ _ _ _ _ us hl => match us, hl with | [_], _ => rfl, mf, F⟩
  case len => obtain ⟨ns, rfl, _⟩ := h; rfl
  case run =>
    obtain ⟨ns, rfl, hl, q⟩ := h
    simp only [dVar, dC, dOp, dUn, dChain, dTr, dB, dAnd, dOr, dNot, dIf, dAndV, dOrV, dNotV, dNil, dCons, dTup, dLst, dLf, dNext, dSeq, dBreak, dCont, dDrop, dRet, dRetN, dIfS, gdName, gdNil, gdCons, gdTup, gdSub, dAsg, dPar, dCall, dCallK, dCB, dM0, dM, dGet1, dGet2, dDk, dDt, dPart, dNoPart, dSlice, dAug, dYes, dSort2, revD, iTupD, iLstD, iLf, iLw, iRange1, iRange2, iRange3, iEnumD, iZipD, iZipMD, iStrD, dGix, dDc, dIsi, dSortSet, dLenSet, dDlit, gdLst, dFor, dWhile, dLc, dLcM, dFld, dFldSet, dFldAdd, dMeth, dMake, dPar3, dCut, dTcut, wipeD, bodyE, startD, List.map_cons, List.map_nil, List.length_cons, List.length_nil, List.replicate_succ, List.replicate_zero, List.cons_append, List.nil_append, Nat.reduceAdd, Nat.reduceSub, Nat.zero_add, List.getElem?_cons_zero, List.getElem?_cons_succ, List.set_cons_zero, List.set_cons_succ, Option.some.injEq, exists_eq_left', exists_eq_left, if_true]
    obtain ⟨ns', ec, lc, _⟩ := cutD_map D.int ns none (some 63)
    refine ⟨63, rfl, _, rfl, brF rfl ⟨_, _, rfl, rfl, brF rfl ⟨_, _, rfl, .inl ⟨_, rfl, ?_⟩⟩⟩⟩
    rw [ec]
    refine fr_seq (fun i δ S' => S' = S ∧ ∃ (m : Int) (r : Option D), δ = [some (.fl (ns.map D.int)), some (.fl (ns'.map D.int)), some (.int m), r]) ⟨rfl, _, _, rfl⟩ ?_ ?_
    · rintro i x δ S' hx ⟨rfl, m, r, rfl⟩
      obtain ⟨z, hz, rfl⟩ := map_at hx
      simp only [dVar, dC, dOp, dUn, dChain, dTr, dB, dAnd, dOr, dNot, dIf, dAndV, dOrV, dNotV, dNil, dCons, dTup, dLst, dLf, dNext, dSeq, dBreak, dCont, dDrop, dRet, dRetN, dIfS, gdName, gdNil, gdCons, gdTup, gdSub, dAsg, dPar, dCall, dCallK, dCB, dM0, dM, dGet1, dGet2, dDk, dDt, dPart, dNoPart, dSlice, dAug, dYes, dSort2, revD, iTupD, iLstD, iLf, iLw, iRange1, iRange2, iRange3, iEnumD, iZipD, iZipMD, iStrD, dGix, dDc, dIsi, dSortSet, dLenSet, dDlit, gdLst, dFor, dWhile, dLc, dLcM, dFld, dFldSet, dFldAdd, dMeth, dMake, dPar3, dCut, dTcut, wipeD, bodyE, startD, List.map_cons, List.map_nil, List.length_cons, List.length_nil, List.replicate_succ, List.replicate_zero, List.cons_append, List.nil_append, Nat.reduceAdd, Nat.reduceSub, Nat.zero_add, List.getElem?_cons_zero, List.getElem?_cons_succ, List.set_cons_zero, List.set_cons_succ, Option.some.injEq, exists_eq_left', exists_eq_left, if_true]
      refine it_of (cmul2 (by decide) (by decide)) (it_of (by decide) (add_i (add_i (it_of (by decide) ?_))))
      exact ⟨rfl, _, _, rfl⟩
    · rintro i δ S' hi ⟨rfl, m, r, rfl⟩
      simp only [dVar, dC, dOp, dUn, dChain, dTr, dB, dAnd, dOr, dNot, dIf, dAndV, dOrV, dNotV, dNil, dCons, dTup, dLst, dLf, dNext, dSeq, dBreak, dCont, dDrop, dRet, dRetN, dIfS, gdName, gdNil, gdCons, gdTup, gdSub, dAsg, dPar, dCall, dCallK, dCB, dM0, dM, dGet1, dGet2, dDk, dDt, dPart, dNoPart, dSlice, dAug, dYes, dSort2, revD, iTupD, iLstD, iLf, iLw, iRange1, iRange2, iRange3, iEnumD, iZipD, iZipMD, iStrD, dGix, dDc, dIsi, dSortSet, dLenSet, dDlit, gdLst, dFor, dWhile, dLc, dLcM, dFld, dFldSet, dFldAdd, dMeth, dMake, dPar3, dCut, dTcut, wipeD, bodyE, startD, List.map_cons, List.map_nil, List.length_cons, List.length_nil, List.replicate_succ, List.replicate_zero, List.cons_append, List.nil_append, Nat.reduceAdd, Nat.reduceSub, Nat.zero_add, List.getElem?_cons_zero, List.getElem?_cons_succ, List.set_cons_zero, List.set_cons_succ, Option.some.injEq, exists_eq_left', exists_eq_left, if_true]
      refine ⟨_, rfl, fun a na => ⟨by decide, fun p np => ?_⟩⟩
      obtain ⟨ne, np⟩ := up_non np
      rw [← List.map_reverse]
      refine rt_of (q p a _ ⟨ns'.reverse, m, 0, up_same, by rw [up_ne ne.symm, up_same], ne, by rw [List.length_reverse]; omega, Nat.le_refl _⟩ np na fun b h1 h2 => by rw [up_ne h1, up_ne h2])
def sp__law_draw : SpD := fun ds S Q _ => ∃ p a n many, ds = [.ref p, .int many] ∧ 0 < many ∧ many < 1073741824 ∧ Spr S p a (n + 1) ∧ ∀ i S', 0 ≤ i → i < many → Spr S' p a n → Off p a S S' → Q (.int i) S'
theorem ok__law_draw {P : Program} {w : World} {K : PySem.W.Frag} {mg : Str → Option Value} {base : Heap} (T : Txt K mg)  {ff : Addr} {fd : FuncData} (F : Fun K "_law_draw" "_law_draw" s__law_draw ff fd) (mf : mg "_law_draw" = some (.ref ff)) : Cal P w K mg base 1 "_law_draw" s__law_draw ["deck", "count"] sp__law_draw := by
  refine ⟨ff, fd, okD F sc__law_draw (fun ds S Q E h => ?len) (fun cdv A outer s H E ds S Q E' hcd hr h => ⟨_, (dss_cons (ds_asg (de_op (od_add false) (de_ix (xd_ix hr) (de_var 0) de_int) de_int) (dg_sub hr (de_var 0) de_int))
      (dss_cons (ds_set 2 sc__law_draw.nd (de_op (od_add false) (de_ix (xd_ix hr) (de_var 0) de_int) (de_op od_mul (de_op od_mul de_int (de_ix (xd_ix hr) (de_var 0) de_int)) (de_ix (xd_ix hr) (de_var 0) de_int))))
      (dss_cut (ds_if (dt_cmp (od_ne hr) (de_ix (xd_ix hr) (de_var 0) de_int) (de_lf da_nil)) (dss_cons (ds_set 3 sc__law_draw.nd (de_m0 PySem.F.plainAttrs_list PySem.F.slot_list_pop PySem.F.type_list_pop md_pop (de_ix (xd_ix hr) (de_var 0) de_int)))
      (dss_cons (ds_if (dt_cmp od_ge (de_var 3) (de_op od_pow de_int de_int)) (dss_cons (ds_expr (de_m PySem.F.plainAttrs_list PySem.F.slot_list_append PySem.F.type_list_append md_append (de_ix (xd_ix hr) (de_var 0) de_int) (da_cons (de_op od_fdiv (de_var 3) (de_var 1)) da_nil)))
      (dss_one (ds_ret (de_op od_mod (de_var 3) (de_var 1))))) dss_nil)
      (dss_one (ds_set 2 sc__law_draw.nd (de_op (od_add false) (de_var 2) (de_var 3)))))) dss_nil)
      (dss_cons (ds_set 2 sc__law_draw.nd (de_op od_mod (de_op od_mul (de_op od_mod (de_var 2) de_int) de_int) de_int))
      (dss_cons (ds_set 2 sc__law_draw.nd (de_op od_mod (de_op (od_add false) (de_op (od_add false) (de_op od_mul (de_var 2) (de_var 2)) (de_op od_mul de_int (de_var 2))) de_int) de_int))
      (dss_one (ds_ret (de_op od_mod (de_op od_fdiv (de_op od_mod (de_op od_mul (de_var 2) de_int) de_int) de_int) (de_var 1))))))))), ?run⟩), F.binds (ps := ["deck", "count"]) fun _ _ _ _ _ _ us hl => match us, hl with | [_, _], _ => rfl, mf, F⟩
  case len => obtain ⟨p, a, n, many, rfl, _⟩ := h; rfl
  case run =>
    obtain ⟨p, a, n, many, rfl, h0, h1, sp, q⟩ := h
    simp only [dVar, dC, dOp, dUn, dChain, dTr, dB, dAnd, dOr, dNot, dIf, dAndV, dOrV, dNotV, dNil, dCons, dTup, dLst, dLf, dNext, dSeq, dBreak, dCont, dDrop, dRet, dRetN, dIfS, gdName, gdNil, gdCons, gdTup, gdSub, dAsg, dPar, dCall, dCallK, dCB, dM0, dM, dGet1, dGet2, dDk, dDt, dPart, dNoPart, dSlice, dAug, dYes, dSort2, revD, iTupD, iLstD, iLf, iLw, iRange1, iRange2, iRange3, iEnumD, iZipD, iZipMD, iStrD, dGix, dDc, dIsi, dSortSet, dLenSet, dDlit, gdLst, dFor, dWhile, dLc, dLcM, dFld, dFldSet, dFldAdd, dMeth, dMake, dPar3, dCut, dTcut, wipeD, bodyE, startD, List.map_cons, List.map_nil, List.length_cons, List.length_nil, List.replicate_succ, List.replicate_zero, List.cons_append, List.nil_append, Nat.reduceAdd, Nat.reduceSub, Nat.zero_add, List.getElem?_cons_zero, List.getElem?_cons_succ, List.set_cons_zero, List.set_cons_succ, Option.some.injEq, exists_eq_left', exists_eq_left, if_true]
    obtain ⟨ms, m, c, hp, ha, ne, l100, cn⟩ := sp
    refine ix_sq rfl (sq_l hp) (at_n (i := 2) rfl) (add_i (set_l hp (ixN_nat (n := 3) (i := 2) (by decide)) ?_))
    have hp1 : up S p (.lst [.ref a, .int m, .int ((c : Nat) + 1)]) p = some (.lst [.ref a, .int m, .int ((c : Nat) + 1)]) := up_same
    have ha1 : up S p (.lst [.ref a, .int m, .int ((c : Nat) + 1)]) a = some (.lst (ms.map D.int)) := by rw [up_ne ne.symm]; exact ha
    have of1 : Off p a S (up S p (.lst [.ref a, .int m, .int ((c : Nat) + 1)])) := fun b h1 h2 => by rw [up_ne h1]
    show ixD (.ref p) (.int 1) (up S p (.lst [.ref a, .int m, .int ((c : Nat) + 1)])) _
    generalize up S p (.lst [.ref a, .int m, .int ((c : Nat) + 1)]) = S1 at hp1 ha1 of1
    have fin : ∀ (S2 : Sto) (ms' : List Int) (i : Int), S2 p = some (.lst [.ref a, .int m, .int ((c : Nat) + 1)]) → S2 a = some (.lst (ms'.map D.int)) → ms'.length ≤ 100 → Off p a S S2 → 0 ≤ i → i < many → Q (.int i) S2 := fun S2 ms' i g1 g2 g3 g4 i0 i1 =>
      q i S2 i0 i1 ⟨ms', m, c + 1, by rw [g1]; rfl, g2, ne, g3, by omega⟩ g4
    refine ix_sq rfl (sq_l hp1) (at_n (i := 1) rfl) (ix_sq rfl (sq_l hp1) (at_n (i := 2) rfl) (it_of (cmul1 (by decide) (by decide)) (ix_sq rfl (sq_l hp1) (at_n (i := 2) rfl) (it_of (cmul2 (by omega) (by omega)) (add_i ?_)))))
    refine ⟨fun δ' S' => ∃ (x : Int) (r : Option D) (ms' : List Int), δ' = [some (.ref p), some (.int many), some (.int x), r] ∧ S' p = some (.lst [.ref a, .int m, .int ((c : Nat) + 1)]) ∧ S' a = some (.lst (ms'.map D.int)) ∧ ms'.length ≤ 100 ∧ Off p a S S', ?_, ?_⟩
    · refine ix_sq rfl (sq_l hp1) (at_n (i := 0) rfl) ⟨Nat.zero_le _, eq_l ha1 (cmp_ints ms) (cmp_ints []) ⟨_, rfl, ?_⟩⟩
      rw [eqv_nil]
      rcases List.eq_nil_or_concat ms with e | ⟨ms0, y, e⟩
      · subst e
        exact brF rfl ⟨_, none, [], rfl, hp1, ha1, by simp, of1⟩
      · rw [List.concat_eq_append] at e
        subst e
        refine brT (by simp) (ix_sq rfl (sq_l hp1) (at_n (i := 0) rfl) ⟨ty_l ha1, a, _, .int y, rfl, trivial, ha1, by simp, ?_⟩)
        have ed : ((ms0 ++ [y]).map D.int).dropLast = ms0.map D.int := by simp
        rw [ed]
        have hp2 : up S1 a (.lst (ms0.map D.int)) p = some (.lst [.ref a, .int m, .int ((c : Nat) + 1)]) := by rw [up_ne ne]; exact hp1
        have ha2 : up S1 a (.lst (ms0.map D.int)) a = some (.lst (ms0.map D.int)) := up_same
        have of2 : Off p a S (up S1 a (.lst (ms0.map D.int))) := of1.trans fun b h1 h2 => up_ne h2
        have l0 : ms0.length + 1 ≤ 100 := by simpa using l100
        generalize up S1 a (.lst (ms0.map D.int)) = S2 at hp2 ha2 of2
        refine it_of ⟨by decide, by decide, by decide⟩ (it_of trivial ⟨_, rfl, br2 (fun _ => ?_) fun _ => ?_⟩)
        · refine ix_sq rfl (sq_l hp2) (at_n (i := 0) rfl) ⟨ty_l ha2, it_of ⟨h0, h1⟩ ⟨a, _, _, rfl, rfl, ha2, ?_, it_of h0 (rt_of (fin _ (ms0 ++ [y / many]) _ ?_ ?_ ?_ ?_ ?_ ?_))⟩⟩
          · rw [List.length_map]; exact Nat.lt_of_lt_of_le (show ms0.length < 101 by omega) (by decide)
          · rw [up_ne ne]; exact hp2
          · rw [up_same, List.map_append]; rfl
          · simp; omega
          · exact of2.trans fun b h1 h2 => up_ne h2
          · exact Int.emod_nonneg _ (by omega)
          · exact Int.emod_lt_of_pos _ h0
        · exact add_i ⟨_, _, ms0, rfl, hp2, ha2, by omega, of2⟩
    · rintro δ' S' ⟨x, r, ms', rfl, hp', ha', hl', off⟩
      simp only [dVar, dC, dOp, dUn, dChain, dTr, dB, dAnd, dOr, dNot, dIf, dAndV, dOrV, dNotV, dNil, dCons, dTup, dLst, dLf, dNext, dSeq, dBreak, dCont, dDrop, dRet, dRetN, dIfS, gdName, gdNil, gdCons, gdTup, gdSub, dAsg, dPar, dCall, dCallK, dCB, dM0, dM, dGet1, dGet2, dDk, dDt, dPart, dNoPart, dSlice, dAug, dYes, dSort2, revD, iTupD, iLstD, iLf, iLw, iRange1, iRange2, iRange3, iEnumD, iZipD, iZipMD, iStrD, dGix, dDc, dIsi, dSortSet, dLenSet, dDlit, gdLst, dFor, dWhile, dLc, dLcM, dFld, dFldSet, dFldAdd, dMeth, dMake, dPar3, dCut, dTcut, wipeD, bodyE, startD, List.map_cons, List.map_nil, List.length_cons, List.length_nil, List.replicate_succ, List.replicate_zero, List.cons_append, List.nil_append, Nat.reduceAdd, Nat.reduceSub, Nat.zero_add, List.getElem?_cons_zero, List.getElem?_cons_succ, List.set_cons_zero, List.set_cons_succ, Option.some.injEq, exists_eq_left', exists_eq_left, if_true]
      refine it_of (by decide) (it_of (cmul2 (by decide) (by decide)) (it_of (by decide) ?_))
      refine it_of (cmul1 (by omega) (by omega)) (it_of (cmul1 (by decide) (by decide)) (add_i (add_i (it_of (by decide) ?_))))
      refine it_of (cmul2 (by decide) (by decide)) (it_of (by decide) (it_of ⟨by decide, by decide⟩ (it_of h0 (rt_of ?_))))
      exact fin _ ms' _ hp' ha' hl' off (Int.emod_nonneg _ (by omega)) (Int.emod_lt_of_pos _ h0)
/-- things to choose from -/
inductive Pick : D → List D → Prop
  | fl (xs : List D) : Pick (.fl xs) xs
  | tup (xs : List D) : Pick (.tup xs) xs
def sp__law_pick : SpD := fun ds S Q _ => ∃ p a n x xs, ds = [.ref p, x] ∧ (Pick x xs ∨ ∃ b, x = .ref b ∧ S b = some (.lst xs) ∧ b ≠ p ∧ b ≠ a) ∧ 0 < xs.length ∧ xs.length < 1073741824 ∧ Spr S p a (n + 1) ∧ ∀ x S', x ∈ xs → Spr S' p a n → Off p a S S' → Q x S'
theorem ok__law_pick {P : Program} {w : World} {K : PySem.W.Frag} {mg : Str → Option Value} {base : Heap} (T : Txt K mg) (C__law_draw : Cal P w K mg base 1 "_law_draw" s__law_draw ["deck", "count"] sp__law_draw) {ff : Addr} {fd : FuncData} (F : Fun K "_law_pick" "_law_pick" s__law_pick ff fd) (mf : mg "_law_pick" = some (.ref ff)) : Cal P w K mg base 2 "_law_pick" s__law_pick ["deck", "some"] sp__law_pick := by
  refine ⟨ff, fd, okD F sc__law_pick (fun ds S Q E h => ?len) (fun cdv A outer s H E ds S Q E' hcd hr h => ⟨_, (dss_one (ds_ret (de_ix (xd_ix hr) (de_var 1) (de_c C__law_draw hr (da_cons (de_var 0) (da_cons (de_callB cd_len (by rfl) T.nb_len (da_cons (de_var 1) da_nil)) da_nil)))))), ?run⟩), F.binds (ps := ["deck", "some"]) fun _ _ _ _ _ _ us hl => match us, hl with | [_, _], _ => rfl, mf, F⟩
  case len => obtain ⟨p, a, n, x, xs, rfl, _⟩ := h; rfl
  case run =>
    obtain ⟨p, a, n, x, xs, rfl, hx, h0, h1, sp, q⟩ := h
    simp only [dVar, dC, dOp, dUn, dChain, dTr, dB, dAnd, dOr, dNot, dIf, dAndV, dOrV, dNotV, dNil, dCons, dTup, dLst, dLf, dNext, dSeq, dBreak, dCont, dDrop, dRet, dRetN, dIfS, gdName, gdNil, gdCons, gdTup, gdSub, dAsg, dPar, dCall, dCallK, dCB, dM0, dM, dGet1, dGet2, dDk, dDt, dPart, dNoPart, dSlice, dAug, dYes, dSort2, revD, iTupD, iLstD, iLf, iLw, iRange1, iRange2, iRange3, iEnumD, iZipD, iZipMD, iStrD, dGix, dDc, dIsi, dSortSet, dLenSet, dDlit, gdLst, dFor, dWhile, dLc, dLcM, dFld, dFldSet, dFldAdd, dMeth, dMake, dPar3, dCut, dTcut, wipeD, bodyE, startD, List.map_cons, List.map_nil, List.length_cons, List.length_nil, List.replicate_succ, List.replicate_zero, List.cons_append, List.nil_append, Nat.reduceAdd, Nat.reduceSub, Nat.zero_add, List.getElem?_cons_zero, List.getElem?_cons_succ, List.set_cons_zero, List.set_cons_succ, Option.some.injEq, exists_eq_left', exists_eq_left, if_true]
    rcases hx with hx | ⟨b, rfl, hb, b1, b2⟩
    · cases hx with
      | fl xs =>
        refine len_sq rfl ⟨p, a, n, _, rfl, by omega, by omega, sp, fun i S' i0 i1 sp' off => ?_⟩
        obtain ⟨j, rfl⟩ : ∃ j : Nat, i = j := ⟨i.toNat, by omega⟩
        have hj : j < xs.length := by omega
        exact ix_sq rfl rfl (at_n (List.getElem?_eq_getElem hj)) (rt_of (q _ _ (List.getElem_mem hj) sp' off))
      | tup xs =>
        refine len_sq rfl ⟨p, a, n, _, rfl, by omega, by omega, sp, fun i S' i0 i1 sp' off => ?_⟩
        obtain ⟨j, rfl⟩ : ∃ j : Nat, i = j := ⟨i.toNat, by omega⟩
        have hj : j < xs.length := by omega
        exact ix_sq rfl rfl (at_n (List.getElem?_eq_getElem hj)) (rt_of (q _ _ (List.getElem_mem hj) sp' off))
    · refine len_sq (sq_l hb) ⟨p, a, n, _, rfl, by omega, by omega, sp, fun i S' i0 i1 sp' off => ?_⟩
      obtain ⟨j, rfl⟩ : ∃ j : Nat, i = j := ⟨i.toNat, by omega⟩
      have hj : j < xs.length := by omega
      exact ix_sq rfl (sq_l (by rw [off b b1 b2]; exact hb)) (at_n (List.getElem?_eq_getElem hj)) (rt_of (q _ _ (List.getElem_mem hj) sp' off))
end K19


namespace K19
open PySem L2 PyProof.Rows DL
/-! ### the walk -/
def wkF (prog : D) (A : Addr) (os : List Bool) (k : Nat) : List (Str × D) := [("program", prog), ("places", .ref A), ("outcomes", .tup (os.map D.bl)), ("passed", .int (k : Nat))]
def Wk (C : Addr) (S : Sto) (w A : Addr) (prog : D) (pl : Pl) (os : List Bool) (k : Nat) : Prop := S w = some (.ins C (wkF prog A os k)) ∧ S A = some (.lst (pl.map plD)) ∧ w ≠ A
theorem wkF_pl (prog : D) (A : Addr) (os : List Bool) (k : Nat) : (wkF prog A os k).lookup ("places" : Str) = some (.ref A) := rfl
theorem wkF_pr (prog : D) (A : Addr) (os : List Bool) (k : Nat) : (wkF prog A os k).lookup ("program" : Str) = some prog := rfl
theorem wkF_os (prog : D) (A : Addr) (os : List Bool) (k : Nat) : (wkF prog A os k).lookup ("outcomes" : Str) = some (.tup (os.map D.bl)) := rfl
theorem wkF_pd (prog : D) (A : Addr) (os : List Bool) (k : Nat) : (wkF prog A os k).lookup ("passed" : Str) = some (.int (k : Nat)) := rfl
theorem wkF_no (prog : D) (A : Addr) (os : List Bool) (k : Nat) : ∀ m ∈ (["move", "leave", "onward"] : List Str), (wkF prog A os k).lookup m = none := by
  intro m hm
  simp only [List.mem_cons, List.not_mem_nil, or_false] at hm
  rcases hm with rfl | rfl | rfl <;> rfl
theorem wkF_put (prog : D) (A : Addr) (os : List Bool) (k j : Nat) : putFD "passed" (.int (j : Nat)) (wkF prog A os k) = wkF prog A os j := rfl
def sp_Walk_init (C : Addr) : SpD := fun ds S Q _ => ∃ (w : Addr) (prog : D) (fs : List Fm) (c m : D) (os : List Bool), ds = [.ref w, prog, stD fs c m, .tup (os.map D.bl)] ∧ S w = some (.ins C []) ∧ fs.length ≤ 100 ∧
  ∀ A S', S A = none → Wk C S' w A prog (plOf fs) os 0 → (∀ b, b ≠ w → b ≠ A → S' b = S b) → Q .non S'
theorem ok_Walk_init {P : Program} {w : World} {K : PySem.W.Frag} {mg : Str → Option Value} {base : Heap} (T : Txt K mg) {c_Walk : Addr} (W_Walk : Tc_Walk K c_Walk)  {ff : Addr} {fd : FuncData} (F : Fun K "__init__" "Walk.__init__" s_Walk_init ff fd) (mk : Mk K c_Walk ff) (mc : mg "Walk" = some (.ref c_Walk)) : CalI P w K mg base 1 c_Walk "Walk" "Walk.__init__" s_Walk_init ["self", "program", "state", "outcomes"] (sp_Walk_init c_Walk) := by
  refine ⟨ff, fd, okD F sc_Walk_init (fun ds S Q E h => ?len) (fun cdv A outer s H E ds S Q E' hcd hr h => ⟨_, (dss_cons (ds_fld W_Walk.cl W_Walk.n_program (de_var 0) (de_var 1))
      (dss_cons (ds_fld W_Walk.cl W_Walk.n_places (de_var 0) (de_lcM [("name", 4), ("index", 5), ("variables", 6)] rfl sc_Walk_init.nd (di_tup (de_ix (xd_ix hr) (de_var 2) de_int)) (blkOk_by (N := ["self", "program", "state", "outcomes", "name", "index", "variables"]) (sc := defScope s_Walk_init) (by decide +kernel)) (fun _ _ _ _ _ => (pg_tup (n := 3) rfl (pgs_cons (pg_name (i := 4) sc_Walk_init.nd rfl (Or.inl rfl) (Or.inr rfl)) (pgs_cons (pg_name (i := 5) sc_Walk_init.nd rfl (Or.inl rfl) (Or.inr rfl)) (pgs_cons (pg_name (i := 6) sc_Walk_init.nd rfl (Or.inl rfl) (Or.inr rfl)) pgs_nil))))) (fun N => (tg_tup (vs := [4, 5, 6]) (n := 3) (tgs_cons (vs := [4, 5, 6]) (i := 4) (by decide) (tgs_cons (vs := [4, 5, 6]) (i := 5) (by decide) (tgs_cons (vs := [4, 5, 6]) (i := 6) (by decide) (tgs_nil (vs := [4, 5, 6]))))))) (fun _ _ _ _ _ => dts_nil) (fun _ _ _ _ _ => (de_tup (da_cons (de_var 4) (da_cons (de_var 5) da_nil))))))
      (dss_cons (ds_fld W_Walk.cl W_Walk.n_outcomes (de_var 0) (de_var 3))
      (dss_one (ds_fld W_Walk.cl W_Walk.n_passed (de_var 0) de_int))))), ?run⟩), F.binds (ps := ["self", "program", "state", "outcomes"]) fun _ _ _ _ _ _ us hl => match us, hl with | [_, _, _, _], _ => rfl, mk, mc, F⟩
  case len => obtain ⟨w, prog, fs, c, m, os, rfl, _⟩ := h; rfl
  case run =>
    obtain ⟨w, prog, fs, c, m, os, rfl, hw, hl, q⟩ := h
    simp only [dVar, dC, dOp, dUn, dChain, dTr, dB, dAnd, dOr, dNot, dIf, dAndV, dOrV, dNotV, dNil, dCons, dTup, dLst, dLf, dNext, dSeq, dBreak, dCont, dDrop, dRet, dRetN, dIfS, gdName, gdNil, gdCons, gdTup, gdSub, dAsg, dPar, dCall, dCallK, dCB, dM0, dM, dGet1, dGet2, dDk, dDt, dPart, dNoPart, dSlice, dAug, dYes, dSort2, revD, iTupD, iLstD, iLf, iLw, iRange1, iRange2, iRange3, iEnumD, iZipD, iZipMD, iStrD, dGix, dDc, dIsi, dSortSet, dLenSet, dDlit, gdLst, dFor, dWhile, dLc, dLcM, dFld, dFldSet, dFldAdd, dMeth, dMake, dPar3, dCut, dTcut, wipeD, bodyE, startD, List.map_cons, List.map_nil, List.length_cons, List.length_nil, List.replicate_succ, List.replicate_zero, List.cons_append, List.nil_append, Nat.reduceAdd, Nat.reduceSub, Nat.zero_add, List.getElem?_cons_zero, List.getElem?_cons_succ, List.set_cons_zero, List.set_cons_succ, Option.some.injEq, exists_eq_left', exists_eq_left, if_true, sizeLine_eq, Nat.reduceLeDiff, Nat.reduceLT, Nat.zero_le, true_and, and_true, Bool.false_eq_true, if_false]
    refine ⟨w, _, rfl, hw, by decide, ix_sq rfl rfl at_0 ⟨_, .inl rfl, ?_⟩⟩
    refine lc_seq (ds := fs.map fmD) (fun i acc S' => S' = up S w (.ins c_Walk [("program", prog)]) ∧ acc = (plOf (fs.take i)).map plD) ⟨rfl, rfl⟩ ?_ ?_
    · rintro i x acc S' hx ⟨rfl, rfl⟩
      obtain ⟨f, hf, rfl⟩ := map_at hx
      refine ⟨by unfold plOf; rw [List.length_map, List.length_map, List.length_take, sizeLine_eq]; omega, _, rfl, rfl, _, _, rfl, _, _, rfl, _, _, rfl, rfl, rfl, ?_⟩
      rw [tk1 hf]
      unfold plOf
      rw [List.map_append, List.map_append]
      rfl
    · rintro i acc S' hi ⟨rfl, rfl⟩ A hA
      rw [List.length_map] at hi
      rw [List.take_of_length_le hi]
      have ne : A ≠ w := fun e => by rw [e, up_same] at hA; cases hA
      have nA : S A = none := by rw [up_ne ne] at hA; exact hA
      refine ⟨w, [("program", prog)], rfl, by rw [up_ne ne.symm, up_same], by show 1 < 1000; decide, w, [("program", prog), ("places", .ref A)], rfl, up_same, by show 2 < 1000; decide, w, [("program", prog), ("places", .ref A), ("outcomes", .tup (os.map D.bl))], rfl, up_same, by show 3 < 1000; decide, _, .refl, q A _ nA ⟨up_same, ?_, ne.symm⟩ fun b b1 b2 => ?_⟩
      · rw [up_ne ne, up_ne ne, up_ne ne, up_same]
      · rw [up_ne b1, up_ne b1, up_ne b1, up_ne b2, up_ne b1]
def sp_Walk_move (C : Addr) : SpD := fun ds S Q _ => ∃ (w A : Addr) (prog : D) (p : Pl) (n : Str) (j : Nat) (os : List Bool) (k i : Nat), ds = [.ref w, .int (i : Nat)] ∧ Wk C S w A prog (p ++ [(n, j)]) os k ∧ Q .non (up S A (.lst ((p ++ [(n, i)]).map plD)))
theorem ok_Walk_move {P : Program} {w : World} {K : PySem.W.Frag} {mg : Str → Option Value} {base : Heap} (T : Txt K mg) {c_Walk : Addr} (W_Walk : Tc_Walk K c_Walk)  {ff : Addr} {fd : FuncData} (F : Fun K "move" "Walk.move" s_Walk_move ff fd) (mm : Meth K c_Walk "move" ff) : CalM P w K mg base 1 c_Walk "move" "Walk.move" s_Walk_move ["self", "index"] (sp_Walk_move c_Walk) := by
  refine ⟨ff, fd, okD F sc_Walk_move (fun ds S Q E h => ?len) (fun cdv A outer s H E ds S Q E' hcd hr h => ⟨_, (dss_one (ds_asg (de_tup (da_cons (de_ix (xd_ix hr) (de_ix (xd_ix hr) (de_fld W_Walk.cl W_Walk.n_places (de_var 0)) (de_un ud_neg de_int)) de_int) (da_cons (de_var 1) da_nil))) (dg_sub hr (de_fld W_Walk.cl W_Walk.n_places (de_var 0)) (de_un ud_neg de_int)))), ?run⟩), F.binds (ps := ["self", "index"]) fun _ _ _ _ _ _ us hl => match us, hl with | [_, _], _ => rfl, mm, F⟩
  case len => obtain ⟨w, A, prog, p, n, j, os, k, i, rfl, _⟩ := h; rfl
  case run =>
    obtain ⟨w, A, prog, p, n, j, os, k, i, rfl, wk, q⟩ := h
    simp only [dVar, dC, dOp, dUn, dChain, dTr, dB, dAnd, dOr, dNot, dIf, dAndV, dOrV, dNotV, dNil, dCons, dTup, dLst, dLf, dNext, dSeq, dBreak, dCont, dDrop, dRet, dRetN, dIfS, gdName, gdNil, gdCons, gdTup, gdSub, dAsg, dPar, dCall, dCallK, dCB, dM0, dM, dGet1, dGet2, dDk, dDt, dPart, dNoPart, dSlice, dAug, dYes, dSort2, revD, iTupD, iLstD, iLf, iLw, iRange1, iRange2, iRange3, iEnumD, iZipD, iZipMD, iStrD, dGix, dDc, dIsi, dSortSet, dLenSet, dDlit, gdLst, dFor, dWhile, dLc, dLcM, dFld, dFldSet, dFldAdd, dMeth, dMake, dPar3, dCut, dTcut, wipeD, bodyE, startD, List.map_cons, List.map_nil, List.length_cons, List.length_nil, List.replicate_succ, List.replicate_zero, List.cons_append, List.nil_append, Nat.reduceAdd, Nat.reduceSub, Nat.zero_add, List.getElem?_cons_zero, List.getElem?_cons_succ, List.set_cons_zero, List.set_cons_succ, Option.some.injEq, exists_eq_left', exists_eq_left, if_true, sizeLine_eq, Nat.reduceLeDiff, Nat.reduceLT, Nat.zero_le, true_and, and_true, Bool.false_eq_true, if_false]
    obtain ⟨h1, h2, h3⟩ := wk
    rw [List.map_append] at h2 q
    refine ⟨w, _, _, rfl, h1, wkF_pl _ _ _ _, ng (ix_sq rfl (sq_l h2) at_z (ix_sq rfl rfl at_0 ⟨w, _, _, rfl, h1, wkF_pl _ _ _ _, ng (set_l h2 (by rw [List.length_append]; exact ixN_z _) ⟨_, .refl, ?_⟩)⟩))⟩
    have e := set_last (p.map plD) (plD (n, j)) (plD (n, i))
    rw [show [(n, j)].map plD = [plD (n, j)] from rfl]
    show Q .non (up S A (.lst ((p.map plD ++ [plD (n, j)]).set (p.map plD).length (plD (n, i)))))
    rw [e]
    exact q
def sp_Walk_leave (C : Addr) : SpD := fun ds S Q _ => ∃ (w A : Addr) (prog : D) (p : Pl) (n : Str) (j : Nat) (os : List Bool) (k : Nat), ds = [.ref w] ∧ Wk C S w A prog (p ++ [(n, j)]) os k ∧ (∀ d ∈ p.map plD, Cm 1 d) ∧ Q .non (up S A (.lst ((bump p).map plD)))
theorem ok_Walk_leave {P : Program} {w : World} {K : PySem.W.Frag} {mg : Str → Option Value} {base : Heap} (T : Txt K mg) {c_Walk : Addr} (W_Walk : Tc_Walk K c_Walk) (C_Walk_move : CalM P w K mg base 1 c_Walk "move" "Walk.move" s_Walk_move ["self", "index"] (sp_Walk_move c_Walk)) {ff : Addr} {fd : FuncData} (F : Fun K "leave" "Walk.leave" s_Walk_leave ff fd) (mm : Meth K c_Walk "leave" ff) : CalM P w K mg base 2 c_Walk "leave" "Walk.leave" s_Walk_leave ["self"] (sp_Walk_leave c_Walk) := by
  refine ⟨ff, fd, okD F sc_Walk_leave (fun ds S Q E h => ?len) (fun cdv A outer s H E ds S Q E' hcd hr h => ⟨_, (dss_cons (ds_expr (de_m0 PySem.F.plainAttrs_list PySem.F.slot_list_pop PySem.F.type_list_pop md_pop (de_fld W_Walk.cl W_Walk.n_places (de_var 0))))
      (dss_one (ds_if (dt_cmp (od_ne hr) (de_fld W_Walk.cl W_Walk.n_places (de_var 0)) (de_lf da_nil)) (dss_one (ds_expr (de_mt C_Walk_move W_Walk.cl hr (de_var 0) (da_cons (de_op (od_add false) (de_ix (xd_ix hr) (de_ix (xd_ix hr) (de_fld W_Walk.cl W_Walk.n_places (de_var 0)) (de_un ud_neg de_int)) de_int) de_int) da_nil)))) dss_nil))), ?run⟩), F.binds (ps := ["self"]) fun _ _ _ _ _ _ us hl => match us, hl with | [_], _ => rfl, mm, F⟩
  case len => obtain ⟨w, A, prog, p, n, j, os, k, rfl, _⟩ := h; rfl
  case run =>
    obtain ⟨w, A, prog, p, n, j, os, k, rfl, wk, cm, q⟩ := h
    simp only [dVar, dC, dOp, dUn, dChain, dTr, dB, dAnd, dOr, dNot, dIf, dAndV, dOrV, dNotV, dNil, dCons, dTup, dLst, dLf, dNext, dSeq, dBreak, dCont, dDrop, dRet, dRetN, dIfS, gdName, gdNil, gdCons, gdTup, gdSub, dAsg, dPar, dCall, dCallK, dCB, dM0, dM, dGet1, dGet2, dDk, dDt, dPart, dNoPart, dSlice, dAug, dYes, dSort2, revD, iTupD, iLstD, iLf, iLw, iRange1, iRange2, iRange3, iEnumD, iZipD, iZipMD, iStrD, dGix, dDc, dIsi, dSortSet, dLenSet, dDlit, gdLst, dFor, dWhile, dLc, dLcM, dFld, dFldSet, dFldAdd, dMeth, dMake, dPar3, dCut, dTcut, wipeD, bodyE, startD, List.map_cons, List.map_nil, List.length_cons, List.length_nil, List.replicate_succ, List.replicate_zero, List.cons_append, List.nil_append, Nat.reduceAdd, Nat.reduceSub, Nat.zero_add, List.getElem?_cons_zero, List.getElem?_cons_succ, List.set_cons_zero, List.set_cons_succ, Option.some.injEq, exists_eq_left', exists_eq_left, if_true, sizeLine_eq, Nat.reduceLeDiff, Nat.reduceLT, Nat.zero_le, true_and, and_true, Bool.false_eq_true, if_false]
    obtain ⟨h1, h2, h3⟩ := wk
    rw [List.map_append] at h2
    have h2' : S A = some (.lst (p.map plD ++ [plD (n, j)])) := h2
    refine ⟨w, _, _, rfl, h1, wkF_pl _ _ _ _, ty_l h2', A, _, plD (n, j), rfl, h2', by simp, w, _, _, rfl, by rw [up_ne h3]; exact h1, wkF_pl _ _ _ _, ?_⟩
    rw [List.dropLast_concat]
    refine eq_nilL up_same cm ⟨_, rfl, ?_⟩
    rcases List.eq_nil_or_concat p with rfl | ⟨q', ⟨m, i⟩, e⟩
    · exact brF rfl ⟨_, .refl, q⟩
    · rw [List.concat_eq_append] at e
      subst e
      refine brT (by simp) ⟨w, _, rfl, by rw [up_ne h3]; exact h1, wkF_no _ _ _ _ _ (by simp), w, _, _, rfl, by rw [up_ne h3]; exact h1, wkF_pl _ _ _ _, ?_⟩
      have e2 : (q' ++ [(m, i)]).map plD = q'.map plD ++ [plD (m, i)] := by rw [List.map_append]; rfl
      rw [e2]
      refine ng (ix_sq rfl (sq_l up_same) at_z (ix_sq rfl rfl (at_n (i := 1) rfl) (add_i ?_)))
      refine ⟨w, A, prog, q', m, i, os, k, i + 1, rfl, ⟨by rw [up_ne h3]; exact h1, by rw [up_same, e2], h3⟩, _, .refl, ?_⟩
      rw [up_up]
      unfold bump at q
      rw [last_snoc] at q
      dsimp only at q
      rw [List.dropLast_concat] at q
      exact q
def sp_Walk_onward (C : Addr) : SpD := fun ds S Q _ => ∃ (w A : Addr) (ks : D) (ps : List Pc) (pl : Pl) (os : List Bool) (k : Nat), ds = [.ref w] ∧ Wk C S w A (prD ks ps) pl os k ∧ PrOk ps ∧ PlOk ps pl ∧ k ≤ os.length ∧ pl.length ≤ 10000 ∧ os.length ≤ 10000 ∧
  ((pl = [] ∨ (isT ps pl = true ∧ k = os.length)) → Q (.bl false) S) ∧
  ∀ S' k', pl ≠ [] → (isT ps pl = true → k < os.length) → Wk C S' w A (prD ks ps) (stepP ps pl (os[k]?.getD false)) os k' → k' = (if isT ps pl = true then k + 1 else k) → (∀ b, b ≠ w → b ≠ A → S' b = S b) → Q (.bl true) S'
theorem ok_Walk_onward {P : Program} {w : World} {K : PySem.W.Frag} {mg : Str → Option Value} {base : Heap} (T : Txt K mg) {c_Walk : Addr} (W_Walk : Tc_Walk K c_Walk) (C_row_at : Cal P w K mg base 2 "row_at" s_row_at ["program", "procedure", "index"] sp_row_at) (C_Walk_leave : CalM P w K mg base 2 c_Walk "leave" "Walk.leave" s_Walk_leave ["self"] (sp_Walk_leave c_Walk)) (C_Walk_move : CalM P w K mg base 1 c_Walk "move" "Walk.move" s_Walk_move ["self", "index"] (sp_Walk_move c_Walk)) (C_branch : Cal P w K mg base 1 "branch" s_branch ["row", "index", "outcome"] sp_branch) {ff : Addr} {fd : FuncData} (F : Fun K "onward" "Walk.onward" s_Walk_onward ff fd) (mm : Meth K c_Walk "onward" ff) : CalM P w K mg base 3 c_Walk "onward" "Walk.onward" s_Walk_onward ["self"] (sp_Walk_onward c_Walk) := by
  refine ⟨ff, fd, okD F sc_Walk_onward (fun ds S Q E h => ?len) (fun cdv A outer s H E ds S Q E' hcd hr h => ⟨_, (dss_cons (ds_if (dt_cmp (od_eq hr) (de_fld W_Walk.cl W_Walk.n_places (de_var 0)) (de_lf da_nil)) (dss_one (ds_ret de_bl)) dss_nil)
      (dss_cons (ds_asg (de_ix (xd_ix hr) (de_fld W_Walk.cl W_Walk.n_places (de_var 0)) (de_un ud_neg de_int)) (dg_tup (n := 2) rfl (dgs_cons (dg_name 1 sc_Walk_onward.nd) (dgs_cons (dg_name 2 sc_Walk_onward.nd) dgs_nil))))
      (dss_cons (ds_set 3 sc_Walk_onward.nd (de_c C_row_at hr (da_cons (de_fld W_Walk.cl W_Walk.n_program (de_var 0)) (da_cons (de_var 1) (da_cons (de_var 2) da_nil)))))
      (dss_cut (ds_if (dw_or (dt_cmp od_is (de_var 3) de_non) (dw_or1 (dt_cmp (od_eq hr) (de_ix (xd_ix hr) (de_var 3) de_int) de_str))).pt (dss_one (ds_expr (de_mt0 C_Walk_leave W_Walk.cl hr (de_var 0)))) (dss_one (ds_if (dt_cmp (od_eq hr) (de_ix (xd_ix hr) (de_var 3) de_int) de_str) (dss_one (ds_expr (de_m PySem.F.plainAttrs_list PySem.F.slot_list_append PySem.F.type_list_append md_append (de_fld W_Walk.cl W_Walk.n_places (de_var 0)) (da_cons (de_tup (da_cons (de_ix (xd_ix hr) (de_var 3) de_int) (da_cons de_int da_nil))) da_nil)))) (dss_one (ds_if (dt_cmp (od_eq hr) (de_ix (xd_ix hr) (de_var 3) de_int) de_str) (dss_one (ds_expr (de_mt C_Walk_move W_Walk.cl hr (de_var 0) (da_cons (de_ix (xd_ix hr) (de_var 3) de_int) da_nil)))) (dss_one (ds_if (dt_cmp (od_in hr) (de_ix (xd_ix hr) (de_var 3) de_int) (de_gt T.g_TESTS)) (dss_cons (ds_if (dt_cmp (od_eq hr) (de_fld W_Walk.cl W_Walk.n_passed (de_var 0)) (de_callB cd_len (by rfl) T.nb_len (da_cons (de_fld W_Walk.cl W_Walk.n_outcomes (de_var 0)) da_nil))) (dss_one (ds_ret de_bl)) dss_nil)
      (dss_cons (ds_expr (de_mt C_Walk_move W_Walk.cl hr (de_var 0) (da_cons (de_c C_branch hr (da_cons (de_var 3) (da_cons (de_var 2) (da_cons (de_ix (xd_ix hr) (de_fld W_Walk.cl W_Walk.n_outcomes (de_var 0)) (de_fld W_Walk.cl W_Walk.n_passed (de_var 0))) da_nil)))) da_nil)))
      (dss_one (ds_fldAdd W_Walk.cl W_Walk.n_passed (de_var 0) de_int)))) (dss_one (ds_expr (de_mt C_Walk_move W_Walk.cl hr (de_var 0) (da_cons (de_op (od_add false) (de_var 2) de_int) da_nil)))))))))))
      (dss_one (ds_ret de_bl)))))), ?run⟩), F.binds (ps := ["self"]) fun _ _ _ _ _ _ us hl => match us, hl with | [_], _ => rfl, mm, F⟩
  case len => obtain ⟨w, A, ks, ps, pl, os, k, rfl, _⟩ := h; rfl
  case run =>
    obtain ⟨w, A, ks, ps, pl, os, k, rfl, wk, okp, okl, hk, hpl, hos, qf, qt⟩ := h
    simp only [dVar, dC, dOp, dUn, dChain, dTr, dB, dAnd, dOr, dNot, dIf, dAndV, dOrV, dNotV, dNil, dCons, dTup, dLst, dLf, dNext, dSeq, dBreak, dCont, dDrop, dRet, dRetN, dIfS, gdName, gdNil, gdCons, gdTup, gdSub, dAsg, dPar, dCall, dCallK, dCB, dM0, dM, dGet1, dGet2, dDk, dDt, dPart, dNoPart, dSlice, dAug, dYes, dSort2, revD, iTupD, iLstD, iLf, iLw, iRange1, iRange2, iRange3, iEnumD, iZipD, iZipMD, iStrD, dGix, dDc, dIsi, dSortSet, dLenSet, dDlit, gdLst, dFor, dWhile, dLc, dLcM, dFld, dFldSet, dFldAdd, dMeth, dMake, dPar3, dCut, dTcut, wipeD, bodyE, startD, List.map_cons, List.map_nil, List.length_cons, List.length_nil, List.replicate_succ, List.replicate_zero, List.cons_append, List.nil_append, Nat.reduceAdd, Nat.reduceSub, Nat.zero_add, List.getElem?_cons_zero, List.getElem?_cons_succ, List.set_cons_zero, List.set_cons_succ, Option.some.injEq, exists_eq_left', exists_eq_left, if_true, sizeLine_eq, Nat.reduceLeDiff, Nat.reduceLT, Nat.zero_le, true_and, and_true, Bool.false_eq_true, if_false]
    obtain ⟨h1, h2, h3⟩ := wk
    have cmp : ∀ {p : Pl}, PlOk ps p → ∀ d ∈ p.map plD, Cm 1 d := fun {p} h d hd => by
      obtain ⟨⟨n, i⟩, hx, rfl⟩ := List.mem_map.mp hd
      obtain ⟨j, hj⟩ := List.mem_iff_getElem?.mp hx
      exact Cm.tup (cmc (Cm.str (okp.sh n (h j n i hj).1).1) (cm1 Cm.int))
    refine ⟨w, _, _, rfl, h1, wkF_pl _ _ _ _, eq_nilL h2 (cmp okl) ⟨_, rfl, ?_⟩⟩
    rcases List.eq_nil_or_concat pl with rfl | ⟨q, ⟨n, i⟩, e⟩
    · exact brT rfl (rt_of (qf (.inl rfl)))
    · rw [List.concat_eq_append] at e
      subst e
      have h2' : S A = some (.lst (q.map plD ++ [plD (n, i)])) := by rw [h2, List.map_append]; rfl
      have wk : Wk c_Walk S w A (prD ks ps) (q ++ [(n, i)]) os k := ⟨h1, h2, h3⟩
      obtain ⟨oq, hlast, hn, hi⟩ := okl.init
      have ne : q ++ [(n, i)] ≠ [] := by simp
      refine brF (by simp) ⟨w, _, _, rfl, h1, wkF_pl _ _ _ _, ng (ix_sq rfl (sq_l h2') at_z ⟨_, rfl, rfl, _, _, rfl, _, _, rfl, rfl, w, _, _, rfl, h1, wkF_pr _ _ _ _, ks, ps, n, i, rfl, okp, hn, hi, ?_⟩)⟩
      refine ⟨fun δ' S' => ∃ k', Wk c_Walk S' w A (prD ks ps) (stepP ps (q ++ [(n, i)]) (os[k]?.getD false)) os k' ∧ k' = (if isT ps (q ++ [(n, i)]) = true then k + 1 else k) ∧ (∀ b, b ≠ w → b ≠ A → S' b = S b) ∧ (isT ps (q ++ [(n, i)]) = true → k < os.length), ?_, ?_⟩
      · have j1 : ∀ {δ' : DSt} {p : Pl}, stepP ps (q ++ [(n, i)]) (os[k]?.getD false) = p → isT ps (q ++ [(n, i)]) = false → ∃ k', Wk c_Walk (up S A (.lst (p.map plD))) w A (prD ks ps) (stepP ps (q ++ [(n, i)]) (os[k]?.getD false)) os k' ∧ k' = (if isT ps (q ++ [(n, i)]) = true then k + 1 else k) ∧ (∀ b, b ≠ w → b ≠ A → (up S A (.lst (p.map plD))) b = S b) ∧ (isT ps (q ++ [(n, i)]) = true → k < os.length) := fun {δ' p} e1 e2 =>
          ⟨k, ⟨by rw [up_ne h3]; exact h1, by rw [up_same, e1], h3⟩, by rw [e2]; rfl, fun b _ b2 => up_ne b2, fun z => by rw [e2] at z; cases z⟩
        cases hr : (rowsOf ps n)[i]? with
        | none =>
          have e1 : ∀ o, stepP ps (q ++ [(n, i)]) o = bump q := fun o => by unfold stepP; rw [last_snoc]; dsimp only; rw [hr, List.dropLast_concat]
          have e2 : isT ps (q ++ [(n, i)]) = false := by unfold isT; rw [last_snoc]; dsimp only; rw [hr]
          unfold rowD
          rw [hr]
          exact ⟨rfl, _, rfl, brT (xt rfl) ⟨w, _, rfl, h1, wkF_no _ _ _ _ _ (by simp), w, A, prD ks ps, q, n, i, os, k, rfl, wk, cmp oq, j1 (δ' := []) (e1 _) e2⟩⟩
        | some r =>
          obtain ⟨p, g1, g2, g3⟩ := rowsOf_ok okp hn
          have okr := g3.ok r (by rw [← g2]; exact List.mem_of_getElem? hr)
          have e1 : ∀ o, stepP ps (q ++ [(n, i)]) o = (match r.k with
            | .ret => bump q
            | .call p => q ++ [(n, i)] ++ [(p, 0)]
            | .jump t => q ++ [(n, t)]
            | .test t => q ++ [(n, if o then t else i + 1)]
            | .oth => q ++ [(n, i + 1)]) := fun o => by unfold stepP; rw [last_snoc]; dsimp only; rw [hr, List.dropLast_concat]; first | done | rfl
          have e2 : isT ps (q ++ [(n, i)]) = (match r.k with | .test _ => true | _ => false) := by unfold isT; rw [last_snoc]; dsimp only; rw [hr]; first | done | rfl
          have sh := rw_sh okr
          have tsm : ∀ d ∈ tst.map D.str, Sm 1 40 d := fun d hd => by
            obtain ⟨x, hx, rfl⟩ := List.mem_map.mp hd
            exact Sm.str (by revert x; decide +kernel) (by revert x; decide +kernel)
          have inn : ∀ {S' : Sto} {Q' : KD}, Q' (.bl (decide (r.h ∈ tst))) S' → inD false (.str r.h) (.wt [.str "less", .str "same", .str "is"]) S' Q' := fun {S' Q'} qq =>
            in_of (k := 1) (w := 40) (Sm.str sh.1 sh.2) (ys := tst.map D.str) rfl tsm (by decide) (by decide) (fun _ e => nomatch e) (by rw [any_str, Bool.false_xor]; exact qq)
          unfold rowD
          rw [hr]
          refine ⟨rfl, _, rfl, brF (xf fun e => nomatch e) (ix_sq rfl rfl at_0 ⟨_, rfl, ?_⟩)⟩
          obtain ⟨x1, x2, x3, x4⟩ := kd_excl okr
          rcases rw_kind okr with ⟨kk, hh⟩ | ⟨p', kk, hh, _, _⟩ | ⟨t, kk, hh, _, _⟩ | ⟨t, kk, hh, _, _⟩ | ⟨kk, n1, n2, n3, n4⟩
          · rw [kk] at e1 e2
            exact brT (xt hh) ⟨w, _, rfl, h1, wkF_no _ _ _ _ _ (by simp), w, A, prD ks ps, q, n, i, os, k, rfl, wk, cmp oq, j1 (δ' := []) (e1 _) e2⟩
          · rw [kk] at e1 e2
            refine brF (xf fun z => by rw [kk] at x3; cases x3 z) (ix_sq rfl rfl at_0 ⟨_, rfl, brT (xt hh) ⟨w, _, _, rfl, h1, wkF_pl _ _ _ _, ty_l h2', ix_sq rfl rfl (at_n (i := 2) (rw_call kk)) (app_of h2' ?_ ?_)⟩⟩)
            · rw [List.length_append, List.length_map]
              rw [List.length_append] at hpl
              simp only [List.length_singleton, sizeLine_eq] at hpl ⊢
              omega
            · have z := j1 (δ' := []) (e1 _) e2
              rw [List.map_append, List.map_append] at z
              exact z
          · rw [kk] at e1 e2
            refine brF (xf fun z => by rw [kk] at x3; cases x3 z) (ix_sq rfl rfl at_0 ⟨_, rfl, brF (xf fun z => by rw [kk] at x1; obtain ⟨_, x1⟩ := x1 z; cases x1) (ix_sq rfl rfl at_0 ⟨_, rfl, brT (xt hh) ?_⟩)⟩)
            exact ⟨w, _, rfl, h1, wkF_no _ _ _ _ _ (by simp), ix_sq rfl rfl (at_n (i := 1) (rw_jump kk)) ⟨w, A, prD ks ps, q, n, i, os, k, t, rfl, wk, j1 (δ' := []) (e1 _) e2⟩⟩
          · rw [kk] at e1 e2
            refine brF (xf fun z => by rw [kk] at x3; cases x3 z) (ix_sq rfl rfl at_0 ⟨_, rfl, brF (xf fun z => by rw [kk] at x1; obtain ⟨_, x1⟩ := x1 z; cases x1) (ix_sq rfl rfl at_0 ⟨_, rfl, brF (xf fun z => by rw [kk] at x2; obtain ⟨_, x2⟩ := x2 z; cases x2) (ix_sq rfl rfl at_0 (inn ⟨_, rfl, brT (decide_eq_true hh) ?_⟩))⟩)⟩)
            refine ⟨w, _, _, rfl, h1, wkF_pd _ _ _ _, w, _, _, rfl, h1, wkF_os _ _ _ _, len_sq rfl ⟨_, rfl, ?_⟩⟩
            by_cases hE : k = os.length
            · exact brT (xt (by simp [hE])) (rt_of (qf (.inr ⟨e2, hE⟩)))
            · have hlt : k < os.length := by omega
              have ho : os[k]? = some os[k] := List.getElem?_eq_getElem hlt
              generalize os[k] = o at ho
              refine brF (xf (by simp; omega)) ⟨w, _, rfl, h1, wkF_no _ _ _ _ _ (by simp), w, _, _, rfl, h1, wkF_os _ _ _ _, w, _, _, rfl, h1, wkF_pd _ _ _ _, ix_sq rfl rfl (at_n (by rw [List.getElem?_map, ho]; rfl)) ⟨r, _, _, i, t, o, rfl, okr, kk, ?_⟩⟩
              refine ⟨w, A, prD ks ps, q, n, i, os, k, if o = true then t else i + 1, rfl, wk, ?_⟩
              refine ⟨w, _, (k : Nat), rfl, by rw [up_ne h3]; exact h1, wkF_pd _ _ _ _, 1, _, rfl, by rw [up_ne h3]; exact h1, by show 4 < 1000; decide, k + 1, ⟨by rw [up_same]; rfl, by rw [up_ne h3.symm, up_same, ho]; rw [e1]; rfl, h3⟩, by rw [e2]; rfl, fun b b1 b2 => by rw [up_ne b1, up_ne b2], fun _ => hlt⟩
          · rw [kk] at e1 e2
            refine brF (xf n1) (ix_sq rfl rfl at_0 ⟨_, rfl, brF (xf n2) (ix_sq rfl rfl at_0 ⟨_, rfl, brF (xf n3) (ix_sq rfl rfl at_0 (inn ⟨_, rfl, brF (decide_eq_false n4) ?_⟩))⟩)⟩)
            exact ⟨w, _, rfl, h1, wkF_no _ _ _ _ _ (by simp), add_i ⟨w, A, prD ks ps, q, n, i, os, k, i + 1, rfl, wk, j1 (δ' := []) (e1 _) e2⟩⟩
      · rintro δ' S' ⟨k', a1, a2, a3, a4⟩
        exact rt_of (qt S' k' ne a4 a1 a2 a3)
end K19


namespace K19
open PySem L2 PyProof.Rows DL
theorem runT_succ (ps : List Pc) (n : Nat) (pl : Pl) (os : List Bool) : runT ps (n + 1) pl os = if pl = [] then none else if isT ps pl = true then (match os with
    | [] => none
    | o :: os' => runT ps n (stepP ps pl o) os') else runT ps n (stepP ps pl false) os := rfl
theorem bump_len (q : Pl) : (bump q).length = q.length := by
  rcases List.eq_nil_or_concat q with rfl | ⟨q', ⟨n, i⟩, e⟩
  · rfl
  · rw [List.concat_eq_append] at e
    subst e
    unfold bump
    rw [last_snoc]
    dsimp only
    rw [List.dropLast_concat, List.length_append, List.length_append]
    rfl
theorem step_len (ps : List Pc) (pl : Pl) (o : Bool) : (stepP ps pl o).length ≤ pl.length + 1 := by
  rcases List.eq_nil_or_concat pl with rfl | ⟨q, ⟨n, i⟩, e⟩
  · exact Nat.zero_le _
  · rw [List.concat_eq_append] at e
    subst e
    unfold stepP
    rw [last_snoc]
    dsimp only
    rw [List.dropLast_concat]
    have hb := bump_len q
    split
    · rw [hb, List.length_append]; omega
    · split <;> first | (rw [hb, List.length_append]; omega) | (simp only [List.length_append, List.length_singleton]; omega)
/-! ### ways -/
theorem form_tp {d : D} (h : isTp d = false) : formD d = none := by
  unfold formD
  split
  · cases h
  · rfl
theorem form_len {ds : List D} (h : ds.length ≠ 2) : formD (.tup ds) = none := by
  unfold formD
  split
  · rename_i e
    cases e
    exact absurd rfl h
  · rfl
theorem form_i {a b : D} (h : isI a = false) : formD (.tup [a, b]) = none := by
  unfold formD
  split
  · rename_i e
    cases e
    cases h
  · rfl
theorem form_r {i : Int} {b : D} (h : ¬ (0 ≤ i ∧ i ≤ 3000)) : formD (.tup [.int i, b]) = none := by
  unfold formD
  split
  · rename_i e
    cases e
    rw [if_neg (fun z => h ⟨z.1, z.2.1⟩)]
  · rfl
theorem form_t {i : Int} {b : D} (h : isTp b = false) : formD (.tup [.int i, b]) = none := by
  unfold formD
  split
  · rename_i e
    cases e
    cases h
  · rfl
theorem form_ok {i : Int} {bs : List D} (h0 : 0 ≤ i) (h1 : i ≤ 3000) : formD (.tup [.int i, .tup bs]) = if bs.all isB = true then some (i, bs.map bOf) else none := by
  show (if 0 ≤ i ∧ i ≤ 3000 ∧ bs.all isB = true then some (i, bs.map bOf) else none) = _
  by_cases h : bs.all isB = true
  · rw [if_pos ⟨h0, h1, h⟩, if_pos h]
  · rw [if_neg (fun z => h z.2.2), if_neg h]
def sp_has_form : SpD := fun ds S Q _ => ∃ d, ds = [d] ∧ AnyD S d ∧ (∀ xs, d = .tup xs → xs.length ≤ 100000 ∧ ∀ ys, .tup ys ∈ xs → ys.length ≤ 100000) ∧ Q (.bl (formD d).isSome) S
theorem ok_has_form {P : Program} {w : World} {K : PySem.W.Frag} {mg : Str → Option Value} {base : Heap} (T : Txt K mg) (C_is_integer : Cal P w K mg base 1 "is_integer" s_is_integer ["thing"] sp_is_integer) {ff : Addr} {fd : FuncData} (F : Fun K "has_form" "has_form" s_has_form ff fd) (mf : mg "has_form" = some (.ref ff)) : Cal P w K mg base 2 "has_form" s_has_form ["thing"] sp_has_form := by
  refine ⟨ff, fd, okD F sc_has_form (fun ds S Q E h => ?len) (fun cdv A outer s H E ds S Q E' hcd hr h => ⟨_, (dss_cons (ds_if (dw_or (dt_not (dt_tr td_tru (de_isi (tn := "tuple") (by rfl) T.nb_isinstance (by rfl) T.nb_tuple (de_var 0)))) (dw_or (dt_cmp (od_ne hr) (de_callB cd_len (by rfl) T.nb_len (da_cons (de_var 0) da_nil)) de_int) (dw_or1 (dt_not (dt_tr td_tru (de_c C_is_integer hr (da_cons (de_ix (xd_ix hr) (de_var 0) de_int) da_nil))))))).pt (dss_one (ds_ret de_bl)) dss_nil)
      (dss_cons (ds_if (dw_or (dt_not (dt_chain od_le od_le de_int (de_ix (xd_ix hr) (de_var 0) de_int) (de_gi T.g_MOST_STEPS))) (dw_or1 (dt_not (dt_tr td_tru (de_isi (tn := "tuple") (by rfl) T.nb_isinstance (by rfl) T.nb_tuple (de_ix (xd_ix hr) (de_var 0) de_int)))))).pt (dss_one (ds_ret de_bl)) dss_nil)
      (dss_one (ds_ret (de_callB (cd_all rfl) (by rfl) T.nb_all (da_cons (de_lc [("outcome", 1)] rfl sc_has_form.nd (di_tup (de_ix (xd_ix hr) (de_var 0) de_int)) (blkOk_by (N := ["thing", "outcome"]) (sc := defScope s_has_form) (by decide +kernel)) (fun _ _ _ _ _ => (pg_name (i := 1) sc_has_form.nd rfl (Or.inl rfl) (Or.inr rfl))) (fun N => (tg_name (vs := [1]) (i := 1) (by decide))) (fun _ _ _ _ _ => dts_nil) (fun _ _ _ _ _ => (de_isi (tn := "bool") (by rfl) T.nb_isinstance (by rfl) T.nb_bool (de_var 1)))) da_nil)))))), ?run⟩), F.binds (ps := ["thing"]) fun _ _ _ _ _ _ us hl => match us, hl with | [_], _ => rfl, mf, F⟩
  case len => obtain ⟨d, rfl, _⟩ := h; rfl
  case run =>
    obtain ⟨d, rfl, hd, hl, q⟩ := h
    simp only [dVar, dC, dOp, dUn, dChain, dTr, dB, dAnd, dOr, dNot, dIf, dAndV, dOrV, dNotV, dNil, dCons, dTup, dLst, dLf, dNext, dSeq, dBreak, dCont, dDrop, dRet, dRetN, dIfS, gdName, gdNil, gdCons, gdTup, gdSub, dAsg, dPar, dCall, dCallK, dCB, dM0, dM, dGet1, dGet2, dDk, dDt, dPart, dNoPart, dSlice, dAug, dYes, dSort2, revD, iTupD, iLstD, iLf, iLw, iRange1, iRange2, iRange3, iEnumD, iZipD, iZipMD, iStrD, dGix, dDc, dIsi, dSortSet, dLenSet, dDlit, gdLst, dFor, dWhile, dLc, dLcM, dFld, dFldSet, dFldAdd, dMeth, dMake, dPar3, dCut, dTcut, wipeD, bodyE, startD, List.map_cons, List.map_nil, List.length_cons, List.length_nil, List.replicate_succ, List.replicate_zero, List.cons_append, List.nil_append, Nat.reduceAdd, Nat.reduceSub, Nat.zero_add, List.getElem?_cons_zero, List.getElem?_cons_succ, List.set_cons_zero, List.set_cons_succ, Option.some.injEq, exists_eq_left', exists_eq_left, if_true, sizeLine_eq, Nat.reduceLeDiff, Nat.reduceLT, Nat.zero_le, true_and, and_true, Bool.false_eq_true, if_false]
    obtain ⟨t, h1, h2, _, _⟩ := any_ty hd
    have no : ∀ {S' : Sto}, S' = S → formD d = none → ∃ d1 S1, VW (D.bl false) S' d1 S1 ∧ Q d1 S1 := fun {S'} e0 e => by
      rw [e] at q
      rw [e0]
      exact rt_of q
    refine ⟨t, h1, tru_b ?_⟩
    rw [h2]
    cases hT : isTp d with
    | false => exact brT rfl (no rfl (form_tp hT))
    | true =>
      obtain ⟨ds, rfl, hv⟩ := tp_of hd hT
      refine brF rfl (len_sq rfl ⟨_, rfl, ?_⟩)
      by_cases l2 : ds.length = 2
      · obtain ⟨a, b, rfl⟩ : ∃ a b, ds = [a, b] := by
          match ds, l2 with
          | [a, b], _ => exact ⟨a, b, rfl⟩
        have va := hv a (by simp)
        have vb := hv b (by simp)
        refine brF (nxf rfl) (ix_sq rfl rfl at_0 ⟨a, rfl, .inl va, tru_b ?_⟩)
        cases hI : isI a with
        | false => exact brT rfl (no rfl (form_i hI))
        | true =>
          obtain ⟨i, rfl⟩ := i_of va hI
          refine brF rfl (ix_sq rfl rfl at_0 (it_of trivial ⟨_, rfl, ?_⟩))
          by_cases h0 : 0 ≤ i
          · refine brT (decide_eq_true h0) (it_of trivial ⟨_, rfl, ?_⟩)
            by_cases h3 : i ≤ 3000
            · obtain ⟨t', g1, g2, _, _⟩ := any_ty (S := S) (.inl vb)
              refine brF (by rw [decide_eq_true h3]; rfl) (ix_sq rfl rfl (at_n (i := 1) rfl) ⟨t', g1, tru_b ?_⟩)
              rw [g2]
              cases hB : isTp b with
              | false => exact brT rfl (no rfl (form_t hB))
              | true =>
                obtain ⟨bs, rfl, hb⟩ := tp_of (S := S) (.inl vb) hB
                have lb := (hl _ rfl).2 bs (by simp)
                refine brF rfl (ix_sq rfl rfl (at_n (i := 1) rfl) ⟨bs, .inl rfl, ?_⟩)
                refine lc_seq (fun i acc S' => S' = S ∧ acc = ((bs.take i).map isB).map D.bl) ⟨rfl, rfl⟩ ?_ ?_
                · rintro j x acc S' hx ⟨rfl, rfl⟩
                  have hj := (List.getElem?_eq_some_iff.mp hx).1
                  obtain ⟨t2, k1, _, _, k4⟩ := any_ty (S := S') (.inl (hb x (List.mem_of_getElem? hx)))
                  refine ⟨by rw [List.length_map, List.length_map, List.length_take, sizeLine_eq]; omega, t2, k1, rfl, ?_⟩
                  rw [k4, tk1 hx, List.map_append, List.map_append]
                  rfl
                · rintro j acc S' hj ⟨rfl, rfl⟩
                  rw [List.take_of_length_le hj]
                  refine ⟨_, bs.map isB, rfl, rfl, rt_of ?_⟩
                  rw [form_ok h0 h3] at q
                  have e : (bs.map isB).all _root_.id = bs.all isB := by rw [List.all_map]; rfl
                  rw [e]
                  cases hA : bs.all isB with
                  | true => rw [hA] at q; exact q
                  | false => rw [hA] at q; exact q
            · exact brT (by rw [decide_eq_false h3]; rfl) (no rfl (form_r fun z => h3 z.2))
          · exact brF (decide_eq_false h0) ⟨_, rfl, brT rfl (no rfl (form_r fun z => h0 z.1))⟩
      · exact brT (by simp; omega) (no rfl (form_len l2))
theorem form_some {S : Sto} {d : D} {i : Int} {os : List Bool} (hd : AnyD S d) (h : formD d = some (i, os)) : d = .tup [.int i, .tup (os.map D.bl)] ∧ 0 ≤ i ∧ i ≤ 3000 := by
  unfold formD at h
  split at h
  · rename_i i' bs
    split at h
    · rename_i hc
      cases h
      obtain ⟨ds, e, hv⟩ := tp_of hd rfl
      cases e
      have hb := hv (.tup bs) (by simp)
      have hb' : ∀ x ∈ bs, Vl x := by cases hb; assumption
      refine ⟨?_, hc.1, hc.2.1⟩
      rw [← bs_of hb' hc.2.2]
    · cases h
  · cases h
def sp_is_way : SpD := fun ds S Q _ => ∃ (ks : D) (ps : List Pc) (fs : List Fm) (c m d : D), ds = [prD ks ps, stD fs c m, d] ∧ PrOk ps ∧ PlOk ps (plOf fs) ∧ fs.length ≤ 100 ∧ AnyD S d ∧ (∀ xs, d = .tup xs → xs.length ≤ 100000 ∧ ∀ ys, .tup ys ∈ xs → ys.length ≤ 5000) ∧ Q (.bl (wayD ps (plOf fs) d)) S
theorem ok_is_way {P : Program} {w : World} {K : PySem.W.Frag} {mg : Str → Option Value} {base : Heap} (T : Txt K mg) {c_Walk : Addr} (W_Walk : Tc_Walk K c_Walk) (C_Walk_init : CalI P w K mg base 1 c_Walk "Walk" "Walk.__init__" s_Walk_init ["self", "program", "state", "outcomes"] (sp_Walk_init c_Walk)) (C_has_form : Cal P w K mg base 2 "has_form" s_has_form ["thing"] sp_has_form) (C_Walk_onward : CalM P w K mg base 3 c_Walk "onward" "Walk.onward" s_Walk_onward ["self"] (sp_Walk_onward c_Walk)) {ff : Addr} {fd : FuncData} (F : Fun K "is_way" "is_way" s_is_way ff fd) (mf : mg "is_way" = some (.ref ff)) : Cal P w K mg base 4 "is_way" s_is_way ["program", "state", "thing"] sp_is_way := by
  refine ⟨ff, fd, okD F sc_is_way (fun ds S Q E h => ?len) (fun cdv A outer s H E ds S Q E' hcd hr h => ⟨_, (dss_cons (ds_if (dt_not (dt_tr td_tru (de_c C_has_form hr (da_cons (de_var 2) da_nil)))) (dss_one (ds_ret de_bl)) dss_nil)
      (dss_cons (ds_set 3 sc_is_way.nd (de_mk C_Walk_init hr (da_cons (de_var 0) (da_cons (de_var 1) (da_cons (de_ix (xd_ix hr) (de_var 2) de_int) da_nil)))))
      (dss_cons (ds_for PassesOwn.never rfl (di_range1 (by rfl) T.nb_range (da_cons (de_ix (xd_ix hr) (de_var 2) de_int) da_nil)) (dg_name 4 sc_is_way.nd) (dss_one (ds_if (dt_not (dt_tr td_tru (de_mt0 C_Walk_onward W_Walk.cl hr (de_var 3)))) (dss_one (ds_ret de_bl)) dss_nil)))
      (dss_one (ds_ret (de_cmp (od_eq hr) (de_fld W_Walk.cl W_Walk.n_passed (de_var 3)) (de_callB cd_len (by rfl) T.nb_len (da_cons (de_ix (xd_ix hr) (de_var 2) de_int) da_nil)))))))), ?run⟩), F.binds (ps := ["program", "state", "thing"]) fun _ _ _ _ _ _ us hl => match us, hl with | [_, _, _], _ => rfl, mf, F⟩
  case len => obtain ⟨ks, ps, fs, c, m, d, rfl, _⟩ := h; rfl
  case run =>
    obtain ⟨ks, ps, fs, c, m, d, rfl, okp, okl, l100, hd, hl, q⟩ := h
    simp only [dVar, dC, dOp, dUn, dChain, dTr, dB, dAnd, dOr, dNot, dIf, dAndV, dOrV, dNotV, dNil, dCons, dTup, dLst, dLf, dNext, dSeq, dBreak, dCont, dDrop, dRet, dRetN, dIfS, gdName, gdNil, gdCons, gdTup, gdSub, dAsg, dPar, dCall, dCallK, dCB, dM0, dM, dGet1, dGet2, dDk, dDt, dPart, dNoPart, dSlice, dAug, dYes, dSort2, revD, iTupD, iLstD, iLf, iLw, iRange1, iRange2, iRange3, iEnumD, iZipD, iZipMD, iStrD, dGix, dDc, dIsi, dSortSet, dLenSet, dDlit, gdLst, dFor, dWhile, dLc, dLcM, dFld, dFldSet, dFldAdd, dMeth, dMake, dPar3, dCut, dTcut, wipeD, bodyE, startD, List.map_cons, List.map_nil, List.length_cons, List.length_nil, List.replicate_succ, List.replicate_zero, List.cons_append, List.nil_append, Nat.reduceAdd, Nat.reduceSub, Nat.zero_add, List.getElem?_cons_zero, List.getElem?_cons_succ, List.set_cons_zero, List.set_cons_succ, Option.some.injEq, exists_eq_left', exists_eq_left, if_true, sizeLine_eq, Nat.reduceLeDiff, Nat.reduceLT, Nat.zero_le, true_and, and_true, Bool.false_eq_true, if_false]
    refine ⟨d, rfl, hd, fun xs e => ⟨(hl xs e).1, fun ys hy => Nat.le_trans ((hl xs e).2 ys hy) (by decide)⟩, tru_b ?_⟩
    cases hf : formD d with
    | none => exact brT rfl (rt_of (by unfold wayD at q; rw [hf] at q; exact q))
    | some v =>
      obtain ⟨i, os⟩ := v
      obtain ⟨rfl, i0, i3⟩ := form_some hd hf
      have los : os.length ≤ 5000 := by
        have := (hl _ rfl).2 (os.map D.bl) (by simp)
        rw [List.length_map] at this
        exact this
      unfold wayD at q
      rw [hf] at q
      dsimp only at q
      refine brF rfl (ix_sq rfl rfl (at_n (i := 1) rfl) fun w nw => ⟨w, prD ks ps, fs, c, m, os, rfl, up_same, l100, fun A S' nA wk off => ⟨rfl, ?_⟩⟩)
      have neA : A ≠ w := fun e => by rw [e, up_same] at nA; cases nA
      have nA' : S A = none := by rw [up_ne neA] at nA; exact nA
      have off0 : ∀ b, b ≠ w → b ≠ A → S' b = S b := fun b b1 b2 => by rw [off b b1 b2, up_ne b1]
      have sub : ∀ {S2 : Sto}, (∀ b, b ≠ w → b ≠ A → S2 b = S b) → DL.Sub S S2 := fun {S2} h a o e => by
        rw [h a (fun z => by rw [z, nw] at e; cases e) (fun z => by rw [z, nA'] at e; cases e)]
        exact e
      refine ix_sq rfl rfl at_0 ⟨i, rfl, by omega, by omega, ?_⟩
      refine fr_rng (fun j δ S2 => ∃ (k : Nat) (pl : Pl) (r4 : Option D), δ = [some (prD ks ps), some (stD fs c m), some (.tup [.int i, .tup (os.map D.bl)]), some (.ref w), r4] ∧ j ≤ i.toNat ∧ Wk c_Walk S2 w A (prD ks ps) pl os k ∧ k ≤ os.length ∧ PlOk ps pl ∧ pl.length ≤ 100 + j ∧
        runT ps i.toNat (plOf fs) os = runT ps (i.toNat - j) pl (os.drop k) ∧ ∀ b, b ≠ w → b ≠ A → S2 b = S b) ⟨0, plOf fs, none, rfl, Nat.zero_le _, wk, Nat.zero_le _, okl, by unfold plOf; rw [List.length_map]; omega, rfl, off0⟩ ?_ ?_
      · rintro j δ S2 hj ⟨k, pl, r4, rfl, hji, wk2, hk, ok2, ln, hr, off2⟩
        rw [show i.toNat - j = (i.toNat - (j + 1)) + 1 by omega] at hr
        rw [runT_succ] at hr
        refine ⟨_, rfl, w, _, rfl, wk2.1, wkF_no _ _ _ _ _ (by simp), w, A, ks, ps, pl, os, k, rfl, wk2, okp, ok2, hk, by omega, by omega, fun bad => ?_, fun S3 k' ne ht wk' ek off' => ?_⟩
        · refine tru_b (brT rfl (rt_sub (sub off2) ?_))
          have e : runT ps i.toNat (plOf fs) os = none := by
            rw [hr]
            rcases bad with e | ⟨e1, e2⟩
            · rw [if_pos e]
            · split
              · rfl
              · rw [e2, List.drop_length]
          rw [e] at q
          exact q
        · rw [if_neg ne] at hr
          have off3 : ∀ b, b ≠ w → b ≠ A → S3 b = S b := fun b b1 b2 => by rw [off' b b1 b2, off2 b b1 b2]
          cases hT : isT ps pl with
          | true =>
            have hlt := ht hT
            rw [hT, if_pos rfl] at ek hr
            subst ek
            have ho : os[k]? = some os[k] := List.getElem?_eq_getElem hlt
            rw [List.drop_eq_getElem_cons hlt] at hr
            rw [ho] at wk'
            have lst : (stepP ps pl (os[k])).length ≤ pl.length + 1 := step_len _ _ _
            exact tru_b (brF rfl ⟨k + 1, _, _, rfl, hj, wk', hlt, step_ok okp ok2 _, by show (stepP ps pl os[k]).length ≤ _; omega, hr, off3⟩)
          | false =>
            rw [hT, if_neg Bool.false_ne_true] at ek hr
            subst ek
            rw [step_irr hT] at wk'
            have lst : (stepP ps pl false).length ≤ pl.length + 1 := step_len _ _ _
            exact tru_b (brF rfl ⟨k', _, _, rfl, hj, wk', hk, step_ok okp ok2 _, by omega, hr, off3⟩)
      · rintro j δ S2 hj ⟨k, pl, r4, rfl, hji, wk2, hk, ok2, ln, hr, off2⟩
        rw [show i.toNat - j = 0 by omega] at hr
        have hr' : runT ps i.toNat (plOf fs) os = some (os.drop k) := hr
        rw [hr'] at q
        refine ⟨_, rfl, w, _, _, rfl, wk2.1, wkF_pd _ _ _ _, _, rfl, ix_sq rfl rfl (at_n (i := 1) rfl) (len_sq rfl (rt_sub (sub off2) ?_))⟩
        have e : decide (some (os.drop k) = some []) = xor false (decide (((k : Nat) : Int) = (((os.map D.bl).length : Nat) : Int))) := by
          rw [Bool.false_xor, List.length_map]
          by_cases h : k = os.length
          · subst h; simp
          · have h' : ¬ os.drop k = [] := fun z => h (by have := List.drop_eq_nil_iff.mp z; omega)
            rw [decide_eq_false (by simpa using h'), decide_eq_false (by omega)]
        rw [e] at q
        exact q
def sp__law_named : SpD := fun ds S Q _ => ∃ (ks : D) (ps : List Pc) (x : Str) (p : Pc), ds = [prD ks ps, .str x] ∧ ps.length ≤ 10 ∧ pcOf ps x = some p ∧ Q (pcD p) S
theorem ok__law_named {P : Program} {w : World} {K : PySem.W.Frag} {mg : Str → Option Value} {base : Heap} (T : Txt K mg)  {ff : Addr} {fd : FuncData} (F : Fun K "_law_named" "_law_named" s__law_named ff fd) (mf : mg "_law_named" = some (.ref ff)) : Cal P w K mg base 1 "_law_named" s__law_named ["code", "name"] sp__law_named := by
  refine ⟨ff, fd, okD F sc__law_named (fun ds S Q E h => ?len) (fun cdv A outer s H E ds S Q E' hcd hr h => ⟨_, (dss_one (ds_ret (de_ix (xd_ix hr) (de_lc [("one", 2)] rfl sc__law_named.nd (di_tup (de_ix (xd_ix hr) (de_var 0) de_int)) (blkOk_by (N := ["code", "name", "one"]) (sc := defScope s__law_named) (by decide +kernel)) (fun _ _ _ _ _ => (pg_name (i := 2) sc__law_named.nd rfl (Or.inl rfl) (Or.inr rfl))) (fun N => (tg_name (vs := [2]) (i := 2) (by decide))) (fun _ _ _ _ _ => pts_one (dt_cmp (od_eq hr) (de_ix (xd_ix hr) (de_var 2) de_int) (de_var 1))) (fun _ _ _ _ _ => (de_var 2))) de_int))), ?run⟩), F.binds (ps := ["code", "name"]) fun _ _ _ _ _ _ us hl => match us, hl with | [_, _], _ => rfl, mf, F⟩
  case len => obtain ⟨ks, ps, x, p, rfl, _⟩ := h; rfl
  case run =>
    obtain ⟨ks, ps, x, p, rfl, h10, hp, q⟩ := h
    simp only [dVar, dC, dOp, dUn, dChain, dTr, dB, dAnd, dOr, dNot, dIf, dAndV, dOrV, dNotV, dNil, dCons, dTup, dLst, dLf, dNext, dSeq, dBreak, dCont, dDrop, dRet, dRetN, dIfS, gdName, gdNil, gdCons, gdTup, gdSub, dAsg, dPar, dCall, dCallK, dCB, dM0, dM, dGet1, dGet2, dDk, dDt, dPart, dNoPart, dSlice, dAug, dYes, dSort2, revD, iTupD, iLstD, iLf, iLw, iRange1, iRange2, iRange3, iEnumD, iZipD, iZipMD, iStrD, dGix, dDc, dIsi, dSortSet, dLenSet, dDlit, gdLst, dFor, dWhile, dLc, dLcM, dFld, dFldSet, dFldAdd, dMeth, dMake, dPar3, dCut, dTcut, wipeD, bodyE, startD, List.map_cons, List.map_nil, List.length_cons, List.length_nil, List.replicate_succ, List.replicate_zero, List.cons_append, List.nil_append, Nat.reduceAdd, Nat.reduceSub, Nat.zero_add, List.getElem?_cons_zero, List.getElem?_cons_succ, List.set_cons_zero, List.set_cons_succ, Option.some.injEq, exists_eq_left', exists_eq_left, if_true, sizeLine_eq, Nat.reduceLeDiff, Nat.reduceLT, Nat.zero_le, true_and, and_true, Bool.false_eq_true, if_false]
    have s1 : (1000 : Nat) ≤ sizeLine := by decide
    refine ix_sq rfl rfl (at_n (i := 1) rfl) ⟨_, .inl rfl, lc_seq (fun i acc S' => S' = S ∧ acc = ((ps.take i).filter fun p => decide (p.1 = x)).map pcD) ⟨rfl, rfl⟩ ?_ ?_⟩
    · rintro i y acc S' hy ⟨rfl, rfl⟩
      obtain ⟨p', hp', rfl⟩ := map_at hy
      refine ⟨by rw [List.length_map]; have := List.length_filter_le (fun p : Pc => decide (p.1 = x)) (ps.take i); rw [List.length_take] at this; omega, ix_sq rfl rfl at_0 ⟨_, rfl, ?_⟩⟩
      by_cases h : p'.1 = x
      · refine brT (xt h) ⟨rfl, ?_⟩
        rw [tk1 hp', List.filter_append, List.map_append, List.filter_cons, if_pos (by simpa using h)]
        rfl
      · refine brF (xf h) ⟨rfl, ?_⟩
        rw [tk1 hp', List.filter_append, List.filter_cons, if_neg (by simpa using h)]
        simp
    · rintro i acc S' hi ⟨rfl, rfl⟩
      rw [List.take_of_length_le (by simpa using hi)]
      refine ix_sq rfl rfl (at_n (i := 0) (by rw [List.getElem?_map]; unfold pcOf at hp; rw [hp]; rfl)) (rt_of q)
theorem lv_goal {q' : Pl} {S : Sto} {Q : KD} (hl : q'.length ≤ 10000) (q : Q (.fl ((bump q').map plD)) S) : negD (D.int 1) S fun x S1 => ∃ i, x = D.int i ∧ sliceD false (.fl (q'.map plD)) none (some i) S1 fun x S1 => negD (D.int 1) S1 fun y S1 => ∃ i, y = .int i ∧ sliceD false (.fl (q'.map plD)) (some i) none S1 fun z S1 => ∃ ds, z = .fl ds ∧
    ∃ (W : Nat → List D → Sto → Prop) (n : Nat), W 0 [] S1 ∧ ∀ i acc S2, W i acc S2 → ∃ r, seqI ds i S2 = some r ∧ (r = none → addD false x (.fl acc) S2 fun d S' => ∃ d1 S1, VW d S' d1 S1 ∧ Q d1 S1) ∧
      ∀ x, r = some x → i < n ∧ acc.length < 16777216 ∧ ∃ ds, x = .tup ds ∧ ds.length = 2 ∧ ∃ d r, ds = d :: r ∧ ∃ d1 r1, r = d1 :: r1 ∧ r1 = [] ∧ addD false d1 (.int 1) S2 fun x S1 => W (i + 1) (acc ++ [.tup [d, x]]) S1 := by
  refine ng ⟨_, rfl, sl_f rfl ?_⟩
  rw [cut_init]
  refine ng ⟨_, rfl, sl_f rfl ?_⟩
  rw [cut_last]
  rcases List.eq_nil_or_concat q' with rfl | ⟨q', ⟨m, k⟩, e⟩
  · refine ⟨_, rfl, lc_seq (fun i acc S' => S' = S ∧ acc = []) ⟨rfl, rfl⟩ ?_ ?_⟩
    · rintro i x acc S' hx _
      cases hx
    · rintro i acc S' _ ⟨rfl, rfl⟩
      exact add_f rfl rfl (Nat.zero_le _) (rt_of q)
  · rw [List.concat_eq_append] at e
    subst e
    unfold bump at q
    rw [last_snoc] at q
    dsimp only at q
    rw [List.dropLast_concat, List.map_append] at q
    have e2 : (q' ++ [(m, k)]).map plD = q'.map plD ++ [plD (m, k)] := by rw [List.map_append]; rfl
    rw [e2, last_snoc, List.dropLast_concat]
    refine ⟨_, rfl, lc_seq (fun i acc S' => S' = S ∧ i ≤ 1 ∧ acc = if i = 0 then [] else [plD (m, k + 1)]) ⟨rfl, by decide, rfl⟩ ?_ ?_⟩
    · rintro i x acc S' hx ⟨rfl, h1, rfl⟩
      have hi : i = 0 := by have := (List.getElem?_eq_some_iff.mp hx).1; simp at this; exact this
      subst hi
      cases hx
      exact ⟨by show 0 < sizeLine; decide, _, rfl, rfl, _, _, rfl, _, _, rfl, rfl, add_i ⟨rfl, by decide, rfl⟩⟩
    · rintro i acc S' hi ⟨rfl, h1, rfl⟩
      have hi : i = 1 := by simp at hi; omega
      subst hi
      rw [List.length_append] at hl
      exact add_f rfl rfl (by rw [List.length_map, sizeLine_eq]; simp at hl ⊢; omega) (rt_of q)
/-- the places of the law: a list that stands -/
def sp__law_is_test : SpD := fun ds S Q _ => ∃ (ks : D) (ps : List Pc) (pl : Pl), ds = [prD ks ps, .fl (pl.map plD)] ∧ PrOk ps ∧ PlOk ps pl ∧ pl ≠ [] ∧ Q (.bl (isT ps pl)) S
theorem ok__law_is_test {P : Program} {w : World} {K : PySem.W.Frag} {mg : Str → Option Value} {base : Heap} (T : Txt K mg) (C__law_named : Cal P w K mg base 1 "_law_named" s__law_named ["code", "name"] sp__law_named) {ff : Addr} {fd : FuncData} (F : Fun K "_law_is_test" "_law_is_test" s__law_is_test ff fd) (mf : mg "_law_is_test" = some (.ref ff)) : Cal P w K mg base 2 "_law_is_test" s__law_is_test ["code", "places"] sp__law_is_test := by
  refine ⟨ff, fd, okD F sc__law_is_test (fun ds S Q E h => ?len) (fun cdv A outer s H E ds S Q E' hcd hr h => ⟨_, (dss_cons (ds_asg (de_ix (xd_ix hr) (de_var 1) (de_un ud_neg de_int)) (dg_tup (n := 2) rfl (dgs_cons (dg_name 2 sc__law_is_test.nd) (dgs_cons (dg_name 3 sc__law_is_test.nd) dgs_nil))))
      (dss_cons (ds_set 4 sc__law_is_test.nd (de_ix (xd_ix hr) (de_c C__law_named hr (da_cons (de_var 0) (da_cons (de_var 2) da_nil))) de_int))
      (dss_one (ds_ret (de_and (de_cmp od_lt (de_var 3) (de_callB cd_len (by rfl) T.nb_len (da_cons (de_var 4) da_nil))) (de_one (de_cmp (od_in hr) (de_ix (xd_ix hr) (de_ix (xd_ix hr) (de_var 4) (de_var 3)) de_int) (de_tup (da_cons de_str (da_cons de_str (da_cons de_str da_nil))))))))))), ?run⟩), F.binds (ps := ["code", "places"]) fun _ _ _ _ _ _ us hl => match us, hl with | [_, _], _ => rfl, mf, F⟩
  case len => obtain ⟨ks, ps, pl, rfl, _⟩ := h; rfl
  case run =>
    obtain ⟨ks, ps, pl, rfl, okp, okl, ne, q⟩ := h
    simp only [dVar, dC, dOp, dUn, dChain, dTr, dB, dAnd, dOr, dNot, dIf, dAndV, dOrV, dNotV, dNil, dCons, dTup, dLst, dLf, dNext, dSeq, dBreak, dCont, dDrop, dRet, dRetN, dIfS, gdName, gdNil, gdCons, gdTup, gdSub, dAsg, dPar, dCall, dCallK, dCB, dM0, dM, dGet1, dGet2, dDk, dDt, dPart, dNoPart, dSlice, dAug, dYes, dSort2, revD, iTupD, iLstD, iLf, iLw, iRange1, iRange2, iRange3, iEnumD, iZipD, iZipMD, iStrD, dGix, dDc, dIsi, dSortSet, dLenSet, dDlit, gdLst, dFor, dWhile, dLc, dLcM, dFld, dFldSet, dFldAdd, dMeth, dMake, dPar3, dCut, dTcut, wipeD, bodyE, startD, List.map_cons, List.map_nil, List.length_cons, List.length_nil, List.replicate_succ, List.replicate_zero, List.cons_append, List.nil_append, Nat.reduceAdd, Nat.reduceSub, Nat.zero_add, List.getElem?_cons_zero, List.getElem?_cons_succ, List.set_cons_zero, List.set_cons_succ, Option.some.injEq, exists_eq_left', exists_eq_left, if_true, sizeLine_eq, Nat.reduceLeDiff, Nat.reduceLT, Nat.zero_le, true_and, and_true, Bool.false_eq_true, if_false]
    rcases List.eq_nil_or_concat pl with rfl | ⟨q', ⟨n, i⟩, e⟩
    · exact absurd rfl ne
    · rw [List.concat_eq_append] at e
      subst e
      obtain ⟨oq, hlast, hn, hi⟩ := okl.init
      obtain ⟨p, g1, g2, g3⟩ := rowsOf_ok okp hn
      have l6 := okp.l
      have e2 : (q' ++ [(n, i)]).map plD = q'.map plD ++ [plD (n, i)] := by rw [List.map_append]; rfl
      rw [e2]
      refine ng (ix_sq rfl rfl at_z ⟨_, rfl, rfl, _, _, rfl, _, _, rfl, rfl, ks, ps, n, p, rfl, by omega, g1, ix_sq rfl rfl (at_n (i := 2) rfl) (len_sq rfl ⟨_, rfl, ?_⟩)⟩)
      have e3 : isT ps (q' ++ [(n, i)]) = (match (rowsOf ps n)[i]? with | none => false | some r => match r.k with | .test _ => true | _ => false) := by unfold isT; rw [last_snoc]; first | done | rfl
      rw [e3] at q
      cases hr : (rowsOf ps n)[i]? with
      | none =>
        rw [hr] at q
        have := List.getElem?_eq_none_iff.mp hr
        rw [g2] at this
        exact brF (decide_eq_false (by rw [List.length_map]; show ¬ ((i : Int) < _); omega)) (rt_of q)
      | some r =>
        rw [hr] at q
        have hlt := (List.getElem?_eq_some_iff.mp hr).1
        rw [g2] at hlt hr
        have okr := g3.ok r (List.mem_of_getElem? hr)
        have sh := rw_sh okr
        have tsm : ∀ d ∈ tst.map D.str, Sm 1 40 d := fun d hd => by
          obtain ⟨x, hx, rfl⟩ := List.mem_map.mp hd
          exact Sm.str (by revert x; decide +kernel) (by revert x; decide +kernel)
        refine brT (decide_eq_true (by rw [List.length_map]; show (i : Int) < _; omega)) (ix_sq (i := (i : Nat)) rfl rfl (at_n (by rw [List.getElem?_map, hr]; rfl)) (ix_sq rfl rfl at_0 (in_of (k := 1) (w := 40) (Sm.str sh.1 sh.2) (ys := tst.map D.str) rfl tsm (by decide) (by decide) (fun _ e => nomatch e) ?_)))
        rw [any_str, Bool.false_xor]
        have e4 : decide (r.h ∈ tst) = (match r.k with | .test _ => true | _ => false) := by
          obtain ⟨x1, x2, x3, x4⟩ := kd_excl okr
          rcases rw_kind okr with ⟨kk, hh⟩ | ⟨p', kk, hh, _, _⟩ | ⟨t, kk, hh, _, _⟩ | ⟨t, kk, hh, _, _⟩ | ⟨kk, n1, n2, n3, n4⟩
          · rw [kk]; exact decide_eq_false fun z => by rw [kk] at x4; obtain ⟨_, x4⟩ := x4 z; cases x4
          · rw [kk]; exact decide_eq_false fun z => by rw [kk] at x4; obtain ⟨_, x4⟩ := x4 z; cases x4
          · rw [kk]; exact decide_eq_false fun z => by rw [kk] at x4; obtain ⟨_, x4⟩ := x4 z; cases x4
          · rw [kk]; exact decide_eq_true hh
          · rw [kk]; exact decide_eq_false n4
        rw [e4]
        exact rt_of q
def sp__law_onward : SpD := fun ds S Q _ => ∃ (ks : D) (ps : List Pc) (pl : Pl) (o : Bool), ds = [prD ks ps, .fl (pl.map plD), .bl o] ∧ PrOk ps ∧ PlOk ps pl ∧ pl ≠ [] ∧ pl.length ≤ 10000 ∧ Q (.fl ((stepP ps pl o).map plD)) S
theorem ok__law_onward {P : Program} {w : World} {K : PySem.W.Frag} {mg : Str → Option Value} {base : Heap} (T : Txt K mg) (C__law_named : Cal P w K mg base 1 "_law_named" s__law_named ["code", "name"] sp__law_named) {ff : Addr} {fd : FuncData} (F : Fun K "_law_onward" "_law_onward" s__law_onward ff fd) (mf : mg "_law_onward" = some (.ref ff)) : Cal P w K mg base 2 "_law_onward" s__law_onward ["code", "places", "outcome"] sp__law_onward := by
  refine ⟨ff, fd, okD F sc__law_onward (fun ds S Q E h => ?len) (fun cdv A outer s H E ds S Q E' hcd hr h => ⟨_, (dss_cons (ds_asg (de_ix (xd_ix hr) (de_var 1) (de_un ud_neg de_int)) (dg_tup (n := 2) rfl (dgs_cons (dg_name 3 sc__law_onward.nd) (dgs_cons (dg_name 4 sc__law_onward.nd) dgs_nil))))
      (dss_cons (ds_par 5 6 rfl sc__law_onward.nd (da_cons (de_ix (xd_ix hr) (de_c C__law_named hr (da_cons (de_var 0) (da_cons (de_var 3) da_nil))) de_int) (da_cons (de_slice (xd_slice false) (de_var 1) do_none (do_some (de_un ud_neg de_int))) da_nil)))
      (dss_cons (ds_if (dw_or (dt_cmp (od_eq hr) (de_var 4) (de_callB cd_len (by rfl) T.nb_len (da_cons (de_var 5) da_nil))) (dw_or1 (dt_cmp (od_eq hr) (de_ix (xd_ix hr) (de_ix (xd_ix hr) (de_var 5) (de_var 4)) de_int) de_str))).pt (dss_one (ds_ret (de_op (od_add false) (de_slice (xd_slice false) (de_var 6) do_none (do_some (de_un ud_neg de_int))) (de_lc [("one", 7), ("k", 8)] rfl sc__law_onward.nd (di_lf (de_slice (xd_slice false) (de_var 6) (do_some (de_un ud_neg de_int)) do_none)) (blkOk_by (N := ["code", "places", "outcome", "name", "at", "rows", "rest", "one", "k", "row"]) (sc := defScope s__law_onward) (by decide +kernel)) (fun _ _ _ _ _ => (pg_tup (n := 2) rfl (pgs_cons (pg_name (i := 7) sc__law_onward.nd rfl (Or.inl rfl) (Or.inr rfl)) (pgs_cons (pg_name (i := 8) sc__law_onward.nd rfl (Or.inl rfl) (Or.inr rfl)) pgs_nil)))) (fun N => (tg_tup (vs := [7, 8]) (n := 2) (tgs_cons (vs := [7, 8]) (i := 7) (by decide) (tgs_cons (vs := [7, 8]) (i := 8) (by decide) (tgs_nil (vs := [7, 8])))))) (fun _ _ _ _ _ => dts_nil) (fun _ _ _ _ _ => (de_tup (da_cons (de_var 7) (da_cons (de_op (od_add false) (de_var 8) de_int) da_nil)))))))) dss_nil)
      (dss_cons (ds_set 9 sc__law_onward.nd (de_ix (xd_ix hr) (de_var 5) (de_var 4)))
      (dss_cons (ds_if (dt_cmp (od_eq hr) (de_ix (xd_ix hr) (de_var 9) de_int) de_str) (dss_one (ds_ret (de_op (od_add false) (de_var 1) (de_lf (da_cons (de_tup (da_cons (de_ix (xd_ix hr) (de_var 9) de_int) (da_cons de_int da_nil))) da_nil))))) dss_nil)
      (dss_cons (ds_if (dt_cmp (od_eq hr) (de_ix (xd_ix hr) (de_var 9) de_int) de_str) (dss_one (ds_ret (de_op (od_add false) (de_var 6) (de_lf (da_cons (de_tup (da_cons (de_var 3) (da_cons (de_ix (xd_ix hr) (de_var 9) de_int) da_nil))) da_nil))))) dss_nil)
      (dss_cons (ds_if (dw_and (dt_cmp (od_in hr) (de_ix (xd_ix hr) (de_var 9) de_int) (de_tup (da_cons de_str (da_cons de_str (da_cons de_str da_nil))))) (dw_and1 (dt_tr td_tru (de_var 2)))).pt (dss_one (ds_ret (de_op (od_add false) (de_var 6) (de_lf (da_cons (de_tup (da_cons (de_var 3) (da_cons (de_ix (xd_ix hr) (de_var 9) de_int) da_nil))) da_nil))))) dss_nil)
      (dss_one (ds_ret (de_op (od_add false) (de_var 6) (de_lf (da_cons (de_tup (da_cons (de_var 3) (da_cons (de_op (od_add false) (de_var 4) de_int) da_nil))) da_nil)))))))))))), ?run⟩), F.binds (ps := ["code", "places", "outcome"]) fun _ _ _ _ _ _ us hl => match us, hl with | [_, _, _], _ => rfl, mf, F⟩
  case len => obtain ⟨ks, ps, pl, o, rfl, _⟩ := h; rfl
  case run =>
    obtain ⟨ks, ps, pl, o, rfl, okp, okl, ne, hl, q⟩ := h
    simp only [dVar, dC, dOp, dUn, dChain, dTr, dB, dAnd, dOr, dNot, dIf, dAndV, dOrV, dNotV, dNil, dCons, dTup, dLst, dLf, dNext, dSeq, dBreak, dCont, dDrop, dRet, dRetN, dIfS, gdName, gdNil, gdCons, gdTup, gdSub, dAsg, dPar, dCall, dCallK, dCB, dM0, dM, dGet1, dGet2, dDk, dDt, dPart, dNoPart, dSlice, dAug, dYes, dSort2, revD, iTupD, iLstD, iLf, iLw, iRange1, iRange2, iRange3, iEnumD, iZipD, iZipMD, iStrD, dGix, dDc, dIsi, dSortSet, dLenSet, dDlit, gdLst, dFor, dWhile, dLc, dLcM, dFld, dFldSet, dFldAdd, dMeth, dMake, dPar3, dCut, dTcut, wipeD, bodyE, startD, List.map_cons, List.map_nil, List.length_cons, List.length_nil, List.replicate_succ, List.replicate_zero, List.cons_append, List.nil_append, Nat.reduceAdd, Nat.reduceSub, Nat.zero_add, List.getElem?_cons_zero, List.getElem?_cons_succ, List.set_cons_zero, List.set_cons_succ, Option.some.injEq, exists_eq_left', exists_eq_left, if_true, sizeLine_eq, Nat.reduceLeDiff, Nat.reduceLT, Nat.zero_le, true_and, and_true, Bool.false_eq_true, if_false]
    rcases List.eq_nil_or_concat pl with rfl | ⟨q', ⟨n, i⟩, e⟩
    · exact absurd rfl ne
    · rw [List.concat_eq_append] at e
      subst e
      obtain ⟨oq, hlast, hn, hi⟩ := okl.init
      obtain ⟨p, g1, g2, g3⟩ := rowsOf_ok okp hn
      have l6 := okp.l
      have e2 : (q' ++ [(n, i)]).map plD = q'.map plD ++ [plD (n, i)] := by rw [List.map_append]; rfl
      rw [e2]
      refine ng (ix_sq rfl rfl at_z ⟨_, rfl, rfl, _, _, rfl, _, _, rfl, rfl, ks, ps, n, p, rfl, by omega, g1, ix_sq rfl rfl (at_n (i := 2) rfl) (ng ⟨_, rfl, sl_f rfl ?_⟩)⟩)
      rw [cut_init, List.dropLast_concat]
      refine ⟨_, _, rfl, len_sq rfl ⟨_, rfl, ?_⟩⟩
      have hl' : q'.length ≤ 10000 := by rw [List.length_append] at hl; omega
      have add : ∀ {S' : Sto} (x : Str × Nat) {y : D}, S' = S → y = plD x → stepP ps (q' ++ [(n, i)]) o = q' ++ [x] → addD false (.fl (q'.map plD)) (.fl [y]) S' fun d S' => ∃ d1 S1, VW d S' d1 S1 ∧ Q d1 S1 := fun {S'} x {y} e0 e1 e2 => by
        subst e0 e1
        rw [e2, List.map_append] at q
        exact add_f rfl rfl (by rw [List.length_map, sizeLine_eq, List.length_singleton]; omega) (rt_of q)
      cases hr : (rowsOf ps n)[i]? with
      | none =>
        have e1 : stepP ps (q' ++ [(n, i)]) o = bump q' := by unfold stepP; rw [last_snoc]; dsimp only; rw [hr, List.dropLast_concat]
        have := List.getElem?_eq_none_iff.mp hr
        rw [g2] at this hi
        rw [e1] at q
        exact brT (xt (by rw [List.length_map]; show (i : Int) = _; omega)) (lv_goal hl' q)
      | some r =>
        have hlt := (List.getElem?_eq_some_iff.mp hr).1
        have e1 : stepP ps (q' ++ [(n, i)]) o = (match r.k with
          | .ret => bump q'
          | .call p => q' ++ [(n, i)] ++ [(p, 0)]
          | .jump t => q' ++ [(n, t)]
          | .test t => q' ++ [(n, if o then t else i + 1)]
          | .oth => q' ++ [(n, i + 1)]) := by unfold stepP; rw [last_snoc]; dsimp only; rw [hr, List.dropLast_concat]; first | done | rfl
        rw [g2] at hlt hr
        have okr := g3.ok r (List.mem_of_getElem? hr)
        have sh := rw_sh okr
        have tsm : ∀ d ∈ tst.map D.str, Sm 1 40 d := fun d hd => by
          obtain ⟨x, hx, rfl⟩ := List.mem_map.mp hd
          exact Sm.str (by revert x; decide +kernel) (by revert x; decide +kernel)
        have inn : ∀ {S' : Sto} {Q' : KD}, Q' (.bl (decide (r.h ∈ tst))) S' → inD false (.str r.h) (.tup [.str "less", .str "same", .str "is"]) S' Q' := fun {S' Q'} qq =>
          in_of (k := 1) (w := 40) (Sm.str sh.1 sh.2) (ys := tst.map D.str) rfl tsm (by decide) (by decide) (fun _ e => nomatch e) (by rw [any_str, Bool.false_xor]; exact qq)
        have hm : ∀ {S' : Sto} {Q' : KD}, Q' r.d S' → ixD (rwsD p.2.2) (.int (i : Nat)) S' Q' := fun {S' Q'} qq => ix_sq rfl rfl (at_n (by rw [List.getElem?_map, hr]; rfl)) qq
        refine brF (xf (by rw [List.length_map]; show ¬ ((i : Int) = _); omega)) (hm (ix_sq rfl rfl at_0 ⟨_, rfl, ?_⟩))
        obtain ⟨x1, x2, x3, x4⟩ := kd_excl okr
        rcases rw_kind okr with ⟨kk, hh⟩ | ⟨p', kk, hh, _, _⟩ | ⟨t, kk, hh, _, _⟩ | ⟨t, kk, hh, _, _⟩ | ⟨kk, n1, n2, n3, n4⟩
        · rw [kk] at e1
          rw [e1] at q
          exact brT (xt hh) (lv_goal hl' q)
        · rw [kk] at e1
          rw [e1, List.map_append, e2] at q
          refine brF (xf fun z => by rw [kk] at x3; cases x3 z) (hm (ix_sq rfl rfl at_0 ⟨_, rfl, brT (xt hh) (ix_sq rfl rfl (at_n (i := 2) (rw_call kk)) (add_f rfl rfl ?_ (rt_of q)))⟩))
          rw [List.length_append, List.length_map, sizeLine_eq]
          simp
          omega
        · rw [kk] at e1
          refine brF (xf fun z => by rw [kk] at x3; cases x3 z) (hm (ix_sq rfl rfl at_0 ⟨_, rfl, brF (xf fun z => by rw [kk] at x1; obtain ⟨_, x1⟩ := x1 z; cases x1) (ix_sq rfl rfl at_0 ⟨_, rfl, brT (xt hh) ?_⟩)⟩))
          exact ix_sq rfl rfl (at_n (i := 1) (rw_jump kk)) (add (n, t) rfl rfl e1)
        · rw [kk] at e1
          refine brF (xf fun z => by rw [kk] at x3; cases x3 z) (hm (ix_sq rfl rfl at_0 ⟨_, rfl, brF (xf fun z => by rw [kk] at x1; obtain ⟨_, x1⟩ := x1 z; cases x1) (ix_sq rfl rfl at_0 ⟨_, rfl, brF (xf fun z => by rw [kk] at x2; obtain ⟨_, x2⟩ := x2 z; cases x2) (ix_sq rfl rfl at_0 (inn ⟨_, rfl, brT (decide_eq_true hh) ?_⟩))⟩)⟩))
          cases o with
          | true => exact tru_b (brT rfl (ix_sq rfl rfl (at_n (i := 3) (rw_test kk)) (add (n, t) rfl rfl e1)))
          | false => exact tru_b (brF rfl (add_i (add (n, i + 1) rfl rfl e1)))
        · rw [kk] at e1
          refine brF (xf n1) (hm (ix_sq rfl rfl at_0 ⟨_, rfl, brF (xf n2) (ix_sq rfl rfl at_0 ⟨_, rfl, brF (xf n3) (ix_sq rfl rfl at_0 (inn ⟨_, rfl, brF (decide_eq_false n4) ?_⟩))⟩)⟩))
          exact add_i (add (n, i + 1) rfl rfl e1)
def sp__law_is_trip : SpD := fun ds S Q _ => ∃ (ks : D) (ps : List Pc) (fs : List Fm) (c m d : D), ds = [prD ks ps, stD fs c m, d] ∧ PrOk ps ∧ PlOk ps (plOf fs) ∧ fs.length ≤ 100 ∧ AnyD S d ∧ (∀ xs, d = .tup xs → xs.length ≤ 100000 ∧ ∀ ys, .tup ys ∈ xs → ys.length ≤ 5000 ∧ ∀ y ∈ ys, Cm 10 y) ∧ Q (.bl (wayD ps (plOf fs) d)) S
theorem ok__law_is_trip {P : Program} {w : World} {K : PySem.W.Frag} {mg : Str → Option Value} {base : Heap} (T : Txt K mg) (C__law_onward : Cal P w K mg base 2 "_law_onward" s__law_onward ["code", "places", "outcome"] sp__law_onward) (C__law_is_test : Cal P w K mg base 2 "_law_is_test" s__law_is_test ["code", "places"] sp__law_is_test) {ff : Addr} {fd : FuncData} (F : Fun K "_law_is_trip" "_law_is_trip" s__law_is_trip ff fd) (mf : mg "_law_is_trip" = some (.ref ff)) : Cal P w K mg base 3 "_law_is_trip" s__law_is_trip ["code", "moment", "it"] sp__law_is_trip := by
  refine ⟨ff, fd, okD F sc__law_is_trip (fun ds S Q E h => ?len) (fun cdv A outer s H E ds S Q E' hcd hr h => ⟨_, (dss_cons (ds_if (dw_or (dt_not (dt_tr td_tru (de_isi (tn := "tuple") (by rfl) T.nb_isinstance (by rfl) T.nb_tuple (de_var 2)))) (dw_or (dt_cmp (od_ne hr) (de_callB cd_len (by rfl) T.nb_len (da_cons (de_var 2) da_nil)) de_int) (dw_or (dt_not (dt_tr td_tru (de_isi (tn := "int") (by rfl) T.nb_isinstance (by rfl) T.nb_int (de_ix (xd_ix hr) (de_var 2) de_int)))) (dw_or1 (dt_tr td_tru (de_isi (tn := "bool") (by rfl) T.nb_isinstance (by rfl) T.nb_bool (de_ix (xd_ix hr) (de_var 2) de_int))))))).pt (dss_one (ds_ret de_bl)) dss_nil)
      (dss_cons (ds_if (dw_or (dt_not (dt_chain od_le od_le de_int (de_ix (xd_ix hr) (de_var 2) de_int) de_int)) (dw_or1 (dt_not (dt_tr td_tru (de_isi (tn := "tuple") (by rfl) T.nb_isinstance (by rfl) T.nb_tuple (de_ix (xd_ix hr) (de_var 2) de_int)))))).pt (dss_one (ds_ret de_bl)) dss_nil)
      (dss_cons (ds_if (dt_cmp (od_ne hr) (de_lc [("one", 3)] rfl sc__law_is_trip.nd (di_tup (de_ix (xd_ix hr) (de_var 2) de_int)) (blkOk_by (N := ["code", "moment", "it", "one", "places", "left", "frame", "turn"]) (sc := defScope s__law_is_trip) (by decide +kernel)) (fun _ _ _ _ _ => (pg_name (i := 3) sc__law_is_trip.nd rfl (Or.inl rfl) (Or.inr rfl))) (fun N => (tg_name (vs := [3]) (i := 3) (by decide))) (fun _ _ _ _ _ => pts_one (dt_not (dt_tr td_tru (de_isi (tn := "bool") (by rfl) T.nb_isinstance (by rfl) T.nb_bool (de_var 3))))) (fun _ _ _ _ _ => (de_var 3))) (de_lf da_nil)) (dss_one (ds_ret de_bl)) dss_nil)
      (dss_cons (ds_par 4 5 rfl sc__law_is_trip.nd (da_cons (de_lc [("frame", 6)] rfl sc__law_is_trip.nd (di_tup (de_ix (xd_ix hr) (de_var 1) de_int)) (blkOk_by (N := ["code", "moment", "it", "one", "places", "left", "frame", "turn"]) (sc := defScope s__law_is_trip) (by decide +kernel)) (fun _ _ _ _ _ => (pg_name (i := 6) sc__law_is_trip.nd rfl (Or.inl rfl) (Or.inr rfl))) (fun N => (tg_name (vs := [6]) (i := 6) (by decide))) (fun _ _ _ _ _ => dts_nil) (fun _ _ _ _ _ => (de_slice (xd_slice false) (de_var 6) do_none (do_some de_int)))) (da_cons (de_rev true (de_callTy (cd_list false) (by rfl) T.nb_list (da_cons (de_ix (xd_ix hr) (de_var 2) de_int) da_nil))) da_nil)))
      (dss_cons (ds_for PassesOwn.never rfl (di_range1 (by rfl) T.nb_range (da_cons (de_ix (xd_ix hr) (de_var 2) de_int) da_nil)) (dg_name 7 sc__law_is_trip.nd) (dss_cons (ds_if (dw_or (dt_cmp (od_eq hr) (de_var 4) (de_lf da_nil)) (dw_or1 (dw_and (dt_tr td_tru (de_c C__law_is_test hr (da_cons (de_var 0) (da_cons (de_var 4) da_nil)))) (dw_and1 (dt_cmp (od_eq hr) (de_var 5) (de_lf da_nil)))).pt)).pt (dss_one (ds_ret de_bl)) dss_nil)
      (dss_one (ds_set 4 sc__law_is_trip.nd (de_c C__law_onward hr (da_cons (de_var 0) (da_cons (de_var 4) (da_cons (de_and (de_c C__law_is_test hr (da_cons (de_var 0) (da_cons (de_var 4) da_nil))) (de_one (de_m0 PySem.F.plainAttrs_list PySem.F.slot_list_pop PySem.F.type_list_pop md_pop (de_var 5)))) da_nil))))))))
      (dss_one (ds_ret (de_cmp (od_eq hr) (de_var 5) (de_lf da_nil))))))))), ?run⟩), F.binds (ps := ["code", "moment", "it"]) fun _ _ _ _ _ _ us hl => match us, hl with | [_, _, _], _ => rfl, mf, F⟩
  case len => obtain ⟨ks, ps, fs, c, m, d, rfl, _⟩ := h; rfl
  case run =>
    obtain ⟨ks, ps, fs, c, m, d, rfl, okp, okl, l100, hd, hl, q⟩ := h
    simp only [dVar, dC, dOp, dUn, dChain, dTr, dB, dAnd, dOr, dNot, dIf, dAndV, dOrV, dNotV, dNil, dCons, dTup, dLst, dLf, dNext, dSeq, dBreak, dCont, dDrop, dRet, dRetN, dIfS, gdName, gdNil, gdCons, gdTup, gdSub, dAsg, dPar, dCall, dCallK, dCB, dM0, dM, dGet1, dGet2, dDk, dDt, dPart, dNoPart, dSlice, dAug, dYes, dSort2, revD, iTupD, iLstD, iLf, iLw, iRange1, iRange2, iRange3, iEnumD, iZipD, iZipMD, iStrD, dGix, dDc, dIsi, dSortSet, dLenSet, dDlit, gdLst, dFor, dWhile, dLc, dLcM, dFld, dFldSet, dFldAdd, dMeth, dMake, dPar3, dCut, dTcut, wipeD, bodyE, startD, List.map_cons, List.map_nil, List.length_cons, List.length_nil, List.replicate_succ, List.replicate_zero, List.cons_append, List.nil_append, Nat.reduceAdd, Nat.reduceSub, Nat.zero_add, List.getElem?_cons_zero, List.getElem?_cons_succ, List.set_cons_zero, List.set_cons_succ, Option.some.injEq, exists_eq_left', exists_eq_left, if_true, sizeLine_eq, Nat.reduceLeDiff, Nat.reduceLT, Nat.zero_le, true_and, and_true, Bool.false_eq_true, if_false]
    obtain ⟨t, h1, h2, _, _⟩ := any_ty hd
    have no : ∀ {S' : Sto}, S' = S → formD d = none → ∃ d1 S1, VW (D.bl false) S' d1 S1 ∧ Q d1 S1 := fun {S'} e0 e => by
      unfold wayD at q
      rw [e] at q
      rw [e0]
      exact rt_of q
    refine ⟨t, h1, tru_b ?_⟩
    rw [h2]
    cases hT : isTp d with
    | false => exact brT rfl (no rfl (form_tp hT))
    | true =>
      obtain ⟨ds, rfl, hv⟩ := tp_of hd hT
      refine brF rfl (len_sq rfl ⟨_, rfl, ?_⟩)
      by_cases l2 : ds.length = 2
      · obtain ⟨a, b, rfl⟩ : ∃ a b, ds = [a, b] := by
          match ds, l2 with
          | [a, b], _ => exact ⟨a, b, rfl⟩
        have va := hv a (by simp)
        have vb := hv b (by simp)
        obtain ⟨ta, a1, _, a3, a4⟩ := any_ty (S := S) (.inl va)
        refine brF (nxf rfl) (ix_sq rfl rfl at_0 ⟨ta, a1, tru_b ?_⟩)
        rw [a3]
        cases hB : isB a with
        | true =>
          have hI : isI a = false := by
            cases h : isI a with
            | false => rfl
            | true => rw [ib h] at hB; cases hB
          exact brF (by simp) (ix_sq rfl rfl at_0 ⟨ta, a1, tru_b (brT (by rw [a4]; exact hB) (no rfl (form_i hI)))⟩)
        | false =>
        cases hI : isI a with
        | false => exact brT rfl (no rfl (form_i hI))
        | true =>
          refine brF rfl (ix_sq rfl rfl at_0 ⟨ta, a1, tru_b (brF (by rw [a4]; exact hB) ?_)⟩)
          clear a1 a3 a4
          obtain ⟨i, rfl⟩ := i_of va hI
          refine ix_sq rfl rfl at_0 (it_of trivial ⟨_, rfl, ?_⟩)
          by_cases h0 : 0 ≤ i
          · refine brT (decide_eq_true h0) (it_of trivial ⟨_, rfl, ?_⟩)
            by_cases h3 : i ≤ 3000
            · obtain ⟨t', g1, g2, _, _⟩ := any_ty (S := S) (.inl vb)
              refine brF (by rw [decide_eq_true h3]; rfl) (ix_sq rfl rfl (at_n (i := 1) rfl) ⟨t', g1, tru_b ?_⟩)
              rw [g2]
              cases hB : isTp b with
              | false => exact brT rfl (no rfl (form_t hB))
              | true =>
                obtain ⟨bs, rfl, hb⟩ := tp_of (S := S) (.inl vb) hB
                obtain ⟨lb, cb⟩ := (hl _ rfl).2 bs (by simp)
                refine brF rfl (ix_sq rfl rfl (at_n (i := 1) rfl) ⟨bs, .inl rfl, ?_⟩)
                refine lc_seq (fun i acc S' => S' = S ∧ acc = (bs.take i).filter fun x => !isB x) ⟨rfl, rfl⟩ ?_ ?_
                · rintro j x acc S' hx ⟨rfl, rfl⟩
                  have hj := (List.getElem?_eq_some_iff.mp hx).1
                  obtain ⟨t2, k1, _, _, k4⟩ := any_ty (S := S') (.inl (hb x (List.mem_of_getElem? hx)))
                  refine ⟨?_, t2, k1, tru_b ?_⟩
                  · have := List.length_filter_le (fun x => !isB x) (bs.take j)
                    rw [List.length_take] at this
                    rw [sizeLine_eq]; omega
                  · rw [k4]
                    cases hB : isB x with
                    | true => exact brF rfl ⟨rfl, by rw [tk1 hx, List.filter_append]; simp [hB]⟩
                    | false => exact brT rfl ⟨rfl, by rw [tk1 hx, List.filter_append]; simp [hB]⟩
                · rintro j acc S' hj ⟨rfl, rfl⟩
                  rw [List.take_of_length_le hj]
                  refine eq_nil (k := 10) (fun d hd => cb d (List.mem_filter.mp hd).1) ⟨_, rfl, ?_⟩
                  by_cases hA : bs.all isB = true
                  · have e : bs.filter (fun x => !isB x) = [] := by
                      rw [List.filter_eq_nil_iff]
                      intro x hx
                      have := List.all_eq_true.mp hA x hx
                      simp [this]
                    rw [e]
                    refine brF rfl ?_
                    clear no
                    obtain ⟨os, hos⟩ : ∃ os : List Bool, os = bs.map bOf := ⟨_, rfl⟩
                    have ebs : bs = os.map D.bl := by rw [hos]; exact bs_of hb hA
                    have wd : wayD ps (plOf fs) (.tup [.int i, .tup bs]) = decide (runT ps i.toNat (plOf fs) os = some []) := by
                      unfold wayD
                      rw [form_ok h0 h3, if_pos hA, ← hos]
                    rw [wd] at q
                    have los : os.length ≤ 5000 := by rw [hos, List.length_map]; exact lb
                    clear wd hA e hos
                    subst ebs
                    have cmp : ∀ {p : Pl}, PlOk ps p → ∀ d ∈ p.map plD, Cm 1 d := fun {p} h d hd => by
                      obtain ⟨⟨n, i⟩, hx, rfl⟩ := List.mem_map.mp hd
                      obtain ⟨j, hj⟩ := List.mem_iff_getElem?.mp hx
                      exact Cm.tup (cmc (Cm.str (okp.sh n (h j n i hj).1).1) (cm1 Cm.int))
                    refine ix_sq rfl rfl at_0 ⟨_, .inl rfl, lc_seq (ds := fs.map fmD) (fun j acc S2 => S2 = S' ∧ acc = (plOf (fs.take j)).map plD) ⟨rfl, rfl⟩ ?_ ?_⟩
                    · rintro j x acc S2 hx ⟨rfl, rfl⟩
                      obtain ⟨f, hf, rfl⟩ := map_at hx
                      refine ⟨by unfold plOf; rw [List.length_map, List.length_map, List.length_take, sizeLine_eq]; omega, 2, rfl, sl_t ⟨rfl, ?_⟩⟩
                      rw [tk1 hf]
                      unfold plOf
                      rw [List.map_append, List.map_append]
                      rfl
                    · rintro j acc S2 hj ⟨rfl, rfl⟩
                      rw [List.length_map] at hj
                      rw [List.take_of_length_le hj]
                      refine ix_sq rfl rfl (at_n (i := 1) rfl) ⟨_, _, rfl, rfl, brF rfl ⟨_, rfl, fun L nL => ⟨_, _, rfl, ix_sq rfl rfl at_0 ⟨i, rfl, by omega, by omega, ?_⟩⟩⟩⟩
                      refine fr_rng (fun j δ S3 => ∃ (pl : Pl) (rest : List Bool) (r7 : Option D), δ = [some (prD ks ps), some (stD fs c m), some (.tup [.int i, .tup (os.map D.bl)]), none, some (.fl (pl.map plD)), some (.ref L), none, r7] ∧ j ≤ i.toNat ∧ S3 L = some (.lst (rest.map D.bl).reverse) ∧ PlOk ps pl ∧ pl.length ≤ 100 + j ∧
                        runT ps i.toNat (plOf fs) os = runT ps (i.toNat - j) pl rest ∧ ∀ b, b ≠ L → S3 b = S2 b) ⟨plOf fs, os, none, rfl, Nat.zero_le _, up_same, okl, by unfold plOf; rw [List.length_map]; omega, rfl, fun b b1 => up_ne b1⟩ ?_ ?_
                      · rintro j δ S3 hj ⟨pl, rest, r7, rfl, hji, hL, ok2, ln, hr, off⟩
                        rw [show i.toNat - j = (i.toNat - (j + 1)) + 1 by omega, runT_succ] at hr
                        simp only [dVar, dC, dOp, dUn, dChain, dTr, dB, dAnd, dOr, dNot, dIf, dAndV, dOrV, dNotV, dNil, dCons, dTup, dLst, dLf, dNext, dSeq, dBreak, dCont, dDrop, dRet, dRetN, dIfS, gdName, gdNil, gdCons, gdTup, gdSub, dAsg, dPar, dCall, dCallK, dCB, dM0, dM, dGet1, dGet2, dDk, dDt, dPart, dNoPart, dSlice, dAug, dYes, dSort2, revD, iTupD, iLstD, iLf, iLw, iRange1, iRange2, iRange3, iEnumD, iZipD, iZipMD, iStrD, dGix, dDc, dIsi, dSortSet, dLenSet, dDlit, gdLst, dFor, dWhile, dLc, dLcM, dFld, dFldSet, dFldAdd, dMeth, dMake, dPar3, dCut, dTcut, wipeD, bodyE, startD, List.map_cons, List.map_nil, List.length_cons, List.length_nil, List.replicate_succ, List.replicate_zero, List.cons_append, List.nil_append, Nat.reduceAdd, Nat.reduceSub, Nat.zero_add, List.getElem?_cons_zero, List.getElem?_cons_succ, List.set_cons_zero, List.set_cons_succ, Option.some.injEq, exists_eq_left', exists_eq_left, if_true, sizeLine_eq, Nat.reduceLeDiff, Nat.reduceLT, Nat.zero_le, true_and, and_true, Bool.false_eq_true, if_false]
                        have sub : DL.Sub S2 S3 := fun a o e => by
                          rw [off a (fun z => by rw [z, nL] at e; cases e)]
                          exact e
                        have cmb : ∀ r : List Bool, ∀ d ∈ (r.map D.bl).reverse, Cm 1 d := fun r d hd => by
                          rw [List.mem_reverse] at hd
                          obtain ⟨b, _, rfl⟩ := List.mem_map.mp hd
                          exact Cm.bl
                        have bad : runT ps i.toNat (plOf fs) os = none → ∃ d1 S1, VW (D.bl false) S3 d1 S1 ∧ Q d1 S1 := fun e => by
                          rw [e] at q
                          exact rt_sub sub q
                        refine eq_nil (k := 1) (cmp ok2) ⟨_, rfl, ?_⟩
                        by_cases ne : pl = []
                        · rw [if_pos ne] at hr
                          rw [ne]
                          exact brT rfl (bad hr)
                        · rw [if_neg ne] at hr
                          have e0 : (pl.map plD).isEmpty = false := by
                            cases pl with
                            | nil => exact absurd rfl ne
                            | cons a l => rfl
                          refine brF (by rw [e0]; rfl) ⟨ks, ps, pl, rfl, okp, ok2, ne, tru_b ?_⟩
                          cases hT : isT ps pl with
                          | true =>
                            rw [hT, if_pos rfl] at hr
                            refine brT rfl (eq_nilL hL (k := 1) (cmb _) ⟨_, rfl, ?_⟩)
                            cases rest with
                            | nil => exact brT rfl (bad hr)
                            | cons o r =>
                              have er : ((o :: r).map D.bl).reverse = (r.map D.bl).reverse ++ [.bl o] := by rw [List.map_cons, List.reverse_cons]
                              rw [er] at hL ⊢
                              refine brF (by simp) ⟨ks, ps, pl, rfl, okp, ok2, ne, _, rfl, ?_⟩
                              rw [hT]
                              refine brT rfl ⟨ty_l hL, L, _, .bl o, rfl, hL, by simp, ks, ps, pl, o, rfl, okp, ok2, ne, by omega, _, r, _, rfl, hj, ?_, step_ok okp ok2 _, ?_, hr, fun b b1 => by rw [up_ne b1, off b b1]⟩
                              · rw [up_same, List.dropLast_concat]
                              · have := step_len ps pl o
                                omega
                          | false =>
                            rw [hT, if_neg Bool.false_ne_true] at hr
                            refine brF rfl ⟨ks, ps, pl, rfl, okp, ok2, ne, _, rfl, ?_⟩
                            rw [hT]
                            refine brF rfl ⟨ks, ps, pl, false, rfl, okp, ok2, ne, by omega, _, rest, _, rfl, hj, hL, step_ok okp ok2 _, ?_, hr, off⟩
                            have := step_len ps pl false
                            omega
                      · rintro j δ S3 hj ⟨pl, rest, r7, rfl, hji, hL, ok2, ln, hr, off⟩
                        rw [show i.toNat - j = 0 by omega] at hr
                        have hr' : runT ps i.toNat (plOf fs) os = some rest := hr
                        rw [hr'] at q
                        have sub : DL.Sub S2 S3 := fun a o e => by
                          rw [off a (fun z => by rw [z, nL] at e; cases e)]
                          exact e
                        refine ⟨_, rfl, eq_nilL hL (k := 1) (fun d hd => by
                          rw [List.mem_reverse] at hd
                          obtain ⟨b, _, rfl⟩ := List.mem_map.mp hd
                          exact Cm.bl) (rt_sub sub ?_)⟩
                        have e : decide (some rest = some []) = xor false (rest.map D.bl).reverse.isEmpty := by cases rest <;> simp
                        rw [e] at q
                        exact q
                  · have e : (bs.filter fun x => !isB x).isEmpty = false := by
                      cases h : bs.filter fun x => !isB x with
                      | cons a l => rfl
                      | nil =>
                        exfalso
                        apply hA
                        rw [List.all_eq_true]
                        intro x hx
                        have := List.filter_eq_nil_iff.mp h x hx
                        simpa using this
                    rw [e]
                    exact brT rfl (no rfl (by rw [form_ok h0 h3, if_neg hA]))
            · exact brT (by rw [decide_eq_false h3]; rfl) (no rfl (form_r fun z => h3 z.2))
          · exact brF (decide_eq_false h0) ⟨_, rfl, brT rfl (no rfl (form_r fun z => h0 z.1))⟩
      · exact brT (by simp; omega) (no rfl (form_len l2))
end K19


namespace K19
open PySem L2 PyProof.Rows DL
/-! ### programs, drawn -/
section
variable {p a : Addr} {nm : List Str}
theorem pick_nm {k : Nat} {S' : Sto} {Q' : KD} (l0 : 0 < nm.length) (l30 : nm.length ≤ 30) (sp : Spr S' p a (k + 1)) (qq : ∀ x S'', x ∈ nm → Spr S'' p a k → Off p a S' S'' → Q' (.str x) S'') : sp__law_pick [.ref p, .fl (nm.map D.str)] S' Q' X0 :=
  ⟨p, a, k, _, _, rfl, .inl (.fl _), by simpa using l0, by rw [List.length_map]; omega, sp, fun x S'' hx s2 o2 => by
    obtain ⟨z, hz, rfl⟩ := List.mem_map.mp hx
    exact qq z S'' hz s2 o2⟩
theorem three {k : Nat} {S : Sto} {Nx : List D → Sto → Prop} (l0 : 0 < nm.length) (l30 : nm.length ≤ 30) (sp : Spr S p a (k + 3)) (nxt : ∀ (x y z : Str) S', x ∈ nm → y ∈ nm → z ∈ nm → Spr S' p a k → Off p a S S' → Nx [.str x, .str y, .str z] S') :
    ∃ (W : Nat → List D → Sto → Prop) (n1 : Nat), W 0 [] S ∧ ∀ i acc S2, W i acc S2 → ∃ r, rangeI 0 (3 : Int).toNat i S2 = some r ∧ (r = none → Nx acc S2) ∧ ∀ x, r = some x → i < n1 ∧ acc.length < 16777216 ∧ sp__law_pick [.ref p, .fl (nm.map D.str)] S2 (fun y S5 => W (i + 1) (acc ++ [y]) S5) X0 := by
  have e3 : (3 : Int).toNat = 3 := rfl
  rw [e3]
  refine lc_rng (fun i acc S' => ∃ zs : List Str, acc = zs.map D.str ∧ zs.length = i ∧ i ≤ 3 ∧ (∀ x ∈ zs, x ∈ nm) ∧ Spr S' p a (k + 3 - i) ∧ Off p a S S') ⟨[], rfl, rfl, by decide, fun x hx => (by cases hx), sp, .refl⟩ ?_ ?_
  · rintro i acc S' hi ⟨zs, rfl, rfl, hl, hz, sp', of'⟩
    refine ⟨by rw [List.length_map, sizeLine_eq]; omega, pick_nm (k := k + 3 - (zs.length + 1)) l0 l30 (sp'.mono (by omega)) fun x S'' hx s2 o2 => ⟨zs ++ [x], by rw [List.map_append]; rfl, by rw [List.length_append]; rfl, by omega, fun y hy => ?_, s2, of'.trans o2⟩⟩
    rcases List.mem_append.mp hy with h | h
    · exact hz y h
    · rw [List.mem_singleton.mp h]; exact hx
  · rintro i acc S' hi ⟨zs, rfl, rfl, hl, hz, sp', of'⟩
    obtain ⟨x, y, z, rfl⟩ : ∃ x y z, zs = [x, y, z] := by
      have h3 : zs.length = 3 := by omega
      match zs, h3 with
      | [x, y, z], _ => exact ⟨x, y, z, rfl⟩
    exact nxt x y z S' (hz x (by simp)) (hz y (by simp)) (hz z (by simp)) (sp'.mono (by simp only [List.length_cons, List.length_nil]; omega)) of'
theorem some_nm {k : Nat} {S : Sto} {Nx : List D → Sto → Prop} (xs : List Str) (l0 : 0 < nm.length) (l30 : nm.length ≤ 30) (l4 : xs.length ≤ 4) (sp : Spr S p a (k + 4)) (nxt : ∀ (zs : List Str) S', zs.length ≤ 4 → Spr S' p a k → Off p a S S' → Nx (zs.map D.str) S') :
    ∃ (W : Nat → List D → Sto → Prop) (n1 : Nat), W 0 [] S ∧ ∀ i acc S2, W i acc S2 → ∃ r, seqI (xs.map D.str) i S2 = some r ∧ (r = none → Nx acc S2) ∧ ∀ x, r = some x → i < n1 ∧ acc.length < 16777216 ∧ sp__law_pick [.ref p, .fl (nm.map D.str)] S2 (fun y S5 => W (i + 1) (acc ++ [y]) S5) X0 := by
  refine lc_seq (fun i acc S' => ∃ zs : List Str, acc = zs.map D.str ∧ zs.length = i ∧ i ≤ xs.length ∧ Spr S' p a (k + 4 - i) ∧ Off p a S S') ⟨[], rfl, rfl, Nat.zero_le _, sp, .refl⟩ ?_ ?_
  · rintro i x' acc S' hx' ⟨zs, rfl, rfl, hl, sp', of'⟩
    have hlt := (List.getElem?_eq_some_iff.mp hx').1
    rw [List.length_map] at hlt
    exact ⟨by rw [List.length_map, sizeLine_eq]; omega, pick_nm (k := k + 4 - (zs.length + 1)) l0 l30 (sp'.mono (by omega)) fun x S'' hx s2 o2 => ⟨zs ++ [x], by rw [List.map_append]; rfl, by rw [List.length_append]; rfl, by omega, s2, of'.trans o2⟩⟩
  · rintro i acc S' hi ⟨zs, rfl, rfl, hl, sp', of'⟩
    exact nxt zs S' (by omega) (sp'.mono (by omega)) of'
end
def KOk (q : Str × List Str) : Prop := q.2.length ≤ 4 ∧ Sh q.1 ∧ ∀ x ∈ q.2, Sh x
theorem shw : ∀ x ∈ (["box", "end", "no1", "f", "g", "head", "next", "t0", "made"] : List Str), Sh x := by
  have h : ∀ x ∈ (["box", "end", "no1", "f", "g", "head", "next", "t0", "made"] : List Str), PyData.strOk x = true ∧ x.length ≤ 40 := by decide +kernel
  exact h
def kindD (k : Str × List Str) : D := .tup [.str k.1, ysD k.2]
def sp__law_kinds : SpD := fun ds S Q _ => ∃ (p a : Addr) (n : Nat), ds = [.ref p] ∧ Spr S p a (n + 20) ∧ ∀ (ks : List (Str × List Str)) S', 0 < ks.length → ks.length ≤ 3 → (∀ q ∈ ks, KOk q) → Spr S' p a n → Off p a S S' → Q (.tup (ks.map kindD)) S'
theorem ok__law_kinds {P : Program} {w : World} {K : PySem.W.Frag} {mg : Str → Option Value} {base : Heap} (T : Txt K mg) (C__law_draw : Cal P w K mg base 1 "_law_draw" s__law_draw ["deck", "count"] sp__law_draw) {ff : Addr} {fd : FuncData} (F : Fun K "_law_kinds" "_law_kinds" s__law_kinds ff fd) (mf : mg "_law_kinds" = some (.ref ff)) : Cal P w K mg base 2 "_law_kinds" s__law_kinds ["deck"] sp__law_kinds := by
  refine ⟨ff, fd, okD F sc__law_kinds (fun ds S Q E h => ?len) (fun cdv A outer s H E ds S Q E' hcd hr h => ⟨_, (dss_cons (ds_asg (de_tup (da_cons (de_lf (da_cons de_str (da_cons de_str (da_cons de_str (da_cons de_str (da_cons de_str (da_cons de_str da_nil))))))) (da_cons (de_lf (da_cons de_str (da_cons de_str (da_cons de_str da_nil)))) (da_cons (de_lst da_nil) da_nil)))) (dg_tup (n := 3) rfl (dgs_cons (dg_name 1 sc__law_kinds.nd) (dgs_cons (dg_name 2 sc__law_kinds.nd) (dgs_cons (dg_name 3 sc__law_kinds.nd) dgs_nil)))))
      (dss_cons (ds_for PassesOwn.never rfl (di_range1 (by rfl) T.nb_range (da_cons (de_op (od_add false) de_int (de_c C__law_draw hr (da_cons (de_var 0) (da_cons de_int da_nil)))) da_nil)) (dg_name 4 sc__law_kinds.nd) (dss_cons (ds_asg (de_tup (da_cons (de_c C__law_draw hr (da_cons (de_var 0) (da_cons de_int da_nil))) (da_cons (de_ix (xd_ix hr) (de_lf (da_cons de_int (da_cons de_int da_nil))) (de_c C__law_draw hr (da_cons (de_var 0) (da_cons de_int da_nil)))) da_nil))) (dg_tup (n := 2) rfl (dgs_cons (dg_name 5 sc__law_kinds.nd) (dgs_cons (dg_name 6 sc__law_kinds.nd) dgs_nil))))
      (dss_one (ds_expr (de_m PySem.F.plainAttrs_list PySem.F.slot_list_append PySem.F.type_list_append md_append (de_var 3) (da_cons (de_tup (da_cons (de_ix (xd_ix hr) (de_var 2) (de_var 4)) (da_cons (de_callTy cd_tuple (by rfl) T.nb_tuple (da_cons (de_lc [("j", 7)] rfl sc__law_kinds.nd (di_range1 (by rfl) T.nb_range (da_cons (de_c C__law_draw hr (da_cons (de_var 0) (da_cons de_int da_nil))) da_nil)) (blkOk_by (N := ["deck", "fields", "names", "found", "k", "at", "step", "j"]) (sc := defScope s__law_kinds) (by decide +kernel)) (fun _ _ _ _ _ => (pg_name (i := 7) sc__law_kinds.nd rfl (Or.inl rfl) (Or.inr rfl))) (fun N => (tg_name (vs := [7]) (i := 7) (by decide))) (fun _ _ _ _ _ => dts_nil) (fun _ _ _ _ _ => (de_ix (xd_ix hr) (de_var 1) (de_op od_mod (de_op (od_add false) (de_var 5) (de_op od_mul (de_var 6) (de_var 7))) de_int)))) da_nil)) da_nil))) da_nil))))))
      (dss_one (ds_ret (de_callTy cd_tuple (by rfl) T.nb_tuple (da_cons (de_var 3) da_nil)))))), ?run⟩), F.binds (ps := ["deck"]) fun _ _ _ _ _ _ us hl => match us, hl with | [_], _ => rfl, mf, F⟩
  case len => obtain ⟨p, a, n, rfl, _⟩ := h; rfl
  case run =>
    obtain ⟨p, a, n, rfl, sp, q⟩ := h
    simp only [dVar, dC, dOp, dUn, dChain, dTr, dB, dAnd, dOr, dNot, dIf, dAndV, dOrV, dNotV, dNil, dCons, dTup, dLst, dLf, dNext, dSeq, dBreak, dCont, dDrop, dRet, dRetN, dIfS, gdName, gdNil, gdCons, gdTup, gdSub, dAsg, dPar, dCall, dCallK, dCB, dM0, dM, dGet1, dGet2, dDk, dDt, dPart, dNoPart, dSlice, dAug, dYes, dSort2, revD, iTupD, iLstD, iLf, iLw, iRange1, iRange2, iRange3, iEnumD, iZipD, iZipMD, iStrD, dGix, dDc, dIsi, dSortSet, dLenSet, dDlit, gdLst, dFor, dWhile, dLc, dLcM, dFld, dFldSet, dFldAdd, dMeth, dMake, dPar3, dCut, dTcut, wipeD, bodyE, startD, List.map_cons, List.map_nil, List.length_cons, List.length_nil, List.replicate_succ, List.replicate_zero, List.cons_append, List.nil_append, Nat.reduceAdd, Nat.reduceSub, Nat.zero_add, List.getElem?_cons_zero, List.getElem?_cons_succ, List.set_cons_zero, List.set_cons_succ, Option.some.injEq, exists_eq_left', exists_eq_left, if_true, sizeLine_eq, Nat.reduceLeDiff, Nat.reduceLT, Nat.zero_le, true_and, and_true, Bool.false_eq_true, if_false]
    intro f nf
    obtain ⟨f1, f2⟩ := sp.ne nf
    refine ⟨_, rfl, rfl, _, _, rfl, _, _, rfl, _, _, rfl, rfl, p, a, n + 19, 3, rfl, by decide, by decide, sp.up f1 f2, fun m S1 m0 m1 sp1 of1 => add_i ⟨_, rfl, by omega, by omega, ?_⟩⟩
    obtain ⟨m, rfl⟩ : ∃ j : Nat, m = j := ⟨m.toNat, by omega⟩
    have em : ((1 : Int) + (m : Nat)).toNat = 1 + m := by omega
    rw [em]
    refine fr_rng (fun i δ S' => ∃ (ks : List (Str × List Str)) (r4 r5 r6 r7 : Option D), δ = [some (.ref p), some (.fl [.str "f", .str "g", .str "head", .str "next", .str "t0", .str "made"]), some (.fl [.str "box", .str "end", .str "no1"]), some (.ref f), r4, r5, r6, r7] ∧ i ≤ 1 + m ∧ S' f = some (.lst (ks.map kindD)) ∧
      ks.length = i ∧ (∀ q ∈ ks, KOk q) ∧ Spr S' p a (n + (3 - i) * 5) ∧ ∀ b, b ≠ p → b ≠ a → b ≠ f → S' b = S b) ⟨[], _, _, _, _, rfl, Nat.zero_le _, by rw [of1 f f1 f2, up_same]; rfl, rfl, fun q hq => (by cases hq), sp1.mono (by omega), fun b b1 b2 b3 => by rw [of1 b b1 b2, up_ne b3]⟩ ?_ ?_
    · rintro i δ S' hi ⟨ks, r4, r5, r6, r7, rfl, hi2, hf, hl, h4, sp', off⟩
      simp only [dVar, dC, dOp, dUn, dChain, dTr, dB, dAnd, dOr, dNot, dIf, dAndV, dOrV, dNotV, dNil, dCons, dTup, dLst, dLf, dNext, dSeq, dBreak, dCont, dDrop, dRet, dRetN, dIfS, gdName, gdNil, gdCons, gdTup, gdSub, dAsg, dPar, dCall, dCallK, dCB, dM0, dM, dGet1, dGet2, dDk, dDt, dPart, dNoPart, dSlice, dAug, dYes, dSort2, revD, iTupD, iLstD, iLf, iLw, iRange1, iRange2, iRange3, iEnumD, iZipD, iZipMD, iStrD, dGix, dDc, dIsi, dSortSet, dLenSet, dDlit, gdLst, dFor, dWhile, dLc, dLcM, dFld, dFldSet, dFldAdd, dMeth, dMake, dPar3, dCut, dTcut, wipeD, bodyE, startD, List.map_cons, List.map_nil, List.length_cons, List.length_nil, List.replicate_succ, List.replicate_zero, List.cons_append, List.nil_append, Nat.reduceAdd, Nat.reduceSub, Nat.zero_add, List.getElem?_cons_zero, List.getElem?_cons_succ, List.set_cons_zero, List.set_cons_succ, Option.some.injEq, exists_eq_left', exists_eq_left, if_true, sizeLine_eq, Nat.reduceLeDiff, Nat.reduceLT, Nat.zero_le, true_and, and_true, Bool.false_eq_true, if_false]
      obtain ⟨B, hB⟩ : ∃ B : Nat, B = n + (3 - (i + 1)) * 5 := ⟨_, rfl⟩
      refine ⟨p, a, B + 4, 6, rfl, by decide, by decide, sp'.mono (by omega), fun t S2 t0 t1 sp2 of2 => ?_⟩
      refine ⟨p, a, B + 3, 2, rfl, by decide, by decide, sp2, fun u S3 u0 u1 sp3 of3 => ?_⟩
      obtain ⟨t, rfl⟩ : ∃ j : Nat, t = j := ⟨t.toNat, by omega⟩
      obtain ⟨st, hst⟩ : ∃ st : Nat, atI [D.int 1, D.int 5] u = some (.int (st : Nat)) ∧ st ≤ 5 := by
        have : u = 0 ∨ u = 1 := by omega
        rcases this with rfl | rfl
        · exact ⟨1, rfl, by decide⟩
        · exact ⟨5, rfl, by decide⟩
      obtain ⟨z, hz, sz⟩ : ∃ z : Str, atI [D.str "box", D.str "end", D.str "no1"] (0 + (i : Nat)) = some (.str z) ∧ Sh z := by
        have : i = 0 ∨ i = 1 ∨ i = 2 := by omega
        rcases this with rfl | rfl | rfl
        · exact ⟨"box", rfl, shw _ (by simp)⟩
        · exact ⟨"end", rfl, shw _ (by simp)⟩
        · exact ⟨"no1", rfl, shw _ (by simp)⟩
      have hf3 : S3 f = some (.lst (ks.map kindD)) := by rw [of3 f f1 f2, of2 f f1 f2]; exact hf
      refine ix_sq rfl rfl hst.1 ⟨_, rfl, rfl, _, _, rfl, _, _, rfl, rfl, ?_⟩
      refine ⟨ty_l hf3, ix_sq rfl rfl hz ?_⟩
      refine ⟨p, a, B + 2, 5, rfl, by decide, by decide, sp3, fun c S4 c0 c1 sp4 of4 => ⟨_, rfl, by omega, by omega, ?_⟩⟩
      obtain ⟨c, rfl⟩ : ∃ j : Nat, c = j := ⟨c.toNat, by omega⟩
      have ec : ((c : Nat) : Int).toNat = c := by omega
      rw [ec]
      have hf4 : S4 f = some (.lst (ks.map kindD)) := by rw [of4 f f1 f2]; exact hf3
      refine lc_rng (fun j acc S5 => S5 = S4 ∧ ∃ zs : List Str, acc = zs.map D.str ∧ zs.length = j ∧ j ≤ c ∧ ∀ x ∈ zs, Sh x) ⟨rfl, [], rfl, rfl, Nat.zero_le _, fun x hx => (by cases hx)⟩ ?_ ?_
      · rintro j acc S5 hj ⟨rfl, zs, rfl, rfl, hc, hzs⟩
        obtain ⟨hst1, hst2⟩ := hst
        refine ⟨by rw [List.length_map, sizeLine_eq]; omega, it_of (cmul1 (by omega) (by omega)) (add_i (it_of (by decide) ?_))⟩
        have b0 : 0 ≤ ((t : Int) + (st : Int) * (0 + (zs.length : Int))) % 6 := Int.emod_nonneg _ (by decide)
        have b1 : ((t : Int) + (st : Int) * (0 + (zs.length : Int))) % 6 < 6 := Int.emod_lt_of_pos _ (by decide)
        obtain ⟨w, hw, sw⟩ : ∃ w : Str, atI [D.str "f", D.str "g", D.str "head", D.str "next", D.str "t0", D.str "made"] (((t : Int) + (st : Int) * (0 + (zs.length : Int))) % 6) = some (.str w) ∧ Sh w := by
          generalize ((t : Int) + (st : Int) * (0 + (zs.length : Int))) % 6 = v at b0 b1
          have : v = 0 ∨ v = 1 ∨ v = 2 ∨ v = 3 ∨ v = 4 ∨ v = 5 := by omega
          rcases this with rfl | rfl | rfl | rfl | rfl | rfl
          · exact ⟨"f", rfl, shw _ (by simp)⟩
          · exact ⟨"g", rfl, shw _ (by simp)⟩
          · exact ⟨"head", rfl, shw _ (by simp)⟩
          · exact ⟨"next", rfl, shw _ (by simp)⟩
          · exact ⟨"t0", rfl, shw _ (by simp)⟩
          · exact ⟨"made", rfl, shw _ (by simp)⟩
        refine ix_sq rfl rfl hw ⟨rfl, zs ++ [w], by rw [List.map_append]; rfl, by rw [List.length_append]; rfl, by omega, fun x hx => ?_⟩
        rcases List.mem_append.mp hx with h | h
        · exact hzs x h
        · rw [List.mem_singleton.mp h]; exact sw
      · rintro j acc S5 hj ⟨rfl, zs, rfl, rfl, hc, hzs⟩
        refine tpl_l rfl (app_of hf4 (by rw [List.length_map, sizeLine_eq]; omega) ⟨ks ++ [(z, zs)], _, _, _, _, rfl, by omega, by rw [up_same, List.map_append]; rfl, by rw [List.length_append, hl]; rfl, fun q hq => ?_, (sp4.up f1 f2).mono (by omega), fun b b1 b2 b3 => by rw [up_ne b3, of4 b b1 b2, of3 b b1 b2, of2 b b1 b2, off b b1 b2 b3]⟩)
        rcases List.mem_append.mp hq with h | h
        · exact h4 q h
        · rw [List.mem_singleton.mp h]; exact ⟨by show zs.length ≤ 4; omega, sz, hzs⟩
    · rintro i δ S' hi ⟨ks, r4, r5, r6, r7, rfl, hi2, hf, hl, h4, sp', off⟩
      refine ⟨_, rfl, tpl_l (ls_l hf) (rt_sub (S1 := del S' f) sub_del (q ks _ (by omega) (by omega) h4 ((sp'.mono (by omega)).del f1 f2) fun b b1 b2 => ?_))⟩
      by_cases e : b = f
      · rw [e, del_same, nf]
      · rw [del_ne e, off b b1 b2 e]
def sp__law_plain_row : SpD := fun ds S Q _ => ∃ (p a : Addr) (n : Nat) (nm : List Str) (m : Nat), ds = [.ref p, .fl (nm.map D.str), .int (m : Nat)] ∧ 0 < nm.length ∧ nm.length ≤ 30 ∧ m ≤ 20 ∧ Spr S p a (n + 10) ∧
  ∀ (r : Rw) S', (∀ fs, r.Ok m fs) → Spr S' p a n → Off p a S S' → Q r.d S'
theorem ok__law_plain_row {P : Program} {w : World} {K : PySem.W.Frag} {mg : Str → Option Value} {base : Heap} (T : Txt K mg) (C__law_pick : Cal P w K mg base 2 "_law_pick" s__law_pick ["deck", "some"] sp__law_pick) (C__law_draw : Cal P w K mg base 1 "_law_draw" s__law_draw ["deck", "count"] sp__law_draw) {ff : Addr} {fd : FuncData} (F : Fun K "_law_plain_row" "_law_plain_row" s__law_plain_row ff fd) (mf : mg "_law_plain_row" = some (.ref ff)) : Cal P w K mg base 3 "_law_plain_row" s__law_plain_row ["deck", "names", "size"] sp__law_plain_row := by
  refine ⟨ff, fd, okD F sc__law_plain_row (fun ds S Q E h => ?len) (fun cdv A outer s H E ds S Q E' hcd hr h => ⟨_, (dss_cons (ds_set 3 sc__law_plain_row.nd (de_c C__law_pick hr (da_cons (de_var 0) (da_cons (de_lf (da_cons de_str (da_cons de_str (da_cons de_str (da_cons de_str (da_cons de_str (da_cons de_str (da_cons de_str (da_cons de_str (da_cons de_str (da_cons de_str da_nil))))))))))) da_nil))))
      (dss_cons (ds_asg (de_lc [("k", 7)] rfl sc__law_plain_row.nd (di_range1 (by rfl) T.nb_range (da_cons de_int da_nil)) (blkOk_by (N := ["deck", "names", "size", "word", "x", "y", "z", "k", "many"]) (sc := defScope s__law_plain_row) (by decide +kernel)) (fun _ _ _ _ _ => (pg_name (i := 7) sc__law_plain_row.nd rfl (Or.inl rfl) (Or.inr rfl))) (fun N => (tg_name (vs := [7]) (i := 7) (by decide))) (fun _ _ _ _ _ => dts_nil) (fun _ _ _ _ _ => (de_c C__law_pick hr (da_cons (de_var 0) (da_cons (de_var 1) da_nil))))) (dg_lst (n := 3) rfl (dgs_cons (dg_name 4 sc__law_plain_row.nd) (dgs_cons (dg_name 5 sc__law_plain_row.nd) (dgs_cons (dg_name 6 sc__law_plain_row.nd) dgs_nil)))))
      (dss_cons (ds_if (dt_cmp (od_eq hr) (de_var 3) de_str) (dss_one (ds_ret (de_tup (da_cons (de_var 3) (da_cons (de_c C__law_draw hr (da_cons (de_var 0) (da_cons (de_op (od_add false) (de_var 2) de_int) da_nil))) da_nil))))) dss_nil)
      (dss_cons (ds_if (dt_cmp (od_eq hr) (de_var 3) de_str) (dss_one (ds_ret (de_tup (da_cons (de_var 3) (da_cons (de_var 4) (da_cons (de_c C__law_pick hr (da_cons (de_var 0) (da_cons (de_lf (da_cons de_int (da_cons de_int (da_cons de_int (da_cons de_int da_nil))))) da_nil))) da_nil)))))) dss_nil)
      (dss_cons (ds_if (dt_cmp (od_eq hr) (de_var 3) de_str) (dss_one (ds_ret (de_tup (da_cons (de_var 3) (da_cons (de_c C__law_pick hr (da_cons (de_var 0) (da_cons (de_lf (da_cons (de_var 4) (da_cons de_non da_nil))) da_nil))) da_nil))))) dss_nil)
      (dss_cons (ds_set 8 sc__law_plain_row.nd (de_get2 hr (de_dlit [(.inr "copy", .int 2), (.inr "plus", .int 3), (.inr "minus", .int 3), (.inr "times", .int 3)] (pps_cons pe_str pe_int (pps_cons pe_str pe_int (pps_cons pe_str pe_int (pps_cons pe_str pe_int pps_nil))))) (de_var 3) de_int ⟨rfl, rfl, rfl, rfl⟩))
      (dss_one (ds_ret (de_op (od_add false) (de_tup (da_cons (de_var 3) da_nil)) (de_slice (xd_slice false) (de_tup (da_cons (de_var 4) (da_cons (de_var 5) (da_cons (de_var 6) da_nil)))) do_none (do_some (de_var 8)))))))))))), ?run⟩), F.binds (ps := ["deck", "names", "size"]) fun _ _ _ _ _ _ us hl => match us, hl with | [_, _, _], _ => rfl, mf, F⟩
  case len => obtain ⟨p, a, n, nm, m, rfl, _⟩ := h; rfl
  case run =>
    obtain ⟨p, a, n, nm, m, rfl, l0, l30, m20, sp, q⟩ := h
    simp only [dVar, dC, dOp, dUn, dChain, dTr, dB, dAnd, dOr, dNot, dIf, dAndV, dOrV, dNotV, dNil, dCons, dTup, dLst, dLf, dNext, dSeq, dBreak, dCont, dDrop, dRet, dRetN, dIfS, gdName, gdNil, gdCons, gdTup, gdSub, dAsg, dPar, dCall, dCallK, dCB, dM0, dM, dGet1, dGet2, dDk, dDt, dPart, dNoPart, dSlice, dAug, dYes, dSort2, revD, iTupD, iLstD, iLf, iLw, iRange1, iRange2, iRange3, iEnumD, iZipD, iZipMD, iStrD, dGix, dDc, dIsi, dSortSet, dLenSet, dDlit, gdLst, dFor, dWhile, dLc, dLcM, dFld, dFldSet, dFldAdd, dMeth, dMake, dPar3, dCut, dTcut, wipeD, bodyE, startD, List.map_cons, List.map_nil, List.length_cons, List.length_nil, List.replicate_succ, List.replicate_zero, List.cons_append, List.nil_append, Nat.reduceAdd, Nat.reduceSub, Nat.zero_add, List.getElem?_cons_zero, List.getElem?_cons_succ, List.set_cons_zero, List.set_cons_succ, Option.some.injEq, exists_eq_left', exists_eq_left, if_true, sizeLine_eq, Nat.reduceLeDiff, Nat.reduceLT, Nat.zero_le, true_and, and_true, Bool.false_eq_true, if_false]
    refine ⟨p, a, n + 9, _, _, rfl, .inl (.fl _), by simp, by simp, sp, fun w S1 hw sp1 of1 => ⟨3, rfl, by decide, by decide, three l0 l30 (k := n + 6) sp1 fun x y z S2 hx hy hz sp2 of2 => ⟨_, rfl, rfl, _, _, rfl, _, _, rfl, _, _, rfl, rfl, ?_⟩⟩⟩
    have off := of1.trans of2
    have fin : ∀ (r : Rw) (S' : Sto), (∀ fs, r.Ok m fs) → Spr S' p a n → Off p a S S' → ∃ d1 S1, VW r.d S' d1 S1 ∧ Q d1 S1 := fun r S' h1 h2 h3 => rt_of (q r S' h1 h2 h3)
    simp only [List.mem_cons, List.not_mem_nil, or_false] at hw
    rcases hw with rfl | rfl | rfl | rfl | rfl | rfl | rfl | rfl | rfl | rfl
    · exact ⟨_, rfl, brF (xf (ofS (by decide))) ⟨_, rfl, brF (xf (ofS (by decide))) ⟨_, rfl, brF (xf (ofS (by decide))) fun g ng => ⟨ty_dk up_same, some (.int 2), by unfold atD; dsimp only; rw [up_same]; rfl, 2, rfl, sl_t (add_t (by rw [sizeLine_eq]; exact Nat.le_of_ble_eq_true rfl) (rt_up ng (q (.copy x y) S2 (fun _ => trivial) (sp2.mono (by omega)) off)))⟩⟩⟩⟩
    · exact ⟨_, rfl, brF (xf (ofS (by decide))) ⟨_, rfl, brF (xf (ofS (by decide))) ⟨_, rfl, brF (xf (ofS (by decide))) fun g ng => ⟨ty_dk up_same, none, by unfold atD; dsimp only; rw [up_same]; rfl, 1, rfl, sl_t (add_t (by rw [sizeLine_eq]; exact Nat.le_of_ble_eq_true rfl) (rt_up ng (q (.none x) S2 (fun _ => trivial) (sp2.mono (by omega)) off)))⟩⟩⟩⟩
    · exact ⟨_, rfl, brF (xf (ofS (by decide))) ⟨_, rfl, brT (xt rfl) ⟨p, a, n + 1, _, _, rfl, .inl (.fl _), by simp, by simp, sp2.mono (by omega), fun v S3 hv sp3 of3 => by
        obtain ⟨v, rfl⟩ : ∃ j : Int, v = .int j := by
          simp only [List.mem_cons, List.not_mem_nil, or_false] at hv
          rcases hv with rfl | rfl | rfl | rfl <;> exact ⟨_, rfl⟩
        exact fin (.num x v) S3 (fun _ => trivial) (sp3.mono (by omega)) (off.trans of3)⟩⟩⟩
    · exact ⟨_, rfl, brF (xf (ofS (by decide))) ⟨_, rfl, brF (xf (ofS (by decide))) ⟨_, rfl, brF (xf (ofS (by decide))) fun g ng => ⟨ty_dk up_same, some (.int 3), by unfold atD; dsimp only; rw [up_same]; rfl, 3, rfl, sl_t (add_t (by rw [sizeLine_eq]; exact Nat.le_of_ble_eq_true rfl) (rt_up ng (q (.sum "plus" x y z) S2 (fun _ => (by show ("plus" : Str) ∈ sums; decide +kernel)) (sp2.mono (by omega)) off)))⟩⟩⟩⟩
    · exact ⟨_, rfl, brF (xf (ofS (by decide))) ⟨_, rfl, brF (xf (ofS (by decide))) ⟨_, rfl, brF (xf (ofS (by decide))) fun g ng => ⟨ty_dk up_same, some (.int 3), by unfold atD; dsimp only; rw [up_same]; rfl, 3, rfl, sl_t (add_t (by rw [sizeLine_eq]; exact Nat.le_of_ble_eq_true rfl) (rt_up ng (q (.sum "minus" x y z) S2 (fun _ => (by show ("minus" : Str) ∈ sums; decide +kernel)) (sp2.mono (by omega)) off)))⟩⟩⟩⟩
    · exact ⟨_, rfl, brF (xf (ofS (by decide))) ⟨_, rfl, brF (xf (ofS (by decide))) ⟨_, rfl, brF (xf (ofS (by decide))) fun g ng => ⟨ty_dk up_same, some (.int 3), by unfold atD; dsimp only; rw [up_same]; rfl, 3, rfl, sl_t (add_t (by rw [sizeLine_eq]; exact Nat.le_of_ble_eq_true rfl) (rt_up ng (q (.sum "times" x y z) S2 (fun _ => (by show ("times" : Str) ∈ sums; decide +kernel)) (sp2.mono (by omega)) off)))⟩⟩⟩⟩
    · exact ⟨_, rfl, brF (xf (ofS (by decide))) ⟨_, rfl, brF (xf (ofS (by decide))) ⟨_, rfl, brT (xt rfl) ⟨p, a, n + 1, _, _, rfl, .inl (.fl _), by simp, by simp, sp2.mono (by omega), fun v S3 hv sp3 of3 => by
        obtain ⟨u, rfl⟩ : ∃ u : Option Str, v = oD u := by
          simp only [List.mem_cons, List.not_mem_nil, or_false] at hv
          rcases hv with rfl | rfl
          · exact ⟨some x, rfl⟩
          · exact ⟨none, rfl⟩
        exact fin (.inp u) S3 (fun _ => trivial) (sp3.mono (by omega)) (off.trans of3)⟩⟩⟩⟩
    · exact ⟨_, rfl, brF (xf (ofS (by decide))) ⟨_, rfl, brF (xf (ofS (by decide))) ⟨_, rfl, brF (xf (ofS (by decide))) fun g ng => ⟨ty_dk up_same, none, by unfold atD; dsimp only; rw [up_same]; rfl, 1, rfl, sl_t (add_t (by rw [sizeLine_eq]; exact Nat.le_of_ble_eq_true rfl) (rt_up ng (q (.tell x) S2 (fun _ => trivial) (sp2.mono (by omega)) off)))⟩⟩⟩⟩
    · exact ⟨_, rfl, brF (xf (ofS (by decide))) ⟨_, rfl, brF (xf (ofS (by decide))) ⟨_, rfl, brF (xf (ofS (by decide))) fun g ng => ⟨ty_dk up_same, none, by unfold atD; dsimp only; rw [up_same]; rfl, 1, rfl, sl_t (add_t (by rw [sizeLine_eq]; exact Nat.le_of_ble_eq_true rfl) (rt_up ng (q (.ret x) S2 (fun _ => trivial) (sp2.mono (by omega)) off)))⟩⟩⟩⟩
    · exact ⟨_, rfl, brT (xt rfl) (add_i ⟨p, a, n + 1, _, rfl, by omega, by omega, sp2.mono (by omega), fun t S3 t0 t1 sp3 of3 => by
        obtain ⟨t, rfl⟩ : ∃ j : Nat, t = j := ⟨t.toNat, by omega⟩
        exact fin (.jump t) S3 (fun _ => (by show t ≤ m; omega)) (sp3.mono (by omega)) (off.trans of3)⟩)⟩
def sp__law_row : SpD := fun ds S Q _ => ∃ (p a : Addr) (n : Nat) (ks : List (Str × List Str)) (h : Addr) (hs : List (Str × List Str)) (nm : List Str) (m : Nat), ds = [.ref p, .tup (ks.map kindD), .ref h, .fl (nm.map D.str), .int (m : Nat)] ∧ 0 < ks.length ∧ ks.length ≤ 3 ∧ (∀ q ∈ ks, KOk q) ∧ 0 < nm.length ∧ nm.length ≤ 30 ∧ m ≤ 20 ∧
  S h = some (.lst (hs.map kindD)) ∧ 0 < hs.length ∧ hs.length ≤ 6 ∧ (∀ q ∈ hs, q.2.length ≤ 4) ∧ h ≠ p ∧ h ≠ a ∧ Spr S p a (n + 20) ∧
  ∀ (r : Rw) S', r.Ok m (hs.map (·.1)) → Spr S' p a n → Off p a S S' → Q r.d S'
theorem ok__law_row {P : Program} {w : World} {K : PySem.W.Frag} {mg : Str → Option Value} {base : Heap} (T : Txt K mg) (C__law_pick : Cal P w K mg base 2 "_law_pick" s__law_pick ["deck", "some"] sp__law_pick) (C__law_plain_row : Cal P w K mg base 3 "_law_plain_row" s__law_plain_row ["deck", "names", "size"] sp__law_plain_row) (C__law_draw : Cal P w K mg base 1 "_law_draw" s__law_draw ["deck", "count"] sp__law_draw) {ff : Addr} {fd : FuncData} (F : Fun K "_law_row" "_law_row" s__law_row ff fd) (mf : mg "_law_row" = some (.ref ff)) : Cal P w K mg base 4 "_law_row" s__law_row ["deck", "kinds", "heads", "names", "size"] sp__law_row := by
  refine ⟨ff, fd, okD F sc__law_row (fun ds S Q E h => ?len) (fun cdv A outer s H E ds S Q E' hcd hr h => ⟨_, (dss_cons (ds_set 5 sc__law_row.nd (de_c C__law_pick hr (da_cons (de_var 0) (da_cons (de_lf (da_cons de_str (da_cons de_str (da_cons de_str (da_cons de_str (da_cons de_str (da_cons de_str (da_cons de_str (da_cons de_str (da_cons de_str (da_cons de_str da_nil))))))))))) da_nil))))
      (dss_cons (ds_asg (de_lc [("k", 9)] rfl sc__law_row.nd (di_range1 (by rfl) T.nb_range (da_cons de_int da_nil)) (blkOk_by (N := ["deck", "kinds", "heads", "names", "size", "word", "x", "y", "z", "k", "called", "one", "kind", "field", "what"]) (sc := defScope s__law_row) (by decide +kernel)) (fun _ _ _ _ _ => (pg_name (i := 9) sc__law_row.nd rfl (Or.inl rfl) (Or.inr rfl))) (fun N => (tg_name (vs := [9]) (i := 9) (by decide))) (fun _ _ _ _ _ => dts_nil) (fun _ _ _ _ _ => (de_c C__law_pick hr (da_cons (de_var 0) (da_cons (de_var 3) da_nil))))) (dg_lst (n := 3) rfl (dgs_cons (dg_name 6 sc__law_row.nd) (dgs_cons (dg_name 7 sc__law_row.nd) (dgs_cons (dg_name 8 sc__law_row.nd) dgs_nil)))))
      (dss_cons (ds_if (dw_and (dt_cmp (od_eq hr) (de_var 5) de_str) (dw_and1 (dt_cmp od_gt (de_callB cd_len (by rfl) T.nb_len (da_cons (de_var 2) da_nil)) de_int))).pt (dss_cons (ds_set 10 sc__law_row.nd (de_ix (xd_ix hr) (de_var 2) (de_op (od_add false) de_int (de_c C__law_draw hr (da_cons (de_var 0) (da_cons (de_op od_sub (de_callB cd_len (by rfl) T.nb_len (da_cons (de_var 2) da_nil)) de_int) da_nil))))))
      (dss_one (ds_ret (de_tup (da_cons (de_var 5) (da_cons (de_c C__law_pick hr (da_cons (de_var 0) (da_cons (de_lf (da_cons (de_var 6) (da_cons (de_var 6) (da_cons de_non da_nil)))) da_nil))) (da_cons (de_ix (xd_ix hr) (de_var 10) de_int) (da_cons (de_callTy cd_tuple (by rfl) T.nb_tuple (da_cons (de_lc [("one", 11)] rfl sc__law_row.nd (di_tup (de_ix (xd_ix hr) (de_var 10) de_int)) (blkOk_by (N := ["deck", "kinds", "heads", "names", "size", "word", "x", "y", "z", "k", "called", "one", "kind", "field", "what"]) (sc := defScope s__law_row) (by decide +kernel)) (fun _ _ _ _ _ => (pg_name (i := 11) sc__law_row.nd rfl (Or.inl rfl) (Or.inr rfl))) (fun N => (tg_name (vs := [11]) (i := 11) (by decide))) (fun _ _ _ _ _ => dts_nil) (fun _ _ _ _ _ => (de_c C__law_pick hr (da_cons (de_var 0) (da_cons (de_var 3) da_nil))))) da_nil)) da_nil)))))))) dss_nil)
      (dss_cons (ds_if (dt_cmp (od_eq hr) (de_var 5) de_str) (dss_cons (ds_set 12 sc__law_row.nd (de_c C__law_pick hr (da_cons (de_var 0) (da_cons (de_var 1) da_nil))))
      (dss_one (ds_ret (de_tup (da_cons (de_var 5) (da_cons (de_var 6) (da_cons (de_ix (xd_ix hr) (de_var 12) de_int) (da_cons (de_callTy cd_tuple (by rfl) T.nb_tuple (da_cons (de_lc [("field", 13)] rfl sc__law_row.nd (di_tup (de_ix (xd_ix hr) (de_var 12) de_int)) (blkOk_by (N := ["deck", "kinds", "heads", "names", "size", "word", "x", "y", "z", "k", "called", "one", "kind", "field", "what"]) (sc := defScope s__law_row) (by decide +kernel)) (fun _ _ _ _ _ => (pg_name (i := 13) sc__law_row.nd rfl (Or.inl rfl) (Or.inr rfl))) (fun N => (tg_name (vs := [13]) (i := 13) (by decide))) (fun _ _ _ _ _ => dts_nil) (fun _ _ _ _ _ => (de_c C__law_pick hr (da_cons (de_var 0) (da_cons (de_var 3) da_nil))))) da_nil)) da_nil)))))))) dss_nil)
      (dss_cons (ds_if (dt_cmp (od_eq hr) (de_var 5) de_str) (dss_one (ds_ret (de_tup (da_cons (de_var 5) (da_cons (de_var 6) (da_cons (de_var 7) (da_cons (de_c C__law_pick hr (da_cons (de_var 0) (da_cons (de_lf (da_cons de_str (da_cons de_str (da_cons de_str (da_cons de_str (da_cons de_str (da_cons de_str da_nil))))))) da_nil))) da_nil))))))) dss_nil)
      (dss_cons (ds_if (dt_cmp (od_eq hr) (de_var 5) de_str) (dss_cons (ds_set 14 sc__law_row.nd (de_c C__law_pick hr (da_cons (de_var 0) (da_cons (de_op (od_add false) (de_lc [("kind", 12)] rfl sc__law_row.nd (di_tup (de_var 1)) (blkOk_by (N := ["deck", "kinds", "heads", "names", "size", "word", "x", "y", "z", "k", "called", "one", "kind", "field", "what"]) (sc := defScope s__law_row) (by decide +kernel)) (fun _ _ _ _ _ => (pg_name (i := 12) sc__law_row.nd rfl (Or.inl rfl) (Or.inr rfl))) (fun N => (tg_name (vs := [12]) (i := 12) (by decide))) (fun _ _ _ _ _ => dts_nil) (fun _ _ _ _ _ => (de_ix (xd_ix hr) (de_var 12) de_int))) (de_lf (da_cons de_str (da_cons de_str da_nil)))) da_nil))))
      (dss_one (ds_ret (de_tup (da_cons (de_var 5) (da_cons (de_var 7) (da_cons (de_var 14) (da_cons (de_c C__law_draw hr (da_cons (de_var 0) (da_cons (de_op (od_add false) (de_var 4) de_int) da_nil))) da_nil)))))))) dss_nil)
      (dss_cons (ds_if (dt_cmp (od_in hr) (de_var 5) (de_tup (da_cons de_str (da_cons de_str da_nil)))) (dss_one (ds_ret (de_tup (da_cons (de_var 5) (da_cons (de_var 7) (da_cons (de_var 8) (da_cons (de_c C__law_draw hr (da_cons (de_var 0) (da_cons (de_op (od_add false) (de_var 4) de_int) da_nil))) da_nil))))))) dss_nil)
      (dss_one (ds_ret (de_ifExp (dt_cmp (od_eq hr) (de_var 5) de_str) (de_tup (da_cons (de_var 5) (da_cons (de_var 7) da_nil))) (de_c C__law_plain_row hr (da_cons (de_var 0) (da_cons (de_var 3) (da_cons (de_var 4) da_nil)))))))))))))), ?run⟩), F.binds (ps := ["deck", "kinds", "heads", "names", "size"]) fun _ _ _ _ _ _ us hl => match us, hl with | [_, _, _, _, _], _ => rfl, mf, F⟩
  case len => obtain ⟨p, a, n, ks, h, hs, nm, m, rfl, _⟩ := h; rfl
  case run =>
    obtain ⟨p, a, n, ks, h, hs, nm, m, rfl, k0, k3, k4, l0, l30, m20, hh, h0, h6, h4, hp, ha, sp, q⟩ := h
    simp only [dVar, dC, dOp, dUn, dChain, dTr, dB, dAnd, dOr, dNot, dIf, dAndV, dOrV, dNotV, dNil, dCons, dTup, dLst, dLf, dNext, dSeq, dBreak, dCont, dDrop, dRet, dRetN, dIfS, gdName, gdNil, gdCons, gdTup, gdSub, dAsg, dPar, dCall, dCallK, dCB, dM0, dM, dGet1, dGet2, dDk, dDt, dPart, dNoPart, dSlice, dAug, dYes, dSort2, revD, iTupD, iLstD, iLf, iLw, iRange1, iRange2, iRange3, iEnumD, iZipD, iZipMD, iStrD, dGix, dDc, dIsi, dSortSet, dLenSet, dDlit, gdLst, dFor, dWhile, dLc, dLcM, dFld, dFldSet, dFldAdd, dMeth, dMake, dPar3, dCut, dTcut, wipeD, bodyE, startD, List.map_cons, List.map_nil, List.length_cons, List.length_nil, List.replicate_succ, List.replicate_zero, List.cons_append, List.nil_append, Nat.reduceAdd, Nat.reduceSub, Nat.zero_add, List.getElem?_cons_zero, List.getElem?_cons_succ, List.set_cons_zero, List.set_cons_succ, Option.some.injEq, exists_eq_left', exists_eq_left, if_true, sizeLine_eq, Nat.reduceLeDiff, Nat.reduceLT, Nat.zero_le, true_and, and_true, Bool.false_eq_true, if_false]
    refine ⟨p, a, n + 19, _, _, rfl, .inl (.fl _), by simp, by simp, sp, fun w S1 hw sp1 of1 => ⟨3, rfl, by decide, by decide, three l0 l30 (k := n + 16) sp1 fun x y z S2 hx hy hz sp2 of2 => ⟨_, rfl, rfl, _, _, rfl, _, _, rfl, _, _, rfl, rfl, ?_⟩⟩⟩
    have off := of1.trans of2
    have hh2 : S2 h = some (.lst (hs.map kindD)) := by rw [of2 h hp ha, of1 h hp ha]; exact hh
    have fin : ∀ (r : Rw) (S' : Sto), r.Ok m (hs.map (·.1)) → Spr S' p a n → Off p a S S' → ∃ d1 S1, VW r.d S' d1 S1 ∧ Q d1 S1 := fun r S' h1 h2 h3 => rt_of (q r S' h1 h2 h3)
    have PL : ∀ S2 : Sto, Spr S2 p a (n + 16) → Off p a S S2 → sp__law_plain_row [.ref p, .fl (nm.map D.str), .int (m : Nat)] S2 (fun d S' => ∃ d1 S1, VW d S' d1 S1 ∧ Q d1 S1) X0 := fun S2 sp2 off =>
      ⟨p, a, n + 6, nm, m, rfl, l0, l30, m20, sp2, fun r S3 okr sp3 of3 => fin r S3 (okr _) (sp3.mono (by omega)) (off.trans of3)⟩
    have ish : ∀ w ∈ (["plain", "make", "read", "call", "less", "same", "is", "tell"] : List Str), PyData.strOk w = true ∧ w.length ≤ 40 := by decide +kernel
    have sm2 : ∀ d ∈ (["less", "same"] : List Str).map D.str, Sm 1 40 d := fun d hd => by
      obtain ⟨x, hx, rfl⟩ := List.mem_map.mp hd
      exact Sm.str (by revert x; decide +kernel) (by revert x; decide +kernel)
    have in2 : ∀ w ∈ (["plain", "make", "read", "call", "less", "same", "is", "tell"] : List Str), ∀ {S' : Sto} {Q' : KD}, Q' (.bl (decide (w ∈ (["less", "same"] : List Str)))) S' → inD false (.str w) (.tup [.str "less", .str "same"]) S' Q' := fun w hw {S' Q'} qq =>
      in_of (k := 1) (w := 40) (Sm.str (ish w hw).1 (ish w hw).2) (ys := (["less", "same"] : List Str).map D.str) rfl sm2 (by decide) (by decide) (fun _ e => nomatch e) (by rw [any_str, Bool.false_xor]; exact qq)
    have hw' : w ∈ (["plain", "make", "read", "call", "less", "same", "is", "tell"] : List Str).map D.str := by
      simp only [List.map_cons, List.map_nil, List.mem_cons, List.not_mem_nil, or_false] at hw ⊢
      rcases hw with h | h | h | h | h | h | h | h | h | h <;> simp [h]
    clear hw
    simp only [List.map_cons, List.map_nil, List.mem_cons, List.not_mem_nil, or_false] at hw'
    have TEST : ∀ w : Str, (w = "less" ∨ w = "same") → addD false (.int (m : Nat)) (.int 1) S2 fun x S1 => sp__law_draw [.ref p, x] S1 (fun x S1 => ∃ d1 S1_1, VW (.tup [.str w, .str y, .str z, x]) S1 d1 S1_1 ∧ Q d1 S1_1) X0 := fun w hw =>
      add_i ⟨p, a, n + 1, _, rfl, by omega, by omega, sp2.mono (by omega), fun t S3 t0 t1 sp3 of3 => by
        obtain ⟨t, rfl⟩ : ∃ j : Nat, t = j := ⟨t.toNat, by omega⟩
        exact fin (.test w y z t) S3 ⟨hw, by omega⟩ (sp3.mono (by omega)) (off.trans of3)⟩
    rcases hw' with rfl | rfl | rfl | rfl | rfl | rfl | rfl | rfl
    · exact ⟨_, rfl, brF (xf (ofS (by decide))) ⟨_, rfl, brF (xf (ofS (by decide))) ⟨_, rfl, brF (xf (ofS (by decide))) ⟨_, rfl, brF (xf (ofS (by decide))) (in2 _ (by simp) ⟨_, rfl, brF (by decide +kernel) ⟨_, rfl, brF (xf (ofS (by decide))) (PL S2 sp2 off)⟩⟩)⟩⟩⟩⟩
    · refine ⟨_, rfl, brF (xf (ofS (by decide))) ⟨_, rfl, brT (xt rfl) ?_⟩⟩
      refine ⟨p, a, n + 15, _, _, rfl, .inl (.tup _), by rw [List.length_map]; exact k0, by rw [List.length_map]; omega, sp2, fun kd S3 hk sp3 of3 => ?_⟩
      obtain ⟨k, hk', rfl⟩ := List.mem_map.mp hk
      refine ix_sq rfl rfl at_0 (ix_sq rfl rfl (at_n (i := 1) rfl) ⟨_, .inl rfl, some_nm (k := n + 11) k.2 l0 l30 (k4 k hk').1 sp3 fun zs S4 z4 sp4 of4 => tpl_l rfl (fin (.make x k.1 zs) S4 z4 (sp4.mono (by omega)) ((off.trans of3).trans of4))⟩)
    · exact ⟨_, rfl, brF (xf (ofS (by decide))) ⟨_, rfl, brF (xf (ofS (by decide))) ⟨_, rfl, brT (xt rfl) ⟨p, a, n + 1, _, _, rfl, .inl (.fl _), by simp, by simp, sp2.mono (by omega), fun v S3 hv sp3 of3 => by
        obtain ⟨v, rfl⟩ : ∃ j : Str, v = .str j := by
          simp only [List.mem_cons, List.not_mem_nil, or_false] at hv
          rcases hv with rfl | rfl | rfl | rfl | rfl | rfl <;> exact ⟨_, rfl⟩
        exact fin (.read x y v) S3 trivial (sp3.mono (by omega)) (off.trans of3)⟩⟩⟩⟩
    · refine ⟨_, rfl, brT (xt rfl) (len_sq (sq_l hh2) (it_of trivial ⟨_, rfl, br2 (fun hl => ?_) fun hl => ⟨_, rfl, brF (xf (ofS (by decide))) ⟨_, rfl, brF (xf (ofS (by decide))) ⟨_, rfl, brF (xf (ofS (by decide))) (in2 _ (by simp) ⟨_, rfl, brF (by decide +kernel) ⟨_, rfl, brF (xf (ofS (by decide))) (PL S2 sp2 off)⟩⟩)⟩⟩⟩⟩))⟩
      have hl' := of_decide_eq_true hl
      rw [List.length_map] at hl'
      refine len_sq (sq_l hh2) (it_of trivial ⟨p, a, n + 15, _, rfl, by rw [List.length_map]; omega, by rw [List.length_map]; omega, sp2, fun t S3 t0 t1 sp3 of3 => add_i ?_⟩)
      rw [List.length_map] at t1
      obtain ⟨t, rfl⟩ : ∃ j : Nat, t = j := ⟨t.toNat, by omega⟩
      have hlt : 1 + t < hs.length := by omega
      have hh3 : S3 h = some (.lst (hs.map kindD)) := by rw [of3 h hp ha]; exact hh2
      have hm : hs[1 + t] ∈ hs := List.getElem_mem hlt
      rw [show (1 : Int) + (t : Nat) = ((1 + t : Nat) : Int) by omega]
      refine ix_sq rfl (sq_l hh3) (at_n (by rw [List.getElem?_map, List.getElem?_eq_getElem hlt]; rfl)) ?_
      generalize hs[1 + t] = k at hm
      refine ⟨p, a, n + 14, _, _, rfl, .inl (.fl _), by simp, by simp, sp3, fun o S4 ho sp4 of4 => ?_⟩
      obtain ⟨u, rfl⟩ : ∃ u : Option Str, o = oD u := by
        simp only [List.mem_cons, List.not_mem_nil, or_false] at ho
        rcases ho with rfl | rfl | rfl
        · exact ⟨some x, rfl⟩
        · exact ⟨some x, rfl⟩
        · exact ⟨none, rfl⟩
      refine ix_sq rfl rfl at_0 (ix_sq rfl rfl (at_n (i := 1) rfl) ⟨_, .inl rfl, some_nm (k := n + 10) k.2 l0 l30 (h4 k hm) sp4 fun zs S5 z4 sp5 of5 => tpl_l rfl (fin (.call u k.1 zs) S5 ⟨List.mem_map.mpr ⟨k, hm, rfl⟩, z4⟩ (sp5.mono (by omega)) (((off.trans of3).trans of4).trans of5))⟩)
    · exact ⟨_, rfl, brF (xf (ofS (by decide))) ⟨_, rfl, brF (xf (ofS (by decide))) ⟨_, rfl, brF (xf (ofS (by decide))) ⟨_, rfl, brF (xf (ofS (by decide))) (in2 _ (by simp) ⟨_, rfl, brT (by decide +kernel) (TEST "less" (.inl rfl))⟩)⟩⟩⟩⟩
    · exact ⟨_, rfl, brF (xf (ofS (by decide))) ⟨_, rfl, brF (xf (ofS (by decide))) ⟨_, rfl, brF (xf (ofS (by decide))) ⟨_, rfl, brF (xf (ofS (by decide))) (in2 _ (by simp) ⟨_, rfl, brT (by decide +kernel) (TEST "same" (.inr rfl))⟩)⟩⟩⟩⟩
    · refine ⟨_, rfl, brF (xf (ofS (by decide))) ⟨_, rfl, brF (xf (ofS (by decide))) ⟨_, rfl, brF (xf (ofS (by decide))) ⟨_, rfl, brT (xt rfl) ?_⟩⟩⟩⟩
      refine ⟨_, .inl rfl, lc_seq (fun i acc S' => S' = S2 ∧ acc = (ks.take i).map fun k => D.str k.1) ⟨rfl, rfl⟩ ?_ ?_⟩
      · rintro i x' acc S' hx' ⟨rfl, rfl⟩
        obtain ⟨k, hk, rfl⟩ := map_at hx'
        refine ⟨by rw [List.length_map, List.length_take, sizeLine_eq]; omega, ix_sq rfl rfl at_0 ⟨rfl, ?_⟩⟩
        rw [tk1 hk, List.map_append]
        rfl
      · rintro i acc S' hi ⟨rfl, rfl⟩
        rw [List.length_map] at hi
        rw [List.take_of_length_le hi]
        refine add_f rfl rfl (by rw [List.length_map, sizeLine_eq]; simp; omega) ⟨p, a, n + 15, _, _, rfl, .inl (.fl _), by simp, by rw [List.length_append, List.length_map]; simp; omega, sp2, fun v S3 hv sp3 of3 => ?_⟩
        obtain ⟨v, rfl⟩ : ∃ j : Str, v = .str j := by
          rcases List.mem_append.mp hv with h | h
          · obtain ⟨k, _, rfl⟩ := List.mem_map.mp h
            exact ⟨_, rfl⟩
          · simp only [List.mem_cons, List.not_mem_nil, or_false] at h
            rcases h with rfl | rfl <;> exact ⟨_, rfl⟩
        refine add_i ⟨p, a, n + 14, _, rfl, by omega, by omega, sp3, fun t S4 t0 t1 sp4 of4 => ?_⟩
        obtain ⟨t, rfl⟩ : ∃ j : Nat, t = j := ⟨t.toNat, by omega⟩
        exact fin (.isk y v t) S4 (show t ≤ m by omega) (sp4.mono (by omega)) ((off.trans of3).trans of4)
    · exact ⟨_, rfl, brF (xf (ofS (by decide))) ⟨_, rfl, brF (xf (ofS (by decide))) ⟨_, rfl, brF (xf (ofS (by decide))) ⟨_, rfl, brF (xf (ofS (by decide))) (in2 _ (by simp) ⟨_, rfl, brF (by decide +kernel) ⟨_, rfl, brT (xt rfl) (rt_of (q (.tell y) S2 trivial (sp2.mono (by omega)) off))⟩⟩)⟩⟩⟩⟩
end K19


namespace K19
open PySem L2 PyProof.Rows DL
def sp__law_code : SpD := fun ds S Q _ => ∃ (p a : Addr) (n : Nat), ds = [.ref p] ∧ Spr S p a (n + 4000) ∧ ∀ (ks : List (Str × List Str)) (ps : List Pc) (S' : Sto), 0 < ks.length → ks.length ≤ 3 → (∀ q ∈ ks, KOk q) → PrOk ps → Spr S' p a n → Off p a S S' → Q (prD (.tup (ks.map kindD)) ps) S'
theorem ok__law_code {P : Program} {w : World} {K : PySem.W.Frag} {mg : Str → Option Value} {base : Heap} (T : Txt K mg) (C__law_kinds : Cal P w K mg base 2 "_law_kinds" s__law_kinds ["deck"] sp__law_kinds) (C__law_draw : Cal P w K mg base 1 "_law_draw" s__law_draw ["deck", "count"] sp__law_draw) (C__law_row : Cal P w K mg base 4 "_law_row" s__law_row ["deck", "kinds", "heads", "names", "size"] sp__law_row) {ff : Addr} {fd : FuncData} (F : Fun K "_law_code" "_law_code" s__law_code ff fd) (mf : mg "_law_code" = some (.ref ff)) : Cal P w K mg base 5 "_law_code" s__law_code ["deck"] sp__law_code := by
  refine ⟨ff, fd, okD F sc__law_code (fun ds S Q E h => ?len) (fun cdv A outer s H E ds S Q E' hcd hr h => ⟨_, (dss_cons (ds_asg (de_tup (da_cons (de_c C__law_kinds hr (da_cons (de_var 0) da_nil)) (da_cons (de_lst (da_cons (de_tup (da_cons de_str (da_cons (de_tup da_nil) da_nil))) da_nil)) (da_cons (de_lst da_nil) da_nil)))) (dg_tup (n := 3) rfl (dgs_cons (dg_name 1 sc__law_code.nd) (dgs_cons (dg_name 2 sc__law_code.nd) (dgs_cons (dg_name 3 sc__law_code.nd) dgs_nil)))))
      (dss_cons (ds_for PassesOwn.never rfl (di_lf (de_slice (xd_slice false) (de_lf (da_cons de_str (da_cons de_str da_nil))) do_none (do_some (de_c C__law_draw hr (da_cons (de_var 0) (da_cons de_int da_nil)))))) (dg_name 4 sc__law_code.nd) (dss_one (ds_expr (de_m PySem.F.plainAttrs_list PySem.F.slot_list_append PySem.F.type_list_append md_append (de_var 2) (da_cons (de_tup (da_cons (de_var 4) (da_cons (de_slice (xd_slice false) (de_tup (da_cons de_str (da_cons de_str da_nil))) do_none (do_some (de_c C__law_draw hr (da_cons (de_var 0) (da_cons de_int da_nil))))) da_nil))) da_nil)))))
      (dss_cons (ds_for PassesOwn.never rfl (di_lw (de_var 2)) (dg_tup (n := 2) rfl (dgs_cons (dg_name 4 sc__law_code.nd) (dgs_cons (dg_name 5 sc__law_code.nd) dgs_nil))) (dss_cons (ds_asg (de_tup (da_cons (de_slice (xd_slice false) (de_lf (da_cons de_str (da_cons de_str (da_cons de_str (da_cons de_str (da_cons de_str da_nil)))))) do_none (do_some (de_op (od_add false) de_int (de_c C__law_draw hr (da_cons (de_var 0) (da_cons de_int da_nil)))))) (da_cons (de_op (od_add false) de_int (de_c C__law_draw hr (da_cons (de_var 0) (da_cons de_int da_nil)))) da_nil))) (dg_tup (n := 2) rfl (dgs_cons (dg_name 6 sc__law_code.nd) (dgs_cons (dg_name 7 sc__law_code.nd) dgs_nil))))
      (dss_one (ds_expr (de_m PySem.F.plainAttrs_list PySem.F.slot_list_append PySem.F.type_list_append md_append (de_var 3) (da_cons (de_tup (da_cons (de_var 4) (da_cons (de_var 5) (da_cons (de_callTy cd_tuple (by rfl) T.nb_tuple (da_cons (de_lc [("k", 8)] rfl sc__law_code.nd (di_range1 (by rfl) T.nb_range (da_cons (de_var 7) da_nil)) (blkOk_by (N := ["deck", "kinds", "heads", "found", "name", "handed", "names", "size", "k"]) (sc := defScope s__law_code) (by decide +kernel)) (fun _ _ _ _ _ => (pg_name (i := 8) sc__law_code.nd rfl (Or.inl rfl) (Or.inr rfl))) (fun N => (tg_name (vs := [8]) (i := 8) (by decide))) (fun _ _ _ _ _ => dts_nil) (fun _ _ _ _ _ => (de_c C__law_row hr (da_cons (de_var 0) (da_cons (de_var 1) (da_cons (de_var 2) (da_cons (de_var 6) (da_cons (de_var 7) da_nil)))))))) da_nil)) da_nil)))) da_nil))))))
      (dss_one (ds_ret (de_tup (da_cons (de_var 1) (da_cons (de_callTy cd_tuple (by rfl) T.nb_tuple (da_cons (de_var 3) da_nil)) da_nil)))))))), ?run⟩), F.binds (ps := ["deck"]) fun _ _ _ _ _ _ us hl => match us, hl with | [_], _ => rfl, mf, F⟩
  case len => obtain ⟨p, a, n, rfl, _⟩ := h; rfl
  case run =>
    obtain ⟨p, a, n, rfl, sp, q⟩ := h
    simp only [dVar, dC, dOp, dUn, dChain, dTr, dB, dAnd, dOr, dNot, dIf, dAndV, dOrV, dNotV, dNil, dCons, dTup, dLst, dLf, dNext, dSeq, dBreak, dCont, dDrop, dRet, dRetN, dIfS, gdName, gdNil, gdCons, gdTup, gdSub, dAsg, dPar, dCall, dCallK, dCB, dM0, dM, dGet1, dGet2, dDk, dDt, dPart, dNoPart, dSlice, dAug, dYes, dSort2, revD, iTupD, iLstD, iLf, iLw, iRange1, iRange2, iRange3, iEnumD, iZipD, iZipMD, iStrD, dGix, dDc, dIsi, dSortSet, dLenSet, dDlit, gdLst, dFor, dWhile, dLc, dLcM, dFld, dFldSet, dFldAdd, dMeth, dMake, dPar3, dCut, dTcut, wipeD, bodyE, startD, List.map_cons, List.map_nil, List.length_cons, List.length_nil, List.replicate_succ, List.replicate_zero, List.cons_append, List.nil_append, Nat.reduceAdd, Nat.reduceSub, Nat.zero_add, List.getElem?_cons_zero, List.getElem?_cons_succ, List.set_cons_zero, List.set_cons_succ, Option.some.injEq, exists_eq_left', exists_eq_left, if_true, sizeLine_eq, Nat.reduceLeDiff, Nat.reduceLT, Nat.zero_le, true_and, and_true, Bool.false_eq_true, if_false]
    have shs : ∀ c ∈ (["main", "q", "t0", "x", "made"] : List Str), Sh c := by
      have h : ∀ x ∈ (["main", "q", "t0", "x", "made"] : List Str), PyData.strOk x = true ∧ x.length ≤ 40 := by decide +kernel
      exact h
    refine ⟨p, a, n + 3980, rfl, sp, fun ks S1 k0 k3 kok sp1 of1 hd nh pm npm => ?_⟩
    obtain ⟨h1, h2⟩ := sp1.ne nh
    have p3 : pm ≠ hd := fun e => by rw [e, up_same] at npm; cases npm
    have npm' : S1 pm = none := by rw [up_ne p3] at npm; exact npm
    obtain ⟨p1, p2⟩ := sp1.ne npm'
    refine ⟨_, rfl, rfl, _, _, rfl, _, _, rfl, _, _, rfl, rfl, p, a, n + 3979, 3, rfl, by decide, by decide, (sp1.up h1 h2).up p1 p2, fun m S2 m0 m1 sp2 of2 => ⟨m, rfl, sl_f rfl ?_⟩⟩
    obtain ⟨m, rfl⟩ : ∃ j : Nat, m = j := ⟨m.toNat, by omega⟩
    rw [cut_take]
    obtain ⟨cs, ecs⟩ : ∃ cs : List Str, cs = (["q", "t0"] : List Str).take m := ⟨_, rfl⟩
    have e5 : ([D.str "q", D.str "t0"] : List D).take m = cs.map D.str := by rw [ecs, List.map_take]; rfl
    rw [e5]
    have sl : cs.Sublist (["q", "t0"] : List Str) := by rw [ecs]; exact List.take_sublist _ _
    have c2 : cs.length ≤ 2 := by rw [ecs, List.length_take]; simp; omega
    have csh : ∀ c ∈ ("main" : Str) :: cs, Sh c := fun c hc => by
      refine shs c ?_
      rcases List.mem_cons.mp hc with rfl | hc
      · exact List.mem_cons_self
      · have := sl.subset hc
        simp only [List.mem_cons, List.not_mem_nil, or_false] at this ⊢
        rcases this with h | h <;> simp [h]
    have hh2 : S2 hd = some (.lst [kindD ("main", [])]) := by rw [of2 hd h1 h2, up_ne p3.symm, up_same]; rfl
    have hp2 : S2 pm = some (.lst []) := by rw [of2 pm p1 p2, up_same]
    have off2 : ∀ b, b ≠ p → b ≠ a → b ≠ hd → b ≠ pm → S2 b = S1 b := fun b b1 b2 b3 b4 => by rw [of2 b b1 b2, up_ne b4, up_ne b3]
    refine ⟨_, rfl, fr_seq (fun i δ S' => ∃ (hs : List (Str × List Str)) (r4 : Option D), δ = [some (.ref p), some (.tup (ks.map kindD)), some (.ref hd), some (.ref pm), r4, none, none, none, none] ∧ S' hd = some (.lst (hs.map kindD)) ∧ S' pm = some (.lst []) ∧
        hs.map (·.1) = (("main" : Str) :: cs).take (i + 1) ∧ i ≤ 2 ∧ (∀ q ∈ hs, q.2.length ≤ 4) ∧ Spr S' p a (n + 3900 + (9 - i) * 5) ∧ ∀ b, b ≠ p → b ≠ a → b ≠ hd → b ≠ pm → S' b = S1 b)
      ⟨[("main", [])], none, rfl, hh2, hp2, rfl, by decide, fun q hq => by rw [List.mem_singleton.mp hq]; decide, sp2.mono (by omega), off2⟩ ?_ ?_⟩
    · rintro i x δ S' hx ⟨hs, r4, rfl, hhd, hpm, hnm, i2, h4, sp', off⟩
      obtain ⟨c, hc, rfl⟩ := map_at hx
      have hi := (List.getElem?_eq_some_iff.mp hc).1
      refine ⟨_, rfl, ty_l hhd, _, rfl, _, rfl, ?_⟩
      refine ⟨p, a, n + 3900 + (9 - (i + 1)) * 5 + 4, 3, rfl, by decide, by decide, sp'.mono (by omega), fun t S3 t0 t1 sp3 of3 => ⟨t, rfl, sl_t ?_⟩⟩
      obtain ⟨t, rfl⟩ : ∃ j : Nat, t = j := ⟨t.toNat, by omega⟩
      rw [cut_take]
      have hh3 : S3 hd = some (.lst (hs.map kindD)) := by rw [of3 hd h1 h2]; exact hhd
      have hl : hs.length ≤ 6 := by
        have := congrArg List.length hnm
        rw [List.length_map, List.length_take] at this
        omega
      have e6 : ([D.str "x", D.str "made"] : List D).take t = ((["x", "made"] : List Str).take t).map D.str := by rw [List.map_take]; rfl
      rw [e6]
      refine app_of hh3 (by rw [List.length_map, sizeLine_eq]; omega) ⟨hs ++ [(c, (["x", "made"] : List Str).take t)], _, rfl, by rw [up_same, List.map_append]; rfl, by rw [up_ne p3, of3 pm p1 p2]; exact hpm, ?_, by omega, fun q hq => ?_, (sp3.up h1 h2).mono (by omega), fun b b1 b2 b3 b4 => by rw [up_ne b3, of3 b b1 b2, off b b1 b2 b3 b4]⟩
      · rw [List.map_append, hnm, tk1 (i := i + 1) (by rw [List.getElem?_cons_succ]; exact hc)]; rfl
      · rcases List.mem_append.mp hq with h | h
        · exact h4 q h
        · rw [List.mem_singleton.mp h]
          show ((["x", "made"] : List Str).take t).length ≤ 4
          rw [List.length_take]
          simp
          omega
    · rintro i δ S' hi ⟨hs, r4, rfl, hhd, hpm, hnm, i2, h4, sp', off⟩
      rw [List.length_map] at hi
      rw [List.take_of_length_le (by rw [List.length_cons]; omega)] at hnm
      replace sp' := sp'.mono (show n + 3900 ≤ _ by omega)
      have hl : hs.length ≤ 6 := by
        have := congrArg List.length hnm
        rw [List.length_map, List.length_cons] at this
        omega
      refine ⟨_, rfl, hd, _, rfl, hhd, ?_⟩
      refine fr_of hs.length (fun i δ S3 => ∃ (dn : List Pc) (r4 r5 r6 r7 r8 : Option D), δ = [some (.ref p), some (.tup (ks.map kindD)), some (.ref hd), some (.ref pm), r4, r5, r6, r7, r8] ∧ S3 hd = some (.lst (hs.map kindD)) ∧ S3 pm = some (.lst (dn.map pcD)) ∧
          dn.map (·.1) = (hs.take i).map (·.1) ∧ (∀ q ∈ dn, PcOk (("main" : Str) :: cs) q) ∧ Spr S3 p a (n + (6 - i) * 600) ∧ ∀ b, b ≠ p → b ≠ a → b ≠ hd → b ≠ pm → S3 b = S1 b)
        ⟨[], _, _, _, _, _, rfl, hhd, hpm, rfl, fun q hq => (by cases hq), sp'.mono (by omega), off⟩ ?_ ?_
      · rintro i δ S3 hi3 ⟨dn, r4, r5, r6, r7, r8, rfl, hh3, hp3, hdn, okd, sp3, of3⟩
        have hqi := h4 _ (List.getElem_mem hi3)
        have hsi : hs[i]? = some hs[i] := List.getElem?_eq_getElem hi3
        generalize hs[i] = hi0 at hqi hsi
        refine ⟨kindD hi0, by unfold listI; rw [hh3]; dsimp only; rw [List.getElem?_map, hsi]; rfl, ?_⟩
        refine ⟨_, rfl, rfl, _, _, rfl, _, _, rfl, rfl, ?_⟩
        simp only [dVar, dC, dOp, dUn, dChain, dTr, dB, dAnd, dOr, dNot, dIf, dAndV, dOrV, dNotV, dNil, dCons, dTup, dLst, dLf, dNext, dSeq, dBreak, dCont, dDrop, dRet, dRetN, dIfS, gdName, gdNil, gdCons, gdTup, gdSub, dAsg, dPar, dCall, dCallK, dCB, dM0, dM, dGet1, dGet2, dDk, dDt, dPart, dNoPart, dSlice, dAug, dYes, dSort2, revD, iTupD, iLstD, iLf, iLw, iRange1, iRange2, iRange3, iEnumD, iZipD, iZipMD, iStrD, dGix, dDc, dIsi, dSortSet, dLenSet, dDlit, gdLst, dFor, dWhile, dLc, dLcM, dFld, dFldSet, dFldAdd, dMeth, dMake, dPar3, dCut, dTcut, wipeD, bodyE, startD, List.map_cons, List.map_nil, List.length_cons, List.length_nil, List.replicate_succ, List.replicate_zero, List.cons_append, List.nil_append, Nat.reduceAdd, Nat.reduceSub, Nat.zero_add, List.getElem?_cons_zero, List.getElem?_cons_succ, List.set_cons_zero, List.set_cons_succ, Option.some.injEq, exists_eq_left', exists_eq_left, if_true, sizeLine_eq, Nat.reduceLeDiff, Nat.reduceLT, Nat.zero_le, true_and, and_true, Bool.false_eq_true, if_false]
        have hi6 : i < 6 := by omega
        obtain ⟨B, hB⟩ : ∃ B : Nat, B = n + (6 - (i + 1)) * 600 := ⟨_, rfl⟩
        have sp3' : Spr S3 p a (B + 600) := sp3.mono (by omega)
        refine ⟨p, a, B + 599, 4, rfl, by decide, by decide, sp3', fun t S4 t0 t1 sp4 of4 => add_i ⟨_, rfl, sl_f rfl ?_⟩⟩
        obtain ⟨t, rfl⟩ : ∃ j : Nat, t = j := ⟨t.toNat, by omega⟩
        rw [show (2 : Int) + (t : Nat) = ((2 + t : Nat) : Int) by omega, cut_take]
        obtain ⟨nm, enm⟩ : ∃ nm : List Str, nm = (["x", "made", "y", "none", "t0"] : List Str).take (2 + t) := ⟨_, rfl⟩
        have e7 : ([D.str "x", D.str "made", D.str "y", D.str "none", D.str "t0"] : List D).take (2 + t) = nm.map D.str := by rw [enm, List.map_take]; rfl
        have nl : 0 < nm.length ∧ nm.length ≤ 30 := by rw [enm, List.length_take]; simp; omega
        rw [e7]
        refine ⟨p, a, B + 598, 9, rfl, by decide, by decide, sp4, fun u S5 u0 u1 sp5 of5 => add_i ?_⟩
        obtain ⟨u, rfl⟩ : ∃ j : Nat, u = j := ⟨u.toNat, by omega⟩
        rw [show (1 : Int) + (u : Nat) = ((1 + u : Nat) : Int) by omega]
        obtain ⟨m, hm⟩ : ∃ m : Nat, m = 1 + u := ⟨_, rfl⟩
        rw [← hm]
        have off5 : Off p a S3 S5 := of4.trans of5
        have hp5 : S5 pm = some (.lst (dn.map pcD)) := by rw [off5 pm p1 p2]; exact hp3
        refine ⟨_, rfl, rfl, _, _, rfl, _, _, rfl, rfl, ty_l hp5, (m : Nat), rfl, by omega, by omega, ?_⟩
        have em : ((m : Nat) : Int).toNat = m := by omega
        rw [em]
        have dl : dn.length = i := by
          have := congrArg List.length hdn
          rw [List.length_map, List.length_map, List.length_take] at this
          omega
        refine lc_rng (fun j acc S7 => ∃ rs : List Rw, acc = rs.map Rw.d ∧ rs.length = j ∧ j ≤ m ∧ (∀ r ∈ rs, r.Ok m (("main" : Str) :: cs)) ∧ Spr S7 p a (B + (20 - j) * 20) ∧ Off p a S3 S7)
          ⟨[], rfl, rfl, Nat.zero_le _, fun r hr => (by cases hr), sp5.mono (by omega), off5⟩ ?_ ?_
        · rintro j acc S7 hj ⟨rs, rfl, rl, jm, hr, sp7, of7⟩
          have hh7 : S7 hd = some (.lst (hs.map kindD)) := by rw [of7 hd h1 h2]; exact hh3
          refine ⟨by rw [List.length_map, sizeLine_eq]; omega, p, a, B + (20 - (j + 1)) * 20, ks, hd, hs, nm, m, rfl, k0, k3, kok, nl.1, nl.2, by omega, hh7, by omega, hl, h4, h1, h2, sp7.mono (by omega), fun r S8 okr sp8 of8 => ?_⟩
          rw [hnm] at okr
          refine ⟨rs ++ [r], by rw [List.map_append]; rfl, by rw [List.length_append, rl]; rfl, by omega, fun r' hr' => ?_, sp8, of7.trans of8⟩
          rcases List.mem_append.mp hr' with h | h
          · exact hr r' h
          · rw [List.mem_singleton.mp h]; exact okr
        · rintro j acc S7 hj ⟨rs, rfl, rl, jm, hr, sp7, of7⟩
          have rm : rs.length = m := by omega
          have hp7 : S7 pm = some (.lst (dn.map pcD)) := by rw [of7 pm p1 p2]; exact hp3
          refine tpl_l rfl (app_of hp7 (by rw [List.length_map, sizeLine_eq]; omega) ?_)
          refine ⟨dn ++ [(hi0.1, hi0.2, rs)], _, _, _, _, _, rfl, by rw [up_ne p3.symm, of7 hd h1 h2]; exact hh3, by rw [up_same, List.map_append]; rfl, ?_, fun q hq' => ?_, (sp7.up p1 p2).mono (by omega), fun b b1 b2 b3 b4 => by rw [up_ne b4, of7 b b1 b2, of3 b b1 b2 b3 b4]⟩
          · rw [List.map_append, hdn, tk1 hsi, List.map_append]; rfl
          · rcases List.mem_append.mp hq' with h | h
            · exact okd q h
            · rw [List.mem_singleton.mp h]
              refine ⟨hqi, by show rs.length ≤ 20; omega, fun r hr' => ?_⟩
              show r.Ok rs.length _
              rw [rm]; exact hr r hr'
      · rintro i δ S3 hi3 ⟨dn, r4, r5, r6, r7, r8, rfl, hh3, hp3, hdn, okd, sp3, of3⟩
        refine ⟨by unfold listI; rw [hh3]; dsimp only; rw [List.getElem?_eq_none (by rw [List.length_map]; exact hi3)], ?_⟩
        simp only [dVar, dC, dOp, dUn, dChain, dTr, dB, dAnd, dOr, dNot, dIf, dAndV, dOrV, dNotV, dNil, dCons, dTup, dLst, dLf, dNext, dSeq, dBreak, dCont, dDrop, dRet, dRetN, dIfS, gdName, gdNil, gdCons, gdTup, gdSub, dAsg, dPar, dCall, dCallK, dCB, dM0, dM, dGet1, dGet2, dDk, dDt, dPart, dNoPart, dSlice, dAug, dYes, dSort2, revD, iTupD, iLstD, iLf, iLw, iRange1, iRange2, iRange3, iEnumD, iZipD, iZipMD, iStrD, dGix, dDc, dIsi, dSortSet, dLenSet, dDlit, gdLst, dFor, dWhile, dLc, dLcM, dFld, dFldSet, dFldAdd, dMeth, dMake, dPar3, dCut, dTcut, wipeD, bodyE, startD, List.map_cons, List.map_nil, List.length_cons, List.length_nil, List.replicate_succ, List.replicate_zero, List.cons_append, List.nil_append, Nat.reduceAdd, Nat.reduceSub, Nat.zero_add, List.getElem?_cons_zero, List.getElem?_cons_succ, List.set_cons_zero, List.set_cons_succ, Option.some.injEq, exists_eq_left', exists_eq_left, if_true, sizeLine_eq, Nat.reduceLeDiff, Nat.reduceLT, Nat.zero_le, true_and, and_true, Bool.false_eq_true, if_false]
        rw [List.take_of_length_le hi3, hnm] at hdn
        have dl : dn.length ≤ 6 := by
          have := congrArg List.length hdn
          rw [List.length_map, List.length_cons] at this
          omega
        have okp : PrOk dn := ⟨dl, by rw [hdn]; exact List.mem_cons_self, by rw [hdn]; exact csh, by rw [hdn]; exact okd⟩
        refine tpl_l (ls_l hp3) (rt_sub (S1 := del (del S3 pm) hd) (sub_del.trans sub_del) (q ks dn _ k0 k3 kok okp ((((sp3.mono (show n ≤ _ by omega)).del p1 p2)).del h1 h2) fun b b1 b2 => ?_))
        by_cases b3 : b = hd
        · rw [b3, del_same, ← nh, of1 hd h1 h2]
        · rw [del_ne b3]
          by_cases b4 : b = pm
          · rw [b4, del_same, ← npm', of1 pm p1 p2]
          · rw [del_ne b4, of3 b b1 b2 b3 b4, of1 b b1 b2]
abbrev inDk : MO := .dk ((mergeK [] [(Sum.inr "copy", V.int 2), (Sum.inr "plus", V.int 3), (Sum.inr "minus", V.int 3), (Sum.inr "times", V.int 3), (Sum.inr "read", V.int 2), (Sum.inr "less", V.int 2), (Sum.inr "same", V.int 2)]).map fun q => (q.fst, D.at q.snd))
theorem in_rest (r : Rw) {S : Sto} {Q : KD} {o : Option D} {m : Int} (ho : ∀ (S' : Sto) p, S' p = some inDk → atD S' (.str r.h) (.ref p) = some o) (hm : o.getD (.int 1) = .int m) (hc : cutD (.str r.h :: r.ps) (some 1) (some (1 + m)) = r.vs.map D.str) (q : Q (.fl (r.vs.map D.str)) S) :
    ∀ p : Addr, S p = none → tyD (up S p inDk) (.ref p) "dict" ∧ ixD r.d (.int 0) (up S p inDk) fun y S2 => ∃ o, atD S2 y (.ref p) = some o ∧ ∃ i, D.int 1 = .int i ∧ addD false (.int 1) (o.getD (.int 1)) S2 fun x S1 => ∃ i1, x = .int i1 ∧ sliceD false r.d (some i) (some i1) S1 fun x S1 => lstD false [x] S1 fun d S' => ∃ d1 S1, VW d S' d1 S1 ∧ Q d1 S1 := by
  refine fun p np => ⟨ty_dk up_same, ix_sq rfl rfl at_0 ⟨o, ho _ _ up_same, 1, rfl, ?_⟩⟩
  rw [hm]
  refine add_i ⟨_, rfl, sl_t ?_⟩
  rw [hc]
  exact ⟨_, _, rfl, rfl, brF rfl (rt_up np q)⟩
theorem vs_len {n : Nat} {fs : List Str} {r : Rw} (ok : r.Ok n fs) : r.vs.length ≤ 5 := by
  cases r with
  | make x k ys => have : ys.length ≤ 4 := ok; simp [Rw.vs]; omega
  | call x k ys => have : ys.length ≤ 4 := ok.2; cases x <;> simp [Rw.vs] <;> omega
  | inp x => cases x <;> simp [Rw.vs]
  | _ => simp [Rw.vs]
theorem nd_len : ∀ (l d : List Str), l.Nodup → (∀ x ∈ l, x ∈ d) → l.length ≤ d.length
  | [], _, _, _ => Nat.zero_le _
  | x :: l, d, hn, hs => by
    obtain ⟨h1, h2⟩ := List.nodup_cons.mp hn
    have hx := hs x List.mem_cons_self
    have ih := nd_len l (d.erase x) h2 fun y hy => (List.mem_erase_of_ne (fun e : y = x => h1 (by rw [← e]; exact hy))).mpr (hs y (List.mem_cons_of_mem _ hy))
    rw [List.length_erase_of_mem hx] at ih
    have : 0 < d.length := List.length_pos_of_mem hx
    rw [List.length_cons]
    omega
def sp__law_in_row : SpD := fun ds S Q _ => ∃ (r : Rw) (n : Nat) (fs : List Str), ds = [r.d] ∧ r.Ok n fs ∧ Q (.fl (r.vs.map D.str)) S
theorem ok__law_in_row {P : Program} {w : World} {K : PySem.W.Frag} {mg : Str → Option Value} {base : Heap} (T : Txt K mg)  {ff : Addr} {fd : FuncData} (F : Fun K "_law_in_row" "_law_in_row" s__law_in_row ff fd) (mf : mg "_law_in_row" = some (.ref ff)) : Cal P w K mg base 1 "_law_in_row" s__law_in_row ["row"] sp__law_in_row := by
  refine ⟨ff, fd, okD F sc__law_in_row (fun ds S Q E h => ?len) (fun cdv A outer s H E ds S Q E' hcd hr h => ⟨_, (dss_cons (ds_if (dt_cmp (od_in hr) (de_ix (xd_ix hr) (de_var 0) de_int) (de_tup (da_cons de_str (da_cons de_str da_nil)))) (dss_one (ds_ret (de_op (od_add false) (de_op od_mulL (de_lst (da_cons (de_ix (xd_ix hr) (de_var 0) de_int) da_nil)) (de_callTy cd_int1 (by rfl) T.nb_int (da_cons (de_cmp od_isnot (de_ix (xd_ix hr) (de_var 0) de_int) de_non) da_nil))) (de_callTy (cd_list false) (by rfl) T.nb_list (da_cons (de_ix (xd_ix hr) (de_var 0) de_int) da_nil))))) dss_nil)
      (dss_cons (ds_if (dw_or (dt_cmp (od_eq hr) (de_ix (xd_ix hr) (de_var 0) de_int) de_str) (dw_or1 (dw_and (dt_cmp (od_eq hr) (de_ix (xd_ix hr) (de_var 0) de_int) de_str) (dw_and1 (dt_cmp od_is (de_ix (xd_ix hr) (de_var 0) de_int) de_non))).pt)).pt (dss_one (ds_ret (de_lf da_nil))) dss_nil)
      (dss_cons (ds_set 1 sc__law_in_row.nd (de_get2 hr (de_dlit [(.inr "copy", .int 2), (.inr "plus", .int 3), (.inr "minus", .int 3), (.inr "times", .int 3), (.inr "read", .int 2), (.inr "less", .int 2), (.inr "same", .int 2)] (pps_cons pe_str pe_int (pps_cons pe_str pe_int (pps_cons pe_str pe_int (pps_cons pe_str pe_int (pps_cons pe_str pe_int (pps_cons pe_str pe_int (pps_cons pe_str pe_int pps_nil)))))))) (de_ix (xd_ix hr) (de_var 0) de_int) de_int ⟨rfl, rfl, rfl, rfl⟩))
      (dss_one (ds_ret (de_callTy (cd_list false) (by rfl) T.nb_list (da_cons (de_slice (xd_slice false) (de_var 0) (do_some de_int) (do_some (de_op (od_add false) de_int (de_var 1)))) da_nil))))))), ?run⟩), F.binds (ps := ["row"]) fun _ _ _ _ _ _ us hl => match us, hl with | [_], _ => rfl, mf, F⟩
  case len => obtain ⟨r, n, fs, rfl, _⟩ := h; rfl
  case run =>
    obtain ⟨r, n, fs, rfl, ok, q⟩ := h
    simp only [dVar, dC, dOp, dUn, dChain, dTr, dB, dAnd, dOr, dNot, dIf, dAndV, dOrV, dNotV, dNil, dCons, dTup, dLst, dLf, dNext, dSeq, dBreak, dCont, dDrop, dRet, dRetN, dIfS, gdName, gdNil, gdCons, gdTup, gdSub, dAsg, dPar, dCall, dCallK, dCB, dM0, dM, dGet1, dGet2, dDk, dDt, dPart, dNoPart, dSlice, dAug, dYes, dSort2, revD, iTupD, iLstD, iLf, iLw, iRange1, iRange2, iRange3, iEnumD, iZipD, iZipMD, iStrD, dGix, dDc, dIsi, dSortSet, dLenSet, dDlit, gdLst, dFor, dWhile, dLc, dLcM, dFld, dFldSet, dFldAdd, dMeth, dMake, dPar3, dCut, dTcut, wipeD, bodyE, startD, List.map_cons, List.map_nil, List.length_cons, List.length_nil, List.replicate_succ, List.replicate_zero, List.cons_append, List.nil_append, Nat.reduceAdd, Nat.reduceSub, Nat.zero_add, List.getElem?_cons_zero, List.getElem?_cons_succ, List.set_cons_zero, List.set_cons_succ, Option.some.injEq, exists_eq_left', exists_eq_left, if_true, sizeLine_eq, Nat.reduceLeDiff, Nat.reduceLT, Nat.zero_le, true_and, and_true, Bool.false_eq_true, if_false]
    have sh := rw_sh ok
    have sm2 : ∀ d ∈ (["make", "call"] : List Str).map D.str, Sm 1 40 d := fun d hd => by
      obtain ⟨x, hx, rfl⟩ := List.mem_map.mp hd
      exact Sm.str (by revert x; decide +kernel) (by revert x; decide +kernel)
    have in1 : ∀ {S' : Sto} {Q' : KD}, Q' (.bl (decide (r.h ∈ (["make", "call"] : List Str)))) S' → inD false (.str r.h) (.tup [.str "make", .str "call"]) S' Q' := fun {S' Q'} qq =>
      in_of (k := 1) (w := 40) (Sm.str sh.1 sh.2) (ys := (["make", "call"] : List Str).map D.str) rfl sm2 (by decide) (by decide) (fun _ e => nomatch e) (by rw [any_str, Bool.false_xor]; exact qq)
    refine ix_sq rfl rfl at_0 (in1 ⟨_, rfl, ?_⟩)
    -- the rows with a row of names
    have many : ∀ (u : Option Str) (k : Str) (ys : List Str), r.ps = [oD u, .str k, ysD ys] → ys.length ≤ 4 → r.vs = u.toList ++ ys → ixD r.d (D.int 1) S fun x S1 => ∀ (p : Addr), S1 p = none → ixD r.d (D.int 1) (up S1 p (MO.lst [x])) fun x S1 =>
        isnD true x D.non S1 fun x S1 => intB [x] S1 fun y S2 => mulL (D.ref p) y S2 fun x S1 => ixD r.d (D.int 3) S1 fun x_1 S1 => lstD false [x_1] S1 fun y S2 => addD false x y S2 fun d S' => ∃ d1 S1, VW d S' d1 S1 ∧ Q d1 S1 := by
      intro u k ys hp hy hv
      have a1 : atI (D.str r.h :: r.ps) (1 : Int) = some (oD u) := at_n (i := 1) (by rw [hp]; rfl)
      have a3 : atI (D.str r.h :: r.ps) (3 : Int) = some (ysD ys) := at_n (i := 3) (by rw [hp]; rfl)
      refine ix_sq rfl rfl a1 fun p np => ix_sq rfl rfl a1 ⟨rfl, .inl ⟨u.isSome, ?_, ?_⟩⟩
      · cases u <;> simp [oD, D.non, D.str, D.bl]
      · have e : (List.replicate ((if u.isSome = true then (1 : Int) else 0)).toNat [oD u]).flatten = u.toList.map D.str := by cases u <;> rfl
        refine ⟨p, _, [oD u], rfl, rfl, up_same, by cases u.isSome <;> decide, by cases u.isSome <;> decide, by rw [List.length_singleton]; cases u.isSome <;> decide, ?_⟩
        rw [e]
        refine ix_sq rfl rfl a3 ⟨_, ys.map D.str, rfl, rfl, brF rfl (add_f rfl rfl ?_ (rt_up np ?_))⟩
        · rw [List.length_map, List.length_map]; cases u <;> simp [sizeLine_eq] <;> omega
        · rw [← List.map_append, ← hv]; exact q
    have s1 : (1000 : Nat) ≤ sizeLine := by decide
    cases r with
    | make x k ys => exact brT (decide_eq_true (by show ("make" : Str) ∈ _; decide +kernel)) (many (some x) k ys rfl ok rfl)
    | call x k ys => exact brT (decide_eq_true (by show ("call" : Str) ∈ _; decide +kernel)) (many x k ys rfl ok.2 rfl)
    | jump t => exact brF (decide_eq_false (by show ("jump" : Str) ∉ _; decide +kernel)) (ix_sq rfl rfl at_0 ⟨_, rfl, brT (xt rfl) (rt_of q)⟩)
    | inp u =>
      refine brF (decide_eq_false (by show ("input" : Str) ∉ _; decide +kernel)) (ix_sq rfl rfl at_0 ⟨_, rfl, brF (xf (ofS (by decide))) (ix_sq rfl rfl at_0 ⟨_, rfl, brT (xt rfl) ?_⟩)⟩)
      cases u with
      | none => exact ix_sq rfl rfl (at_n (i := 1) rfl) ⟨rfl, _, rfl, brT (xt rfl) (rt_of q)⟩
      | some x => exact ix_sq rfl rfl (at_n (i := 1) rfl) ⟨rfl, _, rfl, brF (xf (by simp [oD, D.non, D.str])) (in_rest _ (o := none) (m := 1) (fun S' p e => by unfold atD; dsimp only; rw [e]; rfl) rfl rfl q)⟩
    | copy x y => exact brF (decide_eq_false (by show ("copy" : Str) ∉ _; decide +kernel)) (ix_sq rfl rfl at_0 ⟨_, rfl, brF (xf (ofS (by decide))) (ix_sq rfl rfl at_0 ⟨_, rfl, brF (xf (ofS (by decide))) (in_rest _ (o := some (.int 2)) (m := 2) (fun S' p e => by unfold atD; dsimp only; rw [e]; rfl) rfl rfl q)⟩)⟩)
    | none x => exact brF (decide_eq_false (by show ("none" : Str) ∉ _; decide +kernel)) (ix_sq rfl rfl at_0 ⟨_, rfl, brF (xf (ofS (by decide))) (ix_sq rfl rfl at_0 ⟨_, rfl, brF (xf (ofS (by decide))) (in_rest _ (o := none) (m := 1) (fun S' p e => by unfold atD; dsimp only; rw [e]; rfl) rfl rfl q)⟩)⟩)
    | num x n => exact brF (decide_eq_false (by show ("number" : Str) ∉ _; decide +kernel)) (ix_sq rfl rfl at_0 ⟨_, rfl, brF (xf (ofS (by decide))) (ix_sq rfl rfl at_0 ⟨_, rfl, brF (xf (ofS (by decide))) (in_rest _ (o := none) (m := 1) (fun S' p e => by unfold atD; dsimp only; rw [e]; rfl) rfl rfl q)⟩)⟩)
    | read x y f => exact brF (decide_eq_false (by show ("read" : Str) ∉ _; decide +kernel)) (ix_sq rfl rfl at_0 ⟨_, rfl, brF (xf (ofS (by decide))) (ix_sq rfl rfl at_0 ⟨_, rfl, brF (xf (ofS (by decide))) (in_rest _ (o := some (.int 2)) (m := 2) (fun S' p e => by unfold atD; dsimp only; rw [e]; rfl) rfl rfl q)⟩)⟩)
    | tell y => exact brF (decide_eq_false (by show ("tell" : Str) ∉ _; decide +kernel)) (ix_sq rfl rfl at_0 ⟨_, rfl, brF (xf (ofS (by decide))) (ix_sq rfl rfl at_0 ⟨_, rfl, brF (xf (ofS (by decide))) (in_rest _ (o := none) (m := 1) (fun S' p e => by unfold atD; dsimp only; rw [e]; rfl) rfl rfl q)⟩)⟩)
    | ret y => exact brF (decide_eq_false (by show ("return" : Str) ∉ _; decide +kernel)) (ix_sq rfl rfl at_0 ⟨_, rfl, brF (xf (ofS (by decide))) (ix_sq rfl rfl at_0 ⟨_, rfl, brF (xf (ofS (by decide))) (in_rest _ (o := none) (m := 1) (fun S' p e => by unfold atD; dsimp only; rw [e]; rfl) rfl rfl q)⟩)⟩)
    | isk y k t => exact brF (decide_eq_false (by show ("is" : Str) ∉ _; decide +kernel)) (ix_sq rfl rfl at_0 ⟨_, rfl, brF (xf (ofS (by decide))) (ix_sq rfl rfl at_0 ⟨_, rfl, brF (xf (ofS (by decide))) (in_rest _ (o := none) (m := 1) (fun S' p e => by unfold atD; dsimp only; rw [e]; rfl) rfl rfl q)⟩)⟩)
    | sum w x y z =>
      have h' : w ∈ sums := ok
      simp only [sums, List.mem_cons, List.not_mem_nil, or_false] at h'
      rcases h' with rfl | rfl | rfl
      · exact brF (decide_eq_false (by show ("plus" : Str) ∉ _; decide +kernel)) (ix_sq rfl rfl at_0 ⟨_, rfl, brF (xf (ofS (by decide))) (ix_sq rfl rfl at_0 ⟨_, rfl, brF (xf (ofS (by decide))) (in_rest _ (o := some (.int 3)) (m := 3) (fun S' p e => by unfold atD; dsimp only; rw [e]; rfl) rfl rfl q)⟩)⟩)
      · exact brF (decide_eq_false (by show ("minus" : Str) ∉ _; decide +kernel)) (ix_sq rfl rfl at_0 ⟨_, rfl, brF (xf (ofS (by decide))) (ix_sq rfl rfl at_0 ⟨_, rfl, brF (xf (ofS (by decide))) (in_rest _ (o := some (.int 3)) (m := 3) (fun S' p e => by unfold atD; dsimp only; rw [e]; rfl) rfl rfl q)⟩)⟩)
      · exact brF (decide_eq_false (by show ("times" : Str) ∉ _; decide +kernel)) (ix_sq rfl rfl at_0 ⟨_, rfl, brF (xf (ofS (by decide))) (ix_sq rfl rfl at_0 ⟨_, rfl, brF (xf (ofS (by decide))) (in_rest _ (o := some (.int 3)) (m := 3) (fun S' p e => by unfold atD; dsimp only; rw [e]; rfl) rfl rfl q)⟩)⟩)
    | test w y z t =>
      obtain ⟨h', _⟩ := ok
      rcases h' with rfl | rfl
      · exact brF (decide_eq_false (by show ("less" : Str) ∉ _; decide +kernel)) (ix_sq rfl rfl at_0 ⟨_, rfl, brF (xf (ofS (by decide))) (ix_sq rfl rfl at_0 ⟨_, rfl, brF (xf (ofS (by decide))) (in_rest _ (o := some (.int 2)) (m := 2) (fun S' p e => by unfold atD; dsimp only; rw [e]; rfl) rfl rfl q)⟩)⟩)
      · exact brF (decide_eq_false (by show ("same" : Str) ∉ _; decide +kernel)) (ix_sq rfl rfl at_0 ⟨_, rfl, brF (xf (ofS (by decide))) (ix_sq rfl rfl at_0 ⟨_, rfl, brF (xf (ofS (by decide))) (in_rest _ (o := some (.int 2)) (m := 2) (fun S' p e => by unfold atD; dsimp only; rw [e]; rfl) rfl rfl q)⟩)⟩)
def sp__law_variables : SpD := fun ds S Q _ => ∃ (ks : D) (ps : List Pc) (x : Str), ds = [prD ks ps, .str x] ∧ PrOk ps ∧ x ∈ ps.map (·.1) ∧ ∀ ys : List Str, ys.length ≤ 300 → Q (.fl (ys.map D.str)) S
theorem ok__law_variables {P : Program} {w : World} {K : PySem.W.Frag} {mg : Str → Option Value} {base : Heap} (T : Txt K mg) (C__law_named : Cal P w K mg base 1 "_law_named" s__law_named ["code", "name"] sp__law_named) (C__law_in_row : Cal P w K mg base 1 "_law_in_row" s__law_in_row ["row"] sp__law_in_row) {ff : Addr} {fd : FuncData} (F : Fun K "_law_variables" "_law_variables" s__law_variables ff fd) (mf : mg "_law_variables" = some (.ref ff)) : Cal P w K mg base 2 "_law_variables" s__law_variables ["code", "name"] sp__law_variables := by
  refine ⟨ff, fd, okD F sc__law_variables (fun ds S Q E h => ?len) (fun cdv A outer s H E ds S Q E' hcd hr h => ⟨_, (dss_cons (ds_set 2 sc__law_variables.nd (de_c C__law_named hr (da_cons (de_var 0) (da_cons (de_var 1) da_nil))))
      (dss_cons (ds_set 3 sc__law_variables.nd (de_callTy (cd_list false) (by rfl) T.nb_list (da_cons (de_ix (xd_ix hr) (de_var 2) de_int) da_nil)))
      (dss_cons (ds_for PassesOwn.never rfl (di_tup (de_ix (xd_ix hr) (de_var 2) de_int)) (dg_name 4 sc__law_variables.nd) (dss_one (ds_set 3 sc__law_variables.nd (de_op (od_add false) (de_var 3) (de_c C__law_in_row hr (da_cons (de_var 4) da_nil))))))
      (dss_one (ds_ret (de_sortSet rfl (by rfl) T.nb_sorted (by rfl) T.nb_set (de_var 3))))))), ?run⟩), F.binds (ps := ["code", "name"]) fun _ _ _ _ _ _ us hl => match us, hl with | [_, _], _ => rfl, mf, F⟩
  case len => obtain ⟨ks, ps, x, rfl, _⟩ := h; rfl
  case run =>
    obtain ⟨ks, ps, x, rfl, okp, hx, q⟩ := h
    simp only [dVar, dC, dOp, dUn, dChain, dTr, dB, dAnd, dOr, dNot, dIf, dAndV, dOrV, dNotV, dNil, dCons, dTup, dLst, dLf, dNext, dSeq, dBreak, dCont, dDrop, dRet, dRetN, dIfS, gdName, gdNil, gdCons, gdTup, gdSub, dAsg, dPar, dCall, dCallK, dCB, dM0, dM, dGet1, dGet2, dDk, dDt, dPart, dNoPart, dSlice, dAug, dYes, dSort2, revD, iTupD, iLstD, iLf, iLw, iRange1, iRange2, iRange3, iEnumD, iZipD, iZipMD, iStrD, dGix, dDc, dIsi, dSortSet, dLenSet, dDlit, gdLst, dFor, dWhile, dLc, dLcM, dFld, dFldSet, dFldAdd, dMeth, dMake, dPar3, dCut, dTcut, wipeD, bodyE, startD, List.map_cons, List.map_nil, List.length_cons, List.length_nil, List.replicate_succ, List.replicate_zero, List.cons_append, List.nil_append, Nat.reduceAdd, Nat.reduceSub, Nat.zero_add, List.getElem?_cons_zero, List.getElem?_cons_succ, List.set_cons_zero, List.set_cons_succ, Option.some.injEq, exists_eq_left', exists_eq_left, if_true, sizeLine_eq, Nat.reduceLeDiff, Nat.reduceLT, Nat.zero_le, true_and, and_true, Bool.false_eq_true, if_false]
    obtain ⟨p, g1, g2, g3⟩ := rowsOf_ok okp hx
    have l6 := okp.l
    have l4 := g3.pl
    have l20 := g3.rl
    refine ⟨ks, ps, x, p, rfl, by omega, g1, ix_sq rfl rfl (at_n (i := 1) rfl) ⟨_, _, rfl, rfl, brF rfl (ix_sq rfl rfl (at_n (i := 2) rfl) ⟨_, .inl rfl, ?_⟩)⟩⟩
    refine fr_seq (ds := p.2.2.map Rw.d) (fun i δ S' => S' = S ∧ ∃ (zs : List Str) (r4 : Option D), δ = [some (prD ks ps), some (.str x), some (pcD p), some (.fl (zs.map D.str)), r4] ∧ zs.length ≤ 4 + 5 * i ∧ i ≤ 20) ⟨rfl, p.2.1, _, rfl, by omega, by omega⟩ ?_ ?_
    · rintro i y δ S' hy ⟨rfl, zs, r4, rfl, hl, hi20⟩
      obtain ⟨r, hr, rfl⟩ := map_at hy
      have hi := (List.getElem?_eq_some_iff.mp hr).1
      have okr := g3.ok r (List.mem_of_getElem? hr)
      have vl := vs_len okr
      refine ⟨_, rfl, _, rfl, r, _, _, rfl, okr, add_f rfl rfl (by rw [List.length_map, List.length_map, sizeLine_eq]; omega) ⟨rfl, zs ++ r.vs, some r.d, by rw [List.map_append]; rfl, by rw [List.length_append]; omega, by omega⟩⟩
    · rintro i δ S' hi ⟨rfl, zs, r4, rfl, hl, hi20⟩
      rw [List.length_map] at hi
      refine ⟨_, rfl, _, rfl, by rw [List.length_map]; exact Nat.lt_of_le_of_lt (show _ ≤ 200 by omega) (by decide), .inl ⟨zs, rfl, fun ys hs => rt_of (q ys ?_)⟩⟩
      have := nd_len ys zs hs.2.1 fun z hz => (hs.2.2 z).mp hz
      omega
/-- cells of a state, as the law holds them -/
def CellD (d : D) : Prop := Cm 8 d ∧ ∃ (k : Int) (r : List D), d = .tup (.int k :: r)
/-- a list that stands, or one of the store that no draw touches -/
def Cs (S : Sto) (p a : Addr) (c : D) (cs : List D) : Prop := c = .fl cs ∨ ∃ b, c = .ref b ∧ S b = some (.lst cs) ∧ b ≠ p ∧ b ≠ a
def sp__law_value : SpD := fun ds S Q _ => ∃ (p a : Addr) (n : Nat) (c : D) (cs : List D), ds = [.ref p, c] ∧ Cs S p a c cs ∧ (∀ d ∈ cs, CellD d) ∧ cs.length ≤ 10 ∧ Spr S p a (n + 2) ∧ ∀ x S', Cm 2 x → Spr S' p a n → Off p a S S' → Q x S'
theorem ok__law_value {P : Program} {w : World} {K : PySem.W.Frag} {mg : Str → Option Value} {base : Heap} (T : Txt K mg) (C__law_pick : Cal P w K mg base 2 "_law_pick" s__law_pick ["deck", "some"] sp__law_pick) (C__law_draw : Cal P w K mg base 1 "_law_draw" s__law_draw ["deck", "count"] sp__law_draw) {ff : Addr} {fd : FuncData} (F : Fun K "_law_value" "_law_value" s__law_value ff fd) (mf : mg "_law_value" = some (.ref ff)) : Cal P w K mg base 3 "_law_value" s__law_value ["deck", "cells"] sp__law_value := by
  refine ⟨ff, fd, okD F sc__law_value (fun ds S Q E h => ?len) (fun cdv A outer s H E ds S Q E' hcd hr h => ⟨_, (dss_cons (ds_if (dw_and (dt_cmp (od_ne hr) (de_var 1) (de_lf da_nil)) (dw_and1 (dt_cmp od_gt (de_c C__law_draw hr (da_cons (de_var 0) (da_cons de_int da_nil))) de_int))).pt (dss_one (ds_ret (de_tup (da_cons de_str (da_cons (de_ix (xd_ix hr) (de_c C__law_pick hr (da_cons (de_var 0) (da_cons (de_var 1) da_nil))) de_int) da_nil))))) dss_nil)
      (dss_one (ds_ret (de_c C__law_pick hr (da_cons (de_var 0) (da_cons (de_lf (da_cons de_non (da_cons de_int (da_cons de_int (da_cons de_int da_nil))))) da_nil)))))), ?run⟩), F.binds (ps := ["deck", "cells"]) fun _ _ _ _ _ _ us hl => match us, hl with | [_, _], _ => rfl, mf, F⟩
  case len => obtain ⟨p, a, n, c, cs, rfl, _⟩ := h; rfl
  case run =>
    obtain ⟨p, a, n, c, cs, rfl, hc, hcs, l10, sp, q⟩ := h
    simp only [dVar, dC, dOp, dUn, dChain, dTr, dB, dAnd, dOr, dNot, dIf, dAndV, dOrV, dNotV, dNil, dCons, dTup, dLst, dLf, dNext, dSeq, dBreak, dCont, dDrop, dRet, dRetN, dIfS, gdName, gdNil, gdCons, gdTup, gdSub, dAsg, dPar, dCall, dCallK, dCB, dM0, dM, dGet1, dGet2, dDk, dDt, dPart, dNoPart, dSlice, dAug, dYes, dSort2, revD, iTupD, iLstD, iLf, iLw, iRange1, iRange2, iRange3, iEnumD, iZipD, iZipMD, iStrD, dGix, dDc, dIsi, dSortSet, dLenSet, dDlit, gdLst, dFor, dWhile, dLc, dLcM, dFld, dFldSet, dFldAdd, dMeth, dMake, dPar3, dCut, dTcut, wipeD, bodyE, startD, List.map_cons, List.map_nil, List.length_cons, List.length_nil, List.replicate_succ, List.replicate_zero, List.cons_append, List.nil_append, Nat.reduceAdd, Nat.reduceSub, Nat.zero_add, List.getElem?_cons_zero, List.getElem?_cons_succ, List.set_cons_zero, List.set_cons_succ, Option.some.injEq, exists_eq_left', exists_eq_left, if_true, sizeLine_eq, Nat.reduceLeDiff, Nat.reduceLT, Nat.zero_le, true_and, and_true, Bool.false_eq_true, if_false]
    have PK : ∀ {S' : Sto}, Spr S' p a (n + 1) → Off p a S S' → sp__law_pick [.ref p, .fl [D.non, .int 0, .int 5, .int 1000002]] S' (fun d S' => ∃ d1 S1, VW d S' d1 S1 ∧ Q d1 S1) X0 := fun {S'} sp' off =>
      ⟨p, a, n, _, _, rfl, .inl (.fl _), by simp, by simp, sp', fun x S2 hx sp2 of2 => rt_of (q x S2 (by
        simp only [List.mem_cons, List.not_mem_nil, or_false] at hx
        rcases hx with rfl | rfl | rfl | rfl
        · exact Cm.non
        · exact Cm.int
        · exact Cm.int
        · exact Cm.int) sp2 (off.trans of2))⟩
    have go : ∃ c_1, D.bl (xor true cs.isEmpty) = .bl c_1 ∧ if c_1 = true then sp__law_draw [.ref p, .int 3] S (fun x S1 => intD (fun _ _ => True) (fun i j => .bl (decide (j < i))) x (.int 0) S1 fun x S1 => ∃ c_2, x = .bl c_2 ∧ if c_2 = true then sp__law_pick [.ref p, c] S1 (fun x S1 => ixD x (.int 0) S1 fun x S1 => ∃ d1 S2, VW (.tup [.str "cell", x]) S1 d1 S2 ∧ Q d1 S2) X0 else sp__law_pick [.ref p, .fl [D.non, .int 0, .int 5, .int 1000002]] S1 (fun d S' => ∃ d1 S1, VW d S' d1 S1 ∧ Q d1 S1) X0) X0
        else sp__law_pick [.ref p, .fl [D.non, .int 0, .int 5, .int 1000002]] S (fun d S' => ∃ d1 S1, VW d S' d1 S1 ∧ Q d1 S1) X0 := by
      refine ⟨_, rfl, ?_⟩
      by_cases ne : cs = []
      · subst ne
        exact brF rfl (PK (sp.mono (by omega)) .refl)
      · have l0 : 0 < cs.length := List.length_pos_iff.mpr ne
        refine brT (by cases cs <;> simp_all) ⟨p, a, n + 1, 3, rfl, by decide, by decide, sp, fun t S1 t0 t1 sp1 of1 => it_of trivial ⟨_, rfl, br2 (fun _ => ?_) fun _ => PK sp1 of1⟩⟩
        refine ⟨p, a, n, c, cs, rfl, ?_, l0, by omega, sp1, fun x S2 hx sp2 of2 => ?_⟩
        · rcases hc with rfl | ⟨b, rfl, hb, b1, b2⟩
          · exact .inl (.fl _)
          · exact .inr ⟨b, rfl, by rw [of1 b b1 b2]; exact hb, b1, b2⟩
        · obtain ⟨_, k, r, rfl⟩ := hcs x hx
          exact ix_sq rfl rfl at_0 (rt_of (q _ S2 (Cm.tup (cmc (Cm.str (by decide +kernel)) (cm1 Cm.int))) sp2 (of1.trans of2)))
    rcases hc with rfl | ⟨b, rfl, hb, b1, b2⟩
    · exact eq_nil (k := 8) (fun d hd => (hcs d hd).1) go
    · exact eq_nilL hb (k := 8) (fun d hd => (hcs d hd).1) go
def sp__law_cells : SpD := fun ds S Q _ => ∃ (p a : Addr) (n : Nat) (ks : List (Str × List Str)), ds = [.ref p, .tup (ks.map kindD)] ∧ 0 < ks.length ∧ ks.length ≤ 3 ∧ (∀ q ∈ ks, KOk q) ∧ Spr S p a (n + 200) ∧ ∀ (cs : List D) S', cs.length ≤ 5 → (∀ d ∈ cs, CellD d) → Spr S' p a n → Off p a S S' → Q (.fl cs) S'
theorem ok__law_cells {P : Program} {w : World} {K : PySem.W.Frag} {mg : Str → Option Value} {base : Heap} (T : Txt K mg) (C__law_draw : Cal P w K mg base 1 "_law_draw" s__law_draw ["deck", "count"] sp__law_draw) (C__law_pick : Cal P w K mg base 2 "_law_pick" s__law_pick ["deck", "some"] sp__law_pick) (C__law_value : Cal P w K mg base 3 "_law_value" s__law_value ["deck", "cells"] sp__law_value) {ff : Addr} {fd : FuncData} (F : Fun K "_law_cells" "_law_cells" s__law_cells ff fd) (mf : mg "_law_cells" = some (.ref ff)) : Cal P w K mg base 4 "_law_cells" s__law_cells ["deck", "kinds"] sp__law_cells := by
  refine ⟨ff, fd, okD F sc__law_cells (fun ds S Q E h => ?len) (fun cdv A outer s H E ds S Q E' hcd hr h => ⟨_, (dss_cons (ds_asg (de_tup (da_cons (de_lst da_nil) (da_cons (de_un ud_neg de_int) da_nil))) (dg_tup (n := 2) rfl (dgs_cons (dg_name 2 sc__law_cells.nd) (dgs_cons (dg_name 3 sc__law_cells.nd) dgs_nil))))
      (dss_cons (ds_for PassesOwn.never rfl (di_range1 (by rfl) T.nb_range (da_cons (de_c C__law_draw hr (da_cons (de_var 0) (da_cons de_int da_nil))) da_nil)) (dg_name 4 sc__law_cells.nd) (dss_cons (ds_set 3 sc__law_cells.nd (de_op (od_add false) (de_op (od_add false) (de_var 3) de_int) (de_c C__law_draw hr (da_cons (de_var 0) (da_cons de_int da_nil)))))
      (dss_cons (ds_set 5 sc__law_cells.nd (de_c C__law_pick hr (da_cons (de_var 0) (da_cons (de_var 1) da_nil))))
      (dss_cons (ds_setLc 6 [("field", 7)] rfl sc__law_cells.nd (di_tup (de_ix (xd_ix hr) (de_var 5) de_int)) (blkOk_by (N := ["deck", "kinds", "found", "number", "k", "kind", "some", "field"]) (sc := defScope s__law_cells) (by decide +kernel)) (fun _ _ _ _ _ => (pg_name (i := 7) sc__law_cells.nd rfl (Or.inl rfl) (Or.inr rfl))) (fun N => (tg_name (vs := [7]) (i := 7) (by decide))) (fun _ _ _ _ _ => pts_one (dt_cmp od_gt (de_c C__law_draw hr (da_cons (de_var 0) (da_cons de_int da_nil))) de_int)) (fun _ _ _ _ _ => (de_tup (da_cons (de_var 7) (da_cons (de_c C__law_value hr (da_cons (de_var 0) (da_cons (de_var 2) da_nil))) da_nil)))))
      (dss_one (ds_expr (de_m PySem.F.plainAttrs_list PySem.F.slot_list_append PySem.F.type_list_append md_append (de_var 2) (da_cons (de_tup (da_cons (de_var 3) (da_cons (de_ix (xd_ix hr) (de_var 5) de_int) (da_cons (de_callTy cd_tuple (by rfl) T.nb_tuple (da_cons (de_var 6) da_nil)) da_nil)))) da_nil))))))))
      (dss_one (ds_ret (de_var 2))))), ?run⟩), F.binds (ps := ["deck", "kinds"]) fun _ _ _ _ _ _ us hl => match us, hl with | [_, _], _ => rfl, mf, F⟩
  case len => obtain ⟨p, a, n, ks, rfl, _⟩ := h; rfl
  case run =>
    obtain ⟨p, a, n, ks, rfl, k0, k3, k4, sp, q⟩ := h
    simp only [dVar, dC, dOp, dUn, dChain, dTr, dB, dAnd, dOr, dNot, dIf, dAndV, dOrV, dNotV, dNil, dCons, dTup, dLst, dLf, dNext, dSeq, dBreak, dCont, dDrop, dRet, dRetN, dIfS, gdName, gdNil, gdCons, gdTup, gdSub, dAsg, dPar, dCall, dCallK, dCB, dM0, dM, dGet1, dGet2, dDk, dDt, dPart, dNoPart, dSlice, dAug, dYes, dSort2, revD, iTupD, iLstD, iLf, iLw, iRange1, iRange2, iRange3, iEnumD, iZipD, iZipMD, iStrD, dGix, dDc, dIsi, dSortSet, dLenSet, dDlit, gdLst, dFor, dWhile, dLc, dLcM, dFld, dFldSet, dFldAdd, dMeth, dMake, dPar3, dCut, dTcut, wipeD, bodyE, startD, List.map_cons, List.map_nil, List.length_cons, List.length_nil, List.replicate_succ, List.replicate_zero, List.cons_append, List.nil_append, Nat.reduceAdd, Nat.reduceSub, Nat.zero_add, List.getElem?_cons_zero, List.getElem?_cons_succ, List.set_cons_zero, List.set_cons_succ, Option.some.injEq, exists_eq_left', exists_eq_left, if_true, sizeLine_eq, Nat.reduceLeDiff, Nat.reduceLT, Nat.zero_le, true_and, and_true, Bool.false_eq_true, if_false]
    intro f nf
    obtain ⟨f1, f2⟩ := sp.ne nf
    refine ng ⟨_, rfl, rfl, _, _, rfl, _, _, rfl, rfl, p, a, n + 199, 6, rfl, by decide, by decide, sp.up f1 f2, fun m S1 m0 m1 sp1 of1 => ⟨_, rfl, by omega, by omega, ?_⟩⟩
    obtain ⟨m, rfl⟩ : ∃ j : Nat, m = j := ⟨m.toNat, by omega⟩
    have em : ((m : Nat) : Int).toNat = m := by omega
    rw [em]
    refine fr_rng (fun i δ S' => ∃ (cs : List D) (z : Int) (r4 r5 r6 r7 : Option D), δ = [some (.ref p), some (.tup (ks.map kindD)), some (.ref f), some (.int z), r4, r5, r6, r7] ∧ S' f = some (.lst cs) ∧ cs.length = i ∧ i ≤ m ∧ (∀ d ∈ cs, CellD d) ∧ Spr S' p a (n + (5 - i) * 30) ∧ ∀ b, b ≠ p → b ≠ a → b ≠ f → S' b = S b)
      ⟨[], _, _, _, _, _, rfl, by rw [of1 f f1 f2, up_same], rfl, Nat.zero_le _, fun d hd => (by cases hd), sp1.mono (by omega), fun b b1 b2 b3 => by rw [of1 b b1 b2, up_ne b3]⟩ ?_ ?_
    · rintro i δ S' hi ⟨cs, z, r4, r5, r6, r7, rfl, hf, hl, hm, hcs, sp', off⟩
      simp only [dVar, dC, dOp, dUn, dChain, dTr, dB, dAnd, dOr, dNot, dIf, dAndV, dOrV, dNotV, dNil, dCons, dTup, dLst, dLf, dNext, dSeq, dBreak, dCont, dDrop, dRet, dRetN, dIfS, gdName, gdNil, gdCons, gdTup, gdSub, dAsg, dPar, dCall, dCallK, dCB, dM0, dM, dGet1, dGet2, dDk, dDt, dPart, dNoPart, dSlice, dAug, dYes, dSort2, revD, iTupD, iLstD, iLf, iLw, iRange1, iRange2, iRange3, iEnumD, iZipD, iZipMD, iStrD, dGix, dDc, dIsi, dSortSet, dLenSet, dDlit, gdLst, dFor, dWhile, dLc, dLcM, dFld, dFldSet, dFldAdd, dMeth, dMake, dPar3, dCut, dTcut, wipeD, bodyE, startD, List.map_cons, List.map_nil, List.length_cons, List.length_nil, List.replicate_succ, List.replicate_zero, List.cons_append, List.nil_append, Nat.reduceAdd, Nat.reduceSub, Nat.zero_add, List.getElem?_cons_zero, List.getElem?_cons_succ, List.set_cons_zero, List.set_cons_succ, Option.some.injEq, exists_eq_left', exists_eq_left, if_true, sizeLine_eq, Nat.reduceLeDiff, Nat.reduceLT, Nat.zero_le, true_and, and_true, Bool.false_eq_true, if_false]
      obtain ⟨B, hB⟩ : ∃ B : Nat, B = n + (5 - (i + 1)) * 30 := ⟨_, rfl⟩
      refine add_i ⟨p, a, B + 29, 2, rfl, by decide, by decide, sp'.mono (by omega), fun t S2 t0 t1 sp2 of2 => add_i ?_⟩
      refine ⟨p, a, B + 28, _, _, rfl, .inl (.tup _), by rw [List.length_map]; exact k0, by rw [List.length_map]; omega, sp2, fun kd S3 hk sp3 of3 => ?_⟩
      obtain ⟨k, hk', rfl⟩ := List.mem_map.mp hk
      obtain ⟨kk1, kk2, kk3⟩ := k4 k hk'
      have hf3 : S3 f = some (.lst cs) := by rw [of3 f f1 f2, of2 f f1 f2]; exact hf
      have off3 : ∀ b, b ≠ p → b ≠ a → b ≠ f → S3 b = S b := fun b b1 b2 b3 => by rw [of3 b b1 b2, of2 b b1 b2, off b b1 b2 b3]
      refine ix_sq rfl rfl (at_n (i := 1) rfl) ⟨_, .inl rfl, ?_⟩
      refine lc_seq (ds := k.2.map D.str) (fun j acc S4 => acc.length ≤ j ∧ j ≤ k.2.length ∧ (∀ d ∈ acc, Cm 3 d) ∧ Spr S4 p a (B + (8 - j) * 3) ∧ Off p a S3 S4) ⟨Nat.le_refl _, Nat.zero_le _, fun d hd => (by cases hd), sp3.mono (by omega), .refl⟩ ?_ ?_
      · rintro j x acc S4 hx ⟨al, jl, hac, sp4, of4⟩
        obtain ⟨s, hs, rfl⟩ := map_at hx
        have ss := kk3 s (List.mem_of_getElem? hs)
        have hj := (List.getElem?_eq_some_iff.mp hs).1
        refine ⟨by rw [sizeLine_eq]; omega, p, a, B + (8 - (j + 1)) * 3 + 2, 5, rfl, by decide, by decide, sp4.mono (by omega), fun u S5 u0 u1 sp5 of5 => it_of trivial ⟨_, rfl, br2 (fun _ => ?_) fun _ => ⟨by omega, hj, hac, sp5.mono (by omega), of4.trans of5⟩⟩⟩
        have hf5 : S5 f = some (.lst cs) := by rw [of5 f f1 f2, of4 f f1 f2]; exact hf3
        refine ⟨p, a, B + (8 - (j + 1)) * 3, .ref f, cs, rfl, .inr ⟨f, rfl, hf5, f1, f2⟩, hcs, by omega, sp5, fun x S6 cx sp6 of6 => ⟨by rw [List.length_append]; simp; omega, hj, fun d hd => ?_, sp6, (of4.trans of5).trans of6⟩⟩
        rcases List.mem_append.mp hd with h | h
        · exact hac d h
        · rw [List.mem_singleton.mp h]; exact Cm.tup (cmc (Cm.str ss.1) (cm1 cx))
      · rintro j acc S4 hj ⟨al, jl, hac, sp4, of4⟩
        have hf4 : S4 f = some (.lst cs) := by rw [of4 f f1 f2]; exact hf3
        refine ⟨ty_l hf4, ix_sq rfl rfl at_0 (tpl_l rfl (app_of hf4 (by rw [sizeLine_eq]; omega) ⟨cs ++ [.tup [.int (z + 1 + t), .str k.1, .tup acc]], z + 1 + t, _, _, _, _, rfl, up_same, by rw [List.length_append, hl]; rfl, by omega, fun d hd => ?_, (sp4.up f1 f2).mono (by omega), fun b b1 b2 b3 => by rw [up_ne b3, of4 b b1 b2, off3 b b1 b2 b3]⟩))⟩
        rcases List.mem_append.mp hd with h | h
        · exact hcs d h
        · rw [List.mem_singleton.mp h]
          exact ⟨(Cm.tup (k := 4) (cmc Cm.int (cmc (Cm.str kk2.1) (cm1 (Cm.tup hac))))).mono (by decide), _, _, rfl⟩
    · rintro i δ S' hi ⟨cs, z, r4, r5, r6, r7, rfl, hf, hl, hm, hcs, sp', off⟩
      refine ⟨_, rfl, rt_fl hf (q cs _ (by omega) hcs ((sp'.mono (by omega)).del f1 f2) fun b b1 b2 => ?_)⟩
      by_cases e : b = f
      · rw [e, del_same, nf]
      · rw [del_ne e, off b b1 b2 e]
end K19


namespace K19
open PySem L2 PyProof.Rows DL
/-! ### states and ways, drawn -/
def clD (x : Nat × Str) : D := .tup [.int (x.1 : Nat), .str x.2]
def callsTo (rs : List Rw) : Nat → List (Nat × Str)
  | 0 => []
  | j + 1 => callsTo rs j ++ (match rs[j]? with
    | none => []
    | some r => match r.k with
      | .call p => [(j, p)]
      | _ => [])
def callsOf (rs : List Rw) : List (Nat × Str) := callsTo rs rs.length
theorem callsTo_len (rs : List Rw) : ∀ j, (callsTo rs j).length ≤ j
  | 0 => Nat.le_refl _
  | j + 1 => by
    have := callsTo_len rs j
    unfold callsTo
    rw [List.length_append]
    split
    · simp; omega
    · split <;> simp <;> omega
theorem callsTo_ok {n : Nat} {fs : List Str} {rs : List Rw} (ok : ∀ r ∈ rs, r.Ok n fs) : ∀ j, ∀ c ∈ callsTo rs j, c.1 < rs.length ∧ c.2 ∈ fs
  | 0, c, h => by cases h
  | j + 1, c, h => by
    unfold callsTo at h
    rcases List.mem_append.mp h with h | h
    · exact callsTo_ok ok j c h
    · cases hr : rs[j]? with
      | none => rw [hr] at h; cases h
      | some r =>
        rw [hr] at h
        dsimp only at h
        rcases rw_kind (ok r (List.mem_of_getElem? hr)) with ⟨e, _⟩ | ⟨p2, e, _, _, h2⟩ | ⟨t, e, _⟩ | ⟨t, e, _⟩ | ⟨e, _⟩ <;> rw [e] at h <;> dsimp only at h
        · cases h
        · rw [List.mem_singleton.mp h]
          exact ⟨(List.getElem?_eq_some_iff.mp hr).1, h2⟩
        · cases h
        · cases h
        · cases h
def sp__law_calls : SpD := fun ds S Q _ => ∃ (ks : D) (ps : List Pc) (x : Str), ds = [prD ks ps, .str x] ∧ PrOk ps ∧ x ∈ ps.map (·.1) ∧ Q (.fl ((callsOf (rowsOf ps x)).map clD)) S
theorem ok__law_calls {P : Program} {w : World} {K : PySem.W.Frag} {mg : Str → Option Value} {base : Heap} (T : Txt K mg) (C__law_named : Cal P w K mg base 1 "_law_named" s__law_named ["code", "name"] sp__law_named) {ff : Addr} {fd : FuncData} (F : Fun K "_law_calls" "_law_calls" s__law_calls ff fd) (mf : mg "_law_calls" = some (.ref ff)) : Cal P w K mg base 2 "_law_calls" s__law_calls ["code", "name"] sp__law_calls := by
  refine ⟨ff, fd, okD F sc__law_calls (fun ds S Q E h => ?len) (fun cdv A outer s H E ds S Q E' hcd hr h => ⟨_, (dss_cons (ds_set 2 sc__law_calls.nd (de_ix (xd_ix hr) (de_c C__law_named hr (da_cons (de_var 0) (da_cons (de_var 1) da_nil))) de_int))
      (dss_one (ds_ret (de_lc [("at", 3)] rfl sc__law_calls.nd (di_range1 (by rfl) T.nb_range (da_cons (de_callB cd_len (by rfl) T.nb_len (da_cons (de_var 2) da_nil)) da_nil)) (blkOk_by (N := ["code", "name", "rows", "at"]) (sc := defScope s__law_calls) (by decide +kernel)) (fun _ _ _ _ _ => (pg_name (i := 3) sc__law_calls.nd rfl (Or.inl rfl) (Or.inr rfl))) (fun N => (tg_name (vs := [3]) (i := 3) (by decide))) (fun _ _ _ _ _ => pts_one (dt_cmp (od_eq hr) (de_ix (xd_ix hr) (de_ix (xd_ix hr) (de_var 2) (de_var 3)) de_int) de_str)) (fun _ _ _ _ _ => (de_tup (da_cons (de_var 3) (da_cons (de_ix (xd_ix hr) (de_ix (xd_ix hr) (de_var 2) (de_var 3)) de_int) da_nil)))))))), ?run⟩), F.binds (ps := ["code", "name"]) fun _ _ _ _ _ _ us hl => match us, hl with | [_, _], _ => rfl, mf, F⟩
  case len => obtain ⟨ks, ps, x, rfl, _⟩ := h; rfl
  case run =>
    obtain ⟨ks, ps, x, rfl, okp, hx, q⟩ := h
    simp only [dVar, dC, dOp, dUn, dChain, dTr, dB, dAnd, dOr, dNot, dIf, dAndV, dOrV, dNotV, dNil, dCons, dTup, dLst, dLf, dNext, dSeq, dBreak, dCont, dDrop, dRet, dRetN, dIfS, gdName, gdNil, gdCons, gdTup, gdSub, dAsg, dPar, dCall, dCallK, dCB, dM0, dM, dGet1, dGet2, dDk, dDt, dPart, dNoPart, dSlice, dAug, dYes, dSort2, revD, iTupD, iLstD, iLf, iLw, iRange1, iRange2, iRange3, iEnumD, iZipD, iZipMD, iStrD, dGix, dDc, dIsi, dSortSet, dLenSet, dDlit, gdLst, dFor, dWhile, dLc, dLcM, dFld, dFldSet, dFldAdd, dMeth, dMake, dPar3, dCut, dTcut, wipeD, bodyE, startD, List.map_cons, List.map_nil, List.length_cons, List.length_nil, List.replicate_succ, List.replicate_zero, List.cons_append, List.nil_append, Nat.reduceAdd, Nat.reduceSub, Nat.zero_add, List.getElem?_cons_zero, List.getElem?_cons_succ, List.set_cons_zero, List.set_cons_succ, Option.some.injEq, exists_eq_left', exists_eq_left, if_true, sizeLine_eq, Nat.reduceLeDiff, Nat.reduceLT, Nat.zero_le, true_and, and_true, Bool.false_eq_true, if_false]
    obtain ⟨p, g1, g2, g3⟩ := rowsOf_ok okp hx
    have l6 := okp.l
    have l20 := g3.rl
    rw [g2] at q
    refine ⟨ks, ps, x, p, rfl, by omega, g1, ix_sq rfl rfl (at_n (i := 2) rfl) (len_sq rfl ⟨_, rfl, by rw [List.length_map]; omega, by rw [List.length_map]; omega, ?_⟩)⟩
    have en : (((p.2.2.map Rw.d).length : Nat) : Int).toNat = p.2.2.length := by rw [List.length_map]; omega
    rw [en]
    refine lc_rng (fun j acc S' => S' = S ∧ j ≤ p.2.2.length ∧ acc = (callsTo p.2.2 j).map clD) ⟨rfl, Nat.zero_le _, rfl⟩ ?_ ?_
    · rintro j acc S' hj ⟨rfl, hjl, rfl⟩
      have ez : (0 : Int) + (j : Nat) = (j : Nat) := by omega
      rw [ez]
      have hr : p.2.2[j]? = some p.2.2[j] := List.getElem?_eq_getElem hj
      have okr := g3.ok _ (List.getElem_mem hj)
      generalize p.2.2[j] = r at hr okr
      have hm : ∀ {S' : Sto} {Q' : KD}, Q' r.d S' → ixD (rwsD p.2.2) (.int (j : Nat)) S' Q' := fun {S' Q'} qq => ix_sq rfl rfl (at_n (by rw [List.getElem?_map, hr]; rfl)) qq
      have cl := callsTo_len p.2.2 j
      refine ⟨by rw [List.length_map, sizeLine_eq]; omega, hm (ix_sq rfl rfl at_0 ⟨_, rfl, ?_⟩)⟩
      have e1 : callsTo p.2.2 (j + 1) = callsTo p.2.2 j ++ (match r.k with | .call p => [(j, p)] | _ => []) := by
        show callsTo p.2.2 j ++ _ = _
        rw [hr]
      by_cases hc : r.h = "call"
      · obtain ⟨p', kk⟩ := (kd_excl okr).1 hc
        rw [kk] at e1
        exact brT (xt hc) (hm (ix_sq rfl rfl (at_n (i := 2) (rw_call kk)) ⟨rfl, hj, by rw [e1, List.map_append]; rfl⟩))
      · refine brF (xf hc) ⟨rfl, hj, ?_⟩
        rw [e1]
        rcases rw_kind okr with ⟨e, _⟩ | ⟨p2, e, h1, _, h2⟩ | ⟨t, e, _⟩ | ⟨t, e, _⟩ | ⟨e, _⟩
        · simp [e]
        · exact absurd h1 hc
        · simp [e]
        · simp [e]
        · simp [e]
    · rintro j acc S' hj ⟨rfl, hjl, rfl⟩
      have e : j = p.2.2.length := by omega
      subst e
      exact rt_of q
def sp__law_moment : SpD := fun ds S Q _ => ∃ (p a : Addr) (n : Nat) (ks : List (Str × List Str)) (ps : List Pc), ds = [.ref p, prD (.tup (ks.map kindD)) ps] ∧ 0 < ks.length ∧ ks.length ≤ 3 ∧ (∀ q ∈ ks, KOk q) ∧ PrOk ps ∧ Spr S p a (n + 4000) ∧
  ∀ (fs : List Fm) (c m : D) (S' : Sto), fs.length ≤ 10 → PlOk ps (plOf fs) → Spr S' p a n → Off p a S S' → Q (stD fs c m) S'
theorem ok__law_moment {P : Program} {w : World} {K : PySem.W.Frag} {mg : Str → Option Value} {base : Heap} (T : Txt K mg) (C__law_cells : Cal P w K mg base 4 "_law_cells" s__law_cells ["deck", "kinds"] sp__law_cells) (C__law_pick : Cal P w K mg base 2 "_law_pick" s__law_pick ["deck", "some"] sp__law_pick) (C__law_calls : Cal P w K mg base 2 "_law_calls" s__law_calls ["code", "name"] sp__law_calls) (C__law_draw : Cal P w K mg base 1 "_law_draw" s__law_draw ["deck", "count"] sp__law_draw) (C__law_named : Cal P w K mg base 1 "_law_named" s__law_named ["code", "name"] sp__law_named) (C__law_value : Cal P w K mg base 3 "_law_value" s__law_value ["deck", "cells"] sp__law_value) (C__law_variables : Cal P w K mg base 2 "_law_variables" s__law_variables ["code", "name"] sp__law_variables) {ff : Addr} {fd : FuncData} (F : Fun K "_law_moment" "_law_moment" s__law_moment ff fd) (mf : mg "_law_moment" = some (.ref ff)) : Cal P w K mg base 5 "_law_moment" s__law_moment ["deck", "code"] sp__law_moment := by
  refine ⟨ff, fd, okD F sc__law_moment (fun ds S Q E h => ?len) (fun cdv A outer s H E ds S Q E' hcd hr h => ⟨_, (dss_cons (ds_asg (de_tup (da_cons (de_c C__law_cells hr (da_cons (de_var 0) (da_cons (de_ix (xd_ix hr) (de_var 1) de_int) da_nil))) (da_cons (de_lst da_nil) (da_cons de_str da_nil)))) (dg_tup (n := 3) rfl (dgs_cons (dg_name 2 sc__law_moment.nd) (dgs_cons (dg_name 3 sc__law_moment.nd) (dgs_cons (dg_name 4 sc__law_moment.nd) dgs_nil)))))
      (dss_cons (ds_while PassesOwn.never (dt_cut (dw_and (dt_cmp (od_ne hr) (de_c C__law_calls hr (da_cons (de_var 1) (da_cons (de_var 4) da_nil))) (de_lf da_nil)) (dw_and (dt_cmp od_lt (de_callB cd_len (by rfl) T.nb_len (da_cons (de_var 3) da_nil)) de_int) (dw_and1 (dt_cmp od_gt (de_c C__law_draw hr (da_cons (de_var 0) (da_cons de_int da_nil))) de_int)))).pt) (dss_cons (ds_asg (de_c C__law_pick hr (da_cons (de_var 0) (da_cons (de_c C__law_calls hr (da_cons (de_var 1) (da_cons (de_var 4) da_nil))) da_nil))) (dg_tup (n := 2) rfl (dgs_cons (dg_name 5 sc__law_moment.nd) (dgs_cons (dg_name 6 sc__law_moment.nd) dgs_nil))))
      (dss_cons (ds_expr (de_m PySem.F.plainAttrs_list PySem.F.slot_list_append PySem.F.type_list_append md_append (de_var 3) (da_cons (de_tup (da_cons (de_var 4) (da_cons (de_var 5) da_nil))) da_nil)))
      (dss_one (ds_set 4 sc__law_moment.nd (de_var 6))))))
      (dss_cons (ds_expr (de_m PySem.F.plainAttrs_list PySem.F.slot_list_append PySem.F.type_list_append md_append (de_var 3) (da_cons (de_tup (da_cons (de_var 4) (da_cons (de_c C__law_draw hr (da_cons (de_var 0) (da_cons (de_op (od_add false) (de_callB cd_len (by rfl) T.nb_len (da_cons (de_ix (xd_ix hr) (de_c C__law_named hr (da_cons (de_var 1) (da_cons (de_var 4) da_nil))) de_int) da_nil)) de_int) da_nil))) da_nil))) da_nil)))
      (dss_cons (ds_set 7 sc__law_moment.nd (de_lst da_nil))
      (dss_cons (ds_for PassesOwn.never rfl (di_lw (de_var 3)) (dg_tup (n := 2) rfl (dgs_cons (dg_name 4 sc__law_moment.nd) (dgs_cons (dg_name 5 sc__law_moment.nd) dgs_nil))) (dss_one (ds_expr (de_m PySem.F.plainAttrs_list PySem.F.slot_list_append PySem.F.type_list_append md_append (de_var 7) (da_cons (de_tup (da_cons (de_var 4) (da_cons (de_var 5) (da_cons (de_callTy cd_tuple (by rfl) T.nb_tuple (da_cons (de_lc [("one", 8)] rfl sc__law_moment.nd (di_lf (de_c C__law_variables hr (da_cons (de_var 1) (da_cons (de_var 4) da_nil)))) (blkOk_by (N := ["deck", "code", "cells", "places", "name", "at", "other", "frames", "one"]) (sc := defScope s__law_moment) (by decide +kernel)) (fun _ _ _ _ _ => (pg_name (i := 8) sc__law_moment.nd rfl (Or.inl rfl) (Or.inr rfl))) (fun N => (tg_name (vs := [8]) (i := 8) (by decide))) (fun _ _ _ _ _ => dts_nil) (fun _ _ _ _ _ => (de_tup (da_cons (de_var 8) (da_cons (de_c C__law_value hr (da_cons (de_var 0) (da_cons (de_var 2) da_nil))) da_nil))))) da_nil)) da_nil)))) da_nil)))))
      (dss_one (ds_ret (de_tup (da_cons (de_callTy cd_tuple (by rfl) T.nb_tuple (da_cons (de_var 7) da_nil)) (da_cons (de_callTy cd_tuple (by rfl) T.nb_tuple (da_cons (de_var 2) da_nil)) (da_cons (de_op (od_add false) (de_op od_mul (de_callB cd_len (by rfl) T.nb_len (da_cons (de_var 2) da_nil)) de_int) (de_c C__law_draw hr (da_cons (de_var 0) (da_cons de_int da_nil)))) da_nil))))))))))), ?run⟩), F.binds (ps := ["deck", "code"]) fun _ _ _ _ _ _ us hl => match us, hl with | [_, _], _ => rfl, mf, F⟩
  case len => obtain ⟨p, a, n, ks, ps, rfl, _⟩ := h; rfl
  case run =>
    obtain ⟨p, a, n, ks, ps, rfl, k0, k3, kok, okp, sp, q⟩ := h
    simp only [dVar, dC, dOp, dUn, dChain, dTr, dB, dAnd, dOr, dNot, dIf, dAndV, dOrV, dNotV, dNil, dCons, dTup, dLst, dLf, dNext, dSeq, dBreak, dCont, dDrop, dRet, dRetN, dIfS, gdName, gdNil, gdCons, gdTup, gdSub, dAsg, dPar, dCall, dCallK, dCB, dM0, dM, dGet1, dGet2, dDk, dDt, dPart, dNoPart, dSlice, dAug, dYes, dSort2, revD, iTupD, iLstD, iLf, iLw, iRange1, iRange2, iRange3, iEnumD, iZipD, iZipMD, iStrD, dGix, dDc, dIsi, dSortSet, dLenSet, dDlit, gdLst, dFor, dWhile, dLc, dLcM, dFld, dFldSet, dFldAdd, dMeth, dMake, dPar3, dCut, dTcut, wipeD, bodyE, startD, List.map_cons, List.map_nil, List.length_cons, List.length_nil, List.replicate_succ, List.replicate_zero, List.cons_append, List.nil_append, Nat.reduceAdd, Nat.reduceSub, Nat.zero_add, List.getElem?_cons_zero, List.getElem?_cons_succ, List.set_cons_zero, List.set_cons_succ, Option.some.injEq, exists_eq_left', exists_eq_left, if_true, sizeLine_eq, Nat.reduceLeDiff, Nat.reduceLT, Nat.zero_le, true_and, and_true, Bool.false_eq_true, if_false]
    refine ix_sq rfl rfl at_0 ⟨p, a, n + 3800, ks, rfl, k0, k3, kok, sp, fun cs S1 c5 hcs sp1 of1 A nA => ⟨_, rfl, rfl, _, _, rfl, _, _, rfl, _, _, rfl, rfl, ?_⟩⟩
    obtain ⟨a1, a2⟩ := sp1.ne nA
    refine ⟨fun m δ S' => ∃ (pl : Pl) (x : Str) (r5 r6 : Option D), δ = [some (.ref p), some (prD (.tup (ks.map kindD)) ps), some (.fl cs), some (.ref A), some (.str x), r5, r6, none, none] ∧ S' A = some (.lst (pl.map plD)) ∧ (∀ z ∈ pl, z.1 ∈ ps.map (·.1) ∧ z.2 < (rowsOf ps z.1).length) ∧ x ∈ ps.map (·.1) ∧ pl.length + m = 3 ∧
      Spr S' p a (n + 3000 + m * 10) ∧ ∀ b, b ≠ p → b ≠ a → b ≠ A → S' b = S1 b, ⟨3, [], "main", none, none, rfl, up_same, fun z hz => (by cases hz), okp.m, rfl, (sp1.up a1 a2).mono (by omega), fun b _ _ b3 => up_ne b3⟩, ?_⟩
    rintro m δ S' ⟨pl, x, r5, r6, rfl, hA, hpl, hx, hm, sp', off⟩
    obtain ⟨pr, g1, g2, g3⟩ := rowsOf_ok okp hx
    have cok := callsTo_ok (rs := rowsOf ps x) (by rw [g2]; exact g3.ok) (rowsOf ps x).length
    have cl := callsTo_len (rowsOf ps x) (rowsOf ps x).length
    have l20 : (rowsOf ps x).length ≤ 20 := by rw [g2]; exact g3.rl
    refine ⟨fun c S2 => (c = true → callsOf (rowsOf ps x) ≠ [] ∧ pl.length < 3) ∧ S2 A = some (.lst (pl.map plD)) ∧ Spr S2 p a (n + 2999 + m * 10) ∧ ∀ b, b ≠ p → b ≠ a → b ≠ A → S2 b = S1 b, ?_, ?_⟩
    · have no : ∀ S2 : Sto, S2 = S' → (false = true → callsOf (rowsOf ps x) ≠ [] ∧ pl.length < 3) ∧ S2 A = some (.lst (pl.map plD)) ∧ Spr S2 p a (n + 2999 + m * 10) ∧ ∀ b, b ≠ p → b ≠ a → b ≠ A → S2 b = S1 b := fun S2 e => by
        subst e
        exact ⟨fun z => (nomatch z), hA, sp'.mono (by omega), off⟩
      refine ⟨_, rfl, _, rfl, _, ps, x, rfl, okp, hx, eq_nil (k := 1) (fun d hd => ?_) ⟨_, rfl, ?_⟩⟩
      · obtain ⟨c, hc, rfl⟩ := List.mem_map.mp hd
        exact Cm.tup (cmc Cm.int (cm1 (Cm.str (okp.sh _ (cok c hc).2).1)))
      · by_cases hcs : callsOf (rowsOf ps x) = []
        · have e0 : ((callsOf (rowsOf ps x)).map clD).isEmpty = true := by rw [hcs]; rfl
          exact brF (by rw [e0]; rfl) (no _ rfl)
        · refine brT (by cases h : callsOf (rowsOf ps x) with | nil => exact absurd h hcs | cons a l => rfl) ⟨_, rfl, len_sq (sq_l hA) ⟨_, rfl, ?_⟩⟩
          rw [List.length_map]
          by_cases h3 : pl.length < 3
          · exact brT (decide_eq_true (by omega)) ⟨_, rfl, p, a, n + 2999 + m * 10, 3, rfl, by decide, by decide, sp'.mono (by omega), fun t S2 t0 t1 sp2 of2 => it_of trivial ⟨_, rfl, fun _ => ⟨hcs, h3⟩, by rw [of2 A a1 a2]; exact hA, sp2, fun b b1 b2 b3 => by rw [of2 b b1 b2, off b b1 b2 b3]⟩⟩
          · exact brF (decide_eq_false (by omega)) (no _ rfl)
    · rintro b S2 ⟨hc, hA2, sp2, off2⟩
      cases b with
      | true =>
        obtain ⟨hcs, h3⟩ := hc rfl
        refine brT rfl ⟨_, rfl, _, rfl, _, rfl, _, ps, x, rfl, okp, hx, p, a, n + 2998 + m * 10, _, _, rfl, .inl (.fl _), by rw [List.length_map]; exact List.length_pos_iff.mpr hcs, by rw [List.length_map]; unfold callsOf; omega, sp2.mono (by omega), fun y S3 hy sp3 of3 => ?_⟩
        obtain ⟨c, hc, rfl⟩ := List.mem_map.mp hy
        obtain ⟨c1, c2⟩ := cok c hc
        refine ⟨_, rfl, rfl, _, _, rfl, _, _, rfl, rfl, ?_⟩
        have hA3 : S3 A = some (.lst (pl.map plD)) := by rw [of3 A a1 a2]; exact hA2
        refine ⟨_, rfl, ty_l hA3, _, rfl, _, rfl, app_of hA3 (by rw [List.length_map, sizeLine_eq]; omega) ⟨_, rfl, m - 1, by omega, pl ++ [(x, c.1)], c.2, _, _, rfl, by rw [up_same, List.map_append]; rfl, fun z hz => ?_, c2, by rw [List.length_append]; simp; omega, (sp3.up a1 a2).mono (by omega), fun b b1 b2 b3 => by rw [up_ne b3, of3 b b1 b2, off2 b b1 b2 b3]⟩⟩
        rcases List.mem_append.mp hz with h | h
        · exact hpl z h
        · rw [List.mem_singleton.mp h]; exact ⟨hx, c1⟩
      | false =>
        refine brF rfl ⟨_, rfl, ty_l hA2, _, rfl, _, rfl, _, rfl, _, rfl, _, ps, x, pr, rfl, by have := okp.l; omega, g1, ix_sq rfl rfl (at_n (i := 2) rfl) (len_sq rfl (add_i ?_))⟩
        rw [List.length_map]
        refine ⟨p, a, n + 2998, _, rfl, by omega, by rw [← g2]; omega, sp2.mono (by omega), fun t S3 t0 t1 sp3 of3 => ?_⟩
        obtain ⟨t, rfl⟩ : ∃ j : Nat, t = j := ⟨t.toNat, by omega⟩
        have hA3 : S3 A = some (.lst (pl.map plD)) := by rw [of3 A a1 a2]; exact hA2
        refine app_of hA3 (by rw [List.length_map, sizeLine_eq]; omega) fun F nF => ?_
        have FA : F ≠ A := fun e => by rw [e, up_same] at nF; cases nF
        have nF3 : S3 F = none := by rw [up_ne FA] at nF; exact nF
        obtain ⟨f1, f2⟩ := sp3.ne nF3
        have nF1 : S1 F = none := by rw [← off2 F f1 f2 FA, ← of3 F f1 f2]; exact nF3
        obtain ⟨pl', epl⟩ : ∃ pl' : Pl, pl' = pl ++ [(x, t)] := ⟨_, rfl⟩
        have okl : PlOk ps pl' := by
          rw [epl]
          refine PlOk.snoc (fun j n i hj => ?_) (fun n i hj => ?_) hx (by rw [g2]; omega)
          · obtain ⟨z1, z2⟩ := hpl _ (List.mem_of_getElem? hj)
            exact ⟨z1, Nat.le_of_lt z2, fun _ => z2⟩
          · exact (hpl _ (List.mem_of_getLast? hj)).2
        have pll : pl'.length ≤ 4 := by rw [epl, List.length_append]; simp; omega
        have hA4 : (up (up S3 A (.lst (pl.map plD ++ [.tup [.str x, .int (t : Nat)]]))) F (.lst [])) A = some (.lst (pl'.map plD)) := by
          rw [up_ne FA.symm, up_same, epl, List.map_append]
          rfl
        refine ⟨_, rfl, A, _, rfl, hA4, ?_⟩
        refine fr_of pl'.length (fun i δ S4 => ∃ (fs : List Fm) (r4 r5 r6 r8 : Option D), δ = [some (.ref p), some (prD (.tup (ks.map kindD)) ps), some (.fl cs), some (.ref A), r4, r5, r6, some (.ref F), r8] ∧ S4 A = some (.lst (pl'.map plD)) ∧ S4 F = some (.lst (fs.map fmD)) ∧
          plOf fs = pl'.take i ∧ Spr S4 p a (n + 10 + (4 - i) * 700) ∧ ∀ b, b ≠ p → b ≠ a → b ≠ A → b ≠ F → S4 b = S1 b) ⟨[], _, _, _, _, rfl, hA4, up_same, rfl, ((sp3.up a1 a2).up f1 f2).mono (by omega), fun b b1 b2 b3 b4 => by rw [up_ne b4, up_ne b3, of3 b b1 b2, off2 b b1 b2 b3]⟩ ?_ ?_
        · rintro i δ S4 hi ⟨fs, r4, r5, r6, r8, rfl, hA5, hF, hfs, sp4, off4⟩
          have hpi : pl'[i]? = some pl'[i] := List.getElem?_eq_getElem hi
          obtain ⟨y1, y2, _⟩ := okl i pl'[i].1 pl'[i].2 hpi
          generalize pl'[i] = y at hpi y1 y2
          refine ⟨plD y, by unfold listI; rw [hA5]; dsimp only; rw [List.getElem?_map, hpi]; rfl, ?_⟩
          refine ⟨_, rfl, rfl, _, _, rfl, _, _, rfl, rfl, _, rfl, ty_l hF, _, rfl, _, rfl, _, rfl, _, rfl, _, ps, y.1, rfl, okp, y1, fun ys ly => ⟨_, rfl, ?_⟩⟩
          obtain ⟨B, hB⟩ : ∃ B : Nat, B = n + 10 + (4 - (i + 1)) * 700 := ⟨_, rfl⟩
          refine lc_seq (ds := ys.map D.str) (fun j acc S5 => acc.length = j ∧ j ≤ ys.length ∧ Spr S5 p a (B + (300 - j) * 2) ∧ Off p a S4 S5) ⟨rfl, Nat.zero_le _, sp4.mono (by omega), .refl⟩ ?_ ?_
          · rintro j z acc S5 hz ⟨al, jl, sp5, of5⟩
            obtain ⟨w, hw, rfl⟩ := map_at hz
            have hj := (List.getElem?_eq_some_iff.mp hw).1
            simp only [dVar, dC, dOp, dUn, dChain, dTr, dB, dAnd, dOr, dNot, dIf, dAndV, dOrV, dNotV, dNil, dCons, dTup, dLst, dLf, dNext, dSeq, dBreak, dCont, dDrop, dRet, dRetN, dIfS, gdName, gdNil, gdCons, gdTup, gdSub, dAsg, dPar, dCall, dCallK, dCB, dM0, dM, dGet1, dGet2, dDk, dDt, dPart, dNoPart, dSlice, dAug, dYes, dSort2, revD, iTupD, iLstD, iLf, iLw, iRange1, iRange2, iRange3, iEnumD, iZipD, iZipMD, iStrD, dGix, dDc, dIsi, dSortSet, dLenSet, dDlit, gdLst, dFor, dWhile, dLc, dLcM, dFld, dFldSet, dFldAdd, dMeth, dMake, dPar3, dCut, dTcut, wipeD, bodyE, startD, List.map_cons, List.map_nil, List.length_cons, List.length_nil, List.replicate_succ, List.replicate_zero, List.cons_append, List.nil_append, Nat.reduceAdd, Nat.reduceSub, Nat.zero_add, List.getElem?_cons_zero, List.getElem?_cons_succ, List.set_cons_zero, List.set_cons_succ, Option.some.injEq, exists_eq_left', exists_eq_left, if_true, sizeLine_eq, Nat.reduceLeDiff, Nat.reduceLT, Nat.zero_le, true_and, and_true, Bool.false_eq_true, if_false]
            exact ⟨by omega, p, a, B + (300 - (j + 1)) * 2, .fl cs, cs, rfl, .inl rfl, hcs, by omega, sp5.mono (by omega), fun v S6 cv sp6 of6 => ⟨by rw [List.length_append, al]; rfl, hj, sp6, of5.trans of6⟩⟩
          · rintro j acc S5 hj ⟨al, jl, sp5, of5⟩
            have fsl : fs.length ≤ 4 := by
              have := congrArg List.length hfs
              unfold plOf at this
              rw [List.length_map, List.length_take] at this
              omega
            have hF5 : S5 F = some (.lst (fs.map fmD)) := by rw [of5 F f1 f2]; exact hF
            have hA6 : S5 A = some (.lst (pl'.map plD)) := by rw [of5 A a1 a2]; exact hA5
            refine tpl_l rfl (app_of hF5 (by rw [List.length_map, sizeLine_eq]; omega) ⟨fs ++ [(y.1, y.2, .tup acc)], _, _, _, _, rfl, by rw [up_ne FA.symm]; exact hA6, by rw [up_same, List.map_append]; rfl, ?_, (sp5.up f1 f2).mono (by omega), fun b b1 b2 b3 b4 => by rw [up_ne b4, of5 b b1 b2, off4 b b1 b2 b3 b4]⟩)
            rw [tk1 hpi, ← hfs]
            unfold plOf
            rw [List.map_append]
            rfl
        · rintro i δ S4 hi ⟨fs, r4, r5, r6, r8, rfl, hA5, hF, hfs, sp4, off4⟩
          rw [List.take_of_length_le hi] at hfs
          have fsl : fs.length ≤ 10 := by
            have := congrArg List.length hfs
            unfold plOf at this
            rw [List.length_map] at this
            omega
          refine ⟨by unfold listI; rw [hA5]; dsimp only; rw [List.getElem?_eq_none (by rw [List.length_map]; exact hi)], ?_⟩
          refine ⟨_, rfl, tpl_l (ls_l hF) ⟨_, rfl, tpl_l rfl ⟨_, rfl, len_sq rfl (it_of (cmul2 (by decide) (by decide)) ⟨_, rfl, p, a, n, 3, rfl, by decide, by decide, sp4.mono (by omega), fun u S5 u0 u1 sp5 of5 => add_i ?_⟩)⟩⟩⟩
          refine rt_sub (S1 := del (del S5 F) A) (sub_del.trans sub_del) (q fs _ _ _ fsl (by rw [hfs]; exact okl) ((sp5.del f1 f2).del a1 a2) fun b b1 b2 => ?_)
          by_cases b3 : b = A
          · rw [b3, del_same, ← nA, of1 A a1 a2]
          · rw [del_ne b3]
            by_cases b4 : b = F
            · rw [b4, del_same, ← nF1, of1 F f1 f2]
            · rw [del_ne b4, of5 b b1 b2, off4 b b1 b2 b3 b4, of1 b b1 b2]
def sp__law_trip : SpD := fun ds S Q _ => ∃ (p a : Addr) (n : Nat) (ks : D) (ps : List Pc) (fs : List Fm) (c m : D) (k : Nat), ds = [.ref p, prD ks ps, stD fs c m, .int (k : Nat)] ∧ PrOk ps ∧ PlOk ps (plOf fs) ∧ fs.length ≤ 10 ∧ k ≤ 40 ∧ Spr S p a (n + 100) ∧
  ∀ (st : Nat) (os : List Bool) (S' : Sto), st ≤ 40 → os.length ≤ 40 → Spr S' p a n → Off p a S S' → Q (.tup [.int (st : Nat), .tup (os.map D.bl)]) S'
theorem ok__law_trip {P : Program} {w : World} {K : PySem.W.Frag} {mg : Str → Option Value} {base : Heap} (T : Txt K mg) (C__law_is_test : Cal P w K mg base 2 "_law_is_test" s__law_is_test ["code", "places"] sp__law_is_test) (C__law_onward : Cal P w K mg base 2 "_law_onward" s__law_onward ["code", "places", "outcome"] sp__law_onward) (C__law_draw : Cal P w K mg base 1 "_law_draw" s__law_draw ["deck", "count"] sp__law_draw) {ff : Addr} {fd : FuncData} (F : Fun K "_law_trip" "_law_trip" s__law_trip ff fd) (mf : mg "_law_trip" = some (.ref ff)) : Cal P w K mg base 3 "_law_trip" s__law_trip ["deck", "code", "moment", "count"] sp__law_trip := by
  refine ⟨ff, fd, okD F sc__law_trip (fun ds S Q E h => ?len) (fun cdv A outer s H E ds S Q E' hcd hr h => ⟨_, (dss_cons (ds_par3 4 5 6 rfl sc__law_trip.nd (da_cons (de_lc [("frame", 7)] rfl sc__law_trip.nd (di_tup (de_ix (xd_ix hr) (de_var 2) de_int)) (blkOk_by (N := ["deck", "code", "moment", "count", "places", "outcomes", "steps", "frame", "outcome"]) (sc := defScope s__law_trip) (by decide +kernel)) (fun _ _ _ _ _ => (pg_name (i := 7) sc__law_trip.nd rfl (Or.inl rfl) (Or.inr rfl))) (fun N => (tg_name (vs := [7]) (i := 7) (by decide))) (fun _ _ _ _ _ => dts_nil) (fun _ _ _ _ _ => (de_slice (xd_slice false) (de_var 7) do_none (do_some de_int)))) (da_cons (de_lst da_nil) (da_cons de_int da_nil))))
      (dss_cons (ds_while PassesOwn.never (dt_cut (dw_and (dt_cmp (od_ne hr) (de_var 4) (de_lf da_nil)) (dw_and1 (dt_cmp od_lt (de_var 6) (de_var 3)))).pt) (dss_cons (ds_set 8 sc__law_trip.nd (de_and (de_c C__law_is_test hr (da_cons (de_var 1) (da_cons (de_var 4) da_nil))) (de_one (de_cmp (od_eq hr) (de_c C__law_draw hr (da_cons (de_var 0) (da_cons de_int da_nil))) de_int))))
      (dss_cut (ds_if (dt_tr td_tru (de_c C__law_is_test hr (da_cons (de_var 1) (da_cons (de_var 4) da_nil)))) (dss_one (ds_expr (de_m PySem.F.plainAttrs_list PySem.F.slot_list_append PySem.F.type_list_append md_append (de_var 5) (da_cons (de_var 8) da_nil)))) dss_nil)
      (dss_one (ds_par 4 6 rfl sc__law_trip.nd (da_cons (de_c C__law_onward hr (da_cons (de_var 1) (da_cons (de_var 4) (da_cons (de_var 8) da_nil)))) (da_cons (de_op (od_add false) (de_var 6) de_int) da_nil)))))))
      (dss_one (ds_ret (de_tup (da_cons (de_var 6) (da_cons (de_callTy cd_tuple (by rfl) T.nb_tuple (da_cons (de_var 5) da_nil)) da_nil))))))), ?run⟩), F.binds (ps := ["deck", "code", "moment", "count"]) fun _ _ _ _ _ _ us hl => match us, hl with | [_, _, _, _], _ => rfl, mf, F⟩
  case len => obtain ⟨p, a, n, ks, ps, fs, c, m, k, rfl, _⟩ := h; rfl
  case run =>
    obtain ⟨p, a, n, ks, ps, fs, c, m, k, rfl, okp, okl, l10, k40, sp, q⟩ := h
    simp only [dVar, dC, dOp, dUn, dChain, dTr, dB, dAnd, dOr, dNot, dIf, dAndV, dOrV, dNotV, dNil, dCons, dTup, dLst, dLf, dNext, dSeq, dBreak, dCont, dDrop, dRet, dRetN, dIfS, gdName, gdNil, gdCons, gdTup, gdSub, dAsg, dPar, dCall, dCallK, dCB, dM0, dM, dGet1, dGet2, dDk, dDt, dPart, dNoPart, dSlice, dAug, dYes, dSort2, revD, iTupD, iLstD, iLf, iLw, iRange1, iRange2, iRange3, iEnumD, iZipD, iZipMD, iStrD, dGix, dDc, dIsi, dSortSet, dLenSet, dDlit, gdLst, dFor, dWhile, dLc, dLcM, dFld, dFldSet, dFldAdd, dMeth, dMake, dPar3, dCut, dTcut, wipeD, bodyE, startD, List.map_cons, List.map_nil, List.length_cons, List.length_nil, List.replicate_succ, List.replicate_zero, List.cons_append, List.nil_append, Nat.reduceAdd, Nat.reduceSub, Nat.zero_add, List.getElem?_cons_zero, List.getElem?_cons_succ, List.set_cons_zero, List.set_cons_succ, Option.some.injEq, exists_eq_left', exists_eq_left, if_true, sizeLine_eq, Nat.reduceLeDiff, Nat.reduceLT, Nat.zero_le, true_and, and_true, Bool.false_eq_true, if_false]
    have cmp : ∀ {p : Pl}, PlOk ps p → ∀ d ∈ p.map plD, Cm 1 d := fun {p} h d hd => by
      obtain ⟨⟨n, i⟩, hx, rfl⟩ := List.mem_map.mp hd
      obtain ⟨j, hj⟩ := List.mem_iff_getElem?.mp hx
      exact Cm.tup (cmc (Cm.str (okp.sh n (h j n i hj).1).1) (cm1 Cm.int))
    refine ix_sq rfl rfl at_0 ⟨_, .inl rfl, lc_seq (ds := fs.map fmD) (fun j acc S2 => S2 = S ∧ acc = (plOf (fs.take j)).map plD) ⟨rfl, rfl⟩ ?_ ?_⟩
    · rintro j x acc S2 hx ⟨rfl, rfl⟩
      obtain ⟨f, hf, rfl⟩ := map_at hx
      refine ⟨by unfold plOf; rw [List.length_map, List.length_map, List.length_take, sizeLine_eq]; omega, 2, rfl, sl_t ⟨rfl, ?_⟩⟩
      rw [tk1 hf]
      unfold plOf
      rw [List.map_append, List.map_append]
      rfl
    · rintro j acc S2 hj ⟨rfl, rfl⟩
      rw [List.length_map] at hj
      rw [List.take_of_length_le hj]
      refine fun O nO => ⟨_, _, _, rfl, ?_⟩
      obtain ⟨o1, o2⟩ := sp.ne nO
      refine ⟨fun z δ S3 => ∃ (pl : Pl) (st : Nat) (os : List Bool) (r7 r8 : Option D), δ = [some (.ref p), some (prD ks ps), some (stD fs c m), some (.int (k : Nat)), some (.fl (pl.map plD)), some (.ref O), some (.int (st : Nat)), r7, r8] ∧ PlOk ps pl ∧ pl.length ≤ 10 + st ∧ st + z = k ∧ os.length ≤ st ∧
        S3 O = some (.lst (os.map D.bl)) ∧ Spr S3 p a (n + z) ∧ ∀ b, b ≠ p → b ≠ a → b ≠ O → S3 b = S2 b, ⟨k, plOf fs, 0, [], none, none, rfl, okl, by unfold plOf; rw [List.length_map]; omega, by omega, Nat.le_refl _, up_same, (sp.up o1 o2).mono (by omega), fun b _ _ b3 => up_ne b3⟩, ?_⟩
      rintro z δ S3 ⟨pl, st, os, r7, r8, rfl, ok2, ln, hz, lo, hO, sp3, off⟩
      refine ⟨fun c S4 => S4 = S3 ∧ (c = true → pl ≠ [] ∧ st < k), ?_, ?_⟩
      · refine ⟨_, rfl, eq_nil (k := 1) (cmp ok2) ⟨_, rfl, ?_⟩⟩
        cases hp : pl with
        | nil => exact brF rfl ⟨rfl, fun z => (nomatch z)⟩
        | cons x l => exact brT rfl ⟨_, rfl, _, rfl, _, rfl, rfl, fun h => ⟨fun e => (nomatch e), by have := of_decide_eq_true h; omega⟩⟩
      · rintro b S4 ⟨rfl, hb⟩
        cases b with
        | false =>
          refine brF rfl ⟨_, rfl, _, rfl, tpl_l (ls_l hO) (rt_sub (S1 := del S4 O) sub_del (q st os _ (by omega) (by omega) ((sp3.mono (by omega)).del o1 o2) fun b b1 b2 => ?_))⟩
          by_cases e : b = O
          · rw [e, del_same, nO]
          · rw [del_ne e, off b b1 b2 e]
        | true =>
          obtain ⟨ne, hlt⟩ := hb rfl
          have next : ∀ (b : Bool) (os' : List Bool) (S5 : Sto) (r7 : Option D), os'.length ≤ st + 1 → S5 O = some (.lst (os'.map D.bl)) → Spr S5 p a (n + (z - 1)) → (∀ b, b ≠ p → b ≠ a → b ≠ O → S5 b = S2 b) →
              sp__law_onward [prD ks ps, .fl (pl.map plD), .bl b] S5 (fun x S1 => ∃ d, ([some (.ref p), some (prD ks ps), some (stD fs c m), some (.int (k : Nat)), some (.fl (pl.map plD)), some (.ref O), some (.int (st : Nat)), r7, some (.bl b)] : DSt)[6]? = some (some d) ∧ addD false d (.int 1) S1 fun x_1 S1 => ∃ d e, [x, x_1] = [d, e] ∧ ∃ m', m' < z ∧
                ∃ (pl : Pl) (st : Nat) (os : List Bool) (r7' r8 : Option D), (([some (.ref p), some (prD ks ps), some (stD fs c m), some (.int (k : Nat)), some (.fl (pl.map plD)), some (.ref O), some (.int (st : Nat)), r7, some (.bl b)] : DSt).set 4 (some d)).set 6 (some e) = [some (.ref p), some (prD ks ps), some (stD fs c m), some (.int (k : Nat)), some (.fl (pl.map plD)), some (.ref O), some (.int (st : Nat)), r7', r8] ∧ PlOk ps pl ∧ pl.length ≤ 10 + st ∧ st + m' = k ∧ os.length ≤ st ∧
                  S1 O = some (.lst (os.map D.bl)) ∧ Spr S1 p a (n + m') ∧ ∀ b, b ≠ p → b ≠ a → b ≠ O → S1 b = S2 b) X0 := fun b os' S5 r7 h1 h2 h3 h4 =>
            ⟨ks, ps, pl, b, rfl, okp, ok2, ne, by omega, _, rfl, add_i ⟨_, _, rfl, z - 1, by omega, stepP ps pl b, st + 1, os', _, _, rfl, step_ok okp ok2 _, by have := step_len ps pl b; omega, by omega, h1, h2, h3, h4⟩⟩
          refine brT rfl ⟨_, rfl, _, rfl, ks, ps, pl, rfl, okp, ok2, ne, _, rfl, ?_⟩
          cases hT : isT ps pl with
          | true =>
            refine brT rfl ⟨_, rfl, p, a, n + (z - 1), 2, rfl, by decide, by decide, sp3.mono (by omega), fun t S5 t0 t1 sp5 of5 => ?_⟩
            have hO5 : S5 O = some (.lst (os.map D.bl)) := by rw [of5 O o1 o2]; exact hO
            refine ⟨fun δ' S6 => δ' = [some (.ref p), some (prD ks ps), some (stD fs c m), some (.int (k : Nat)), some (.fl (pl.map plD)), some (.ref O), some (.int (st : Nat)), r7, some (.bl (xor false (decide (t = 1))))] ∧ S6 O = some (.lst ((os ++ [xor false (decide (t = 1))]).map D.bl)) ∧ Spr S6 p a (n + (z - 1)) ∧ ∀ b, b ≠ p → b ≠ a → b ≠ O → S6 b = S2 b, ?_, ?_⟩
            · refine ⟨_, rfl, _, rfl, ks, ps, pl, rfl, okp, ok2, ne, tru_b ?_⟩
              rw [hT]
              exact brT rfl ⟨_, rfl, ty_l hO5, _, rfl, app_of hO5 (by rw [List.length_map, sizeLine_eq]; omega) ⟨rfl, by rw [up_same, List.map_append]; rfl, sp5.up o1 o2, fun b b1 b2 b3 => by rw [up_ne b3, of5 b b1 b2, off b b1 b2 b3]⟩⟩
            · rintro δ' S6 ⟨rfl, h2, h3, h4⟩
              exact ⟨_, rfl, _, rfl, _, rfl, next _ _ S6 r7 (by rw [List.length_append]; simp; omega) h2 h3 h4⟩
          | false =>
            refine brF rfl ⟨fun δ' S6 => δ' = [some (.ref p), some (prD ks ps), some (stD fs c m), some (.int (k : Nat)), some (.fl (pl.map plD)), some (.ref O), some (.int (st : Nat)), r7, some (.bl false)] ∧ S6 = S4, ?_, ?_⟩
            · refine ⟨_, rfl, _, rfl, ks, ps, pl, rfl, okp, ok2, ne, tru_b ?_⟩
              rw [hT]
              exact brF rfl ⟨rfl, rfl⟩
            · rintro δ' S6 ⟨rfl, rfl⟩
              exact ⟨_, rfl, _, rfl, _, rfl, next _ os S6 r7 (by omega) hO (sp3.mono (by omega)) off⟩
end K19


namespace K19
open PySem L2 PyProof.Rows DL
/-- a value to be judged, in a store -/
def ItOk (S : Sto) (d : D) : Prop := (Vl d ∧ pur d = true ∧ shOk (toPy d) ∧ (∀ xs, d = .tup xs → xs.length ≤ 100000 ∧ ∀ ys, .tup ys ∈ xs → ys.length ≤ 5000 ∧ ∀ y ∈ ys, Cm 10 y)) ∨ ∃ p, d = .ref p ∧ S p = some (.dk [])
/-- small data, level by level -/
structure Lv (k w : Nat) (d : D) : Prop where
  v : Vl d
  s : Sm k w d
  t : ∀ ys, d = .tup ys → ys.length ≤ 100 ∧ ∀ y ∈ ys, Cm 10 y
theorem Lv.int {i : Int} (h : i.natAbs < 10 ^ 12) : Lv 1 40 (.int i) := ⟨.int i, Sm.int h (by decide), fun ys e => nomatch e⟩
theorem Lv.bl {b : Bool} : Lv 1 40 (.bl b) := ⟨.bl b, Sm.bl, fun ys e => nomatch e⟩
theorem Lv.non : Lv 1 40 .non := ⟨.non, Sm.non, fun ys e => nomatch e⟩
theorem Lv.str {z : Str} (h : PyData.strOk z = true ∧ z.length ≤ 40) : Lv 1 40 (.str z) := ⟨.str z, Sm.str h.1 h.2, fun ys e => nomatch e⟩
theorem Lv.mono {k w k' w' : Nat} {d : D} (h : Lv k w d) (a : k ≤ k') (b : w ≤ w') : Lv k' w' d := ⟨h.v, h.s.mono a b, h.t⟩
theorem Lv.tup {k w : Nat} (n : Nat) {ds : List D} (h : ∀ d ∈ ds, Lv k w d) (hn : ds.length ≤ n) (hk : k ≤ 10 := by decide) (h1 : n ≤ 100 := by decide) : Lv (k + 1) (n * (w + 1)) (.tup ds) :=
  ⟨.tup ds fun d hd => (h d hd).v, Sm.tup (fun d hd => (h d hd).s) hn, fun ys e => by cases e; exact ⟨Nat.le_trans hn h1, fun y hy => (Cm.of (h y hy).s).mono hk⟩⟩
theorem Lv.fl {k w : Nat} (n : Nat) {ds : List D} (h : ∀ d ∈ ds, Lv k w d) (hn : ds.length ≤ n) : Lv (k + 1) (n * (w + 1)) (.fl ds) :=
  ⟨.fl ds fun d hd => (h d hd).v, Sm.fl (fun d hd => (h d hd).s) hn, fun ys e => nomatch e⟩
theorem lv1 {k w : Nat} {a : D} (h : Lv k w a) : ∀ d ∈ [a], Lv k w d := fun d hd => by rw [List.mem_singleton.mp hd]; exact h
theorem lvc {k w : Nat} {a : D} {l : List D} (h : Lv k w a) (t : ∀ d ∈ l, Lv k w d) : ∀ d ∈ a :: l, Lv k w d := fun d hd => (List.mem_cons.mp hd).elim (fun e => e ▸ h) (t d)
theorem it_at {k w : Nat} {S : Sto} {d : D} (h : Lv k w d) (nt : ∀ xs, d ≠ .tup xs) (hk : k ≤ 64 := by decide) (hw : w ≤ 2 ^ 20 := by decide) : ItOk S d := .inl ⟨h.v, h.s.p, h.s.shows hk hw, fun xs e => absurd e (nt xs)⟩
theorem it_tup {k w : Nat} (n : Nat) {S : Sto} {ds : List D} (h : ∀ d ∈ ds, Lv k w d) (hn : ds.length ≤ n) (h1 : n ≤ 100 := by decide) (hk : k + 1 ≤ 64 := by decide) (hw : n * (w + 1) ≤ 2 ^ 20 := by decide) : ItOk S (.tup ds) := by
  have s : Sm (k + 1) (n * (w + 1)) (.tup ds) := Sm.tup (fun d hd => (h d hd).s) hn
  refine .inl ⟨.tup ds fun d hd => (h d hd).v, s.p, s.shows hk hw, fun xs e => ?_⟩
  cases e
  refine ⟨Nat.le_trans hn (Nat.le_trans h1 (by decide)), fun ys hy => ?_⟩
  obtain ⟨a, b⟩ := (h _ hy).t ys rfl
  exact ⟨Nat.le_trans a (by decide), b⟩
/-- a way of that sort -/
theorem it_pair {S : Sto} {x : D} {bs : List D} (hx : Lv 1 40 x) (hb : ∀ d ∈ bs, Lv 1 40 d) (hl : bs.length ≤ 90) : ItOk S (.tup [x, .tup bs]) :=
  it_tup (k := 2) (w := 90 * 41) 2 (lvc (hx.mono (by decide) (by decide)) (lv1 (Lv.tup 90 hb hl))) (Nat.le_refl _)
theorem lv_bs (os : List Bool) : ∀ d ∈ os.map D.bl, Lv 1 40 d := fun d hd => by
  obtain ⟨b, _, rfl⟩ := List.mem_map.mp hd
  exact Lv.bl
theorem lsb : ∀ os : List Bool, PyData.leavesShortAll 50 (toPys (os.map D.bl)) = true
  | [] => by unfold toPys; simp [PyData.leavesShortAll]
  | b :: os => by
    unfold toPys toPy
    have e : PyData.leavesShort 50 (.bool b) = true := by cases b <;> decide +kernel
    simp only [List.map_cons]
    simp only [PyData.leavesShortAll, e, Bool.true_and]
    exact lsb os
theorem it_big {S : Sto} (os : List Bool) (hl : os.length ≤ 60) : ItOk S (.tup [.int (10 ^ 39), .tup (os.map D.bl)]) := by
  have b := Lv.tup 60 (lv_bs os) (by rw [List.length_map]; exact hl)
  have s := b.s
  refine .inl ⟨.tup _ fun d hd => ?_, ?_, ⟨?_, ?_, ?_, ?_⟩, fun xs e => ?_⟩
  · simp only [List.mem_cons, List.not_mem_nil, or_false] at hd
    rcases hd with rfl | rfl
    · exact .int _
    · exact b.v
  · unfold pur purs pur purs
    rw [s.p]
    rfl
  · unfold toPy toPys toPy toPys toPys
    simp only [PyData.showable, PyData.showableAll, s.s, Bool.and_true]
    decide +kernel
  · unfold toPy toPys toPy toPys toPys
    simp only [PyData.depth, PyData.depthAll]
    have := s.k
    omega
  · have h := PyData.shown_le 50 (by decide) (toPy (.tup [.int (10 ^ 39), .tup (os.map D.bl)])) ?_
    · refine Nat.le_trans h ?_
      have w := s.w
      unfold toPy toPys toPy toPys toPys
      simp only [PyData.weight, PyData.weightAll]
      have e : (if ((10 : Int) ^ 39 == 0) = true then 0 else ((10 : Int) ^ 39).natAbs.log2 + 1) ≤ 200 := by decide +kernel
      generalize (if ((10 : Int) ^ 39 == 0) = true then 0 else ((10 : Int) ^ 39).natAbs.log2 + 1) = v at e
      rw [sizeLine_eq]
      omega
    · unfold toPy toPys toPy toPys toPys
      have z := lsb os
      have e : PyData.leavesShort 50 (.int (10 ^ 39)) = true := by decide +kernel
      unfold toPy
      simp only [PyData.leavesShort, PyData.leavesShortAll] at e ⊢
      rw [e, z]
      rfl
  · unfold toPy toPys toPy toPys toPys
    simp only [PyData.hasDict, PyData.hasDictAll, s.h]
    rfl
  · cases e
    refine ⟨by show 2 ≤ 100000; decide, fun ys hy => ?_⟩
    simp only [List.mem_cons, List.not_mem_nil, or_false] at hy
    rcases hy with e | e
    · cases e
    · obtain ⟨a1, a2⟩ := b.t ys e.symm
      exact ⟨Nat.le_trans a1 (by decide), a2⟩
theorem eqv_nilT (xs : List D) : PyData.eqv (toPy (.tup xs)) (toPy (.tup [])) = xs.isEmpty := by
  cases xs with
  | nil => unfold toPy; unfold toPys; simp only [PyData.eqv, PyData.eqvAll]; rfl
  | cons x xs => unfold toPy; unfold toPys; simp only [PyData.eqv, PyData.eqvAll]; rfl
def Pi (d : D) : Prop := ∀ S, ItOk S d
theorem pi1 {a : D} (h : Pi a) : ∀ d ∈ [a], Pi d := fun d hd => by rw [List.mem_singleton.mp hd]; exact h
theorem pic {a : D} {l : List D} (h : Pi a) (t : ∀ d ∈ l, Pi d) : ∀ d ∈ a :: l, Pi d := fun d hd => (List.mem_cons.mp hd).elim (fun e => e ▸ h) (t d)
theorem pia {l m : List D} (h : ∀ d ∈ l, Pi d) (t : ∀ d ∈ m, Pi d) : ∀ d ∈ l ++ m, Pi d := fun d hd => (List.mem_append.mp hd).elim (h d) (t d)
theorem dig (n : Nat) (h : n ≤ 40) : PyData.strOk (Str.ofString (toString (n : Int))) = true ∧ (Str.ofString (toString (n : Int))).length ≤ 40 := by
  have k : ∀ n ∈ List.range 41, PyData.strOk (Str.ofString (toString (n : Int))) = true ∧ (Str.ofString (toString (n : Int))).length ≤ 40 := by decide +kernel
  exact k n (List.mem_range.mpr (by omega))
def sp__law_bent : SpD := fun ds S Q _ => ∃ (p a : Addr) (n : Nat) (st : Nat) (os : List Bool), ds = [.ref p, .tup [.int (st : Nat), .tup (os.map D.bl)]] ∧ st ≤ 40 ∧ os.length ≤ 40 ∧ Spr S p a (n + 10) ∧
  ∀ (its : List D) (S' : Sto), its.length ≤ 100 → (∀ d ∈ its, ItOk S' d) → Spr S' p a n → Q (.fl its) S'
theorem ok__law_bent {P : Program} {w : World} {K : PySem.W.Frag} {mg : Str → Option Value} {base : Heap} (T : Txt K mg) (C__law_draw : Cal P w K mg base 1 "_law_draw" s__law_draw ["deck", "count"] sp__law_draw) {ff : Addr} {fd : FuncData} (F : Fun K "_law_bent" "_law_bent" s__law_bent ff fd) (mf : mg "_law_bent" = some (.ref ff)) : Cal P w K mg base 2 "_law_bent" s__law_bent ["deck", "trip"] sp__law_bent := by
  refine ⟨ff, fd, okD F sc__law_bent (fun ds S Q E h => ?len) (fun cdv A outer s H E ds S Q E' hcd hr h => ⟨_, (dss_cons (ds_asg (de_var 1) (dg_tup (n := 2) rfl (dgs_cons (dg_name 2 sc__law_bent.nd) (dgs_cons (dg_name 3 sc__law_bent.nd) dgs_nil))))
      (dss_cons (ds_set 4 sc__law_bent.nd (de_lst (da_cons (de_var 1) (da_cons (de_tup (da_cons (de_op (od_add false) (de_var 2) de_int) (da_cons (de_var 3) da_nil))) (da_cons (de_tup (da_cons (de_op od_sub (de_var 2) de_int) (da_cons (de_var 3) da_nil))) (da_cons (de_tup (da_cons (de_var 2) (da_cons (de_op (od_add false) (de_var 3) (de_tup (da_cons de_bl da_nil))) da_nil))) (da_cons (de_tup (da_cons de_int (da_cons (de_tup da_nil) da_nil))) da_nil)))))))
      (dss_cons (ds_set 4 sc__law_bent.nd (de_op (od_add true) (de_var 4) (de_lf (da_cons (de_tup (da_cons (de_op (od_add false) (de_var 2) de_int) (da_cons (de_op (od_add false) (de_var 3) (de_tup (da_cons de_bl da_nil))) da_nil))) (da_cons (de_tup (da_cons (de_var 2) (da_cons (de_slice (xd_slice false) (de_var 3) do_none (do_some (de_un ud_neg de_int))) da_nil))) (da_cons (de_tup (da_cons (de_op od_sub (de_var 2) de_int) (da_cons (de_slice (xd_slice false) (de_var 3) do_none (do_some (de_un ud_neg de_int))) da_nil))) (da_cons (de_tup (da_cons (de_var 2) da_nil)) da_nil)))))))
      (dss_cons (ds_set 4 sc__law_bent.nd (de_op (od_add true) (de_var 4) (de_lf (da_cons (de_callTy (cd_list false) (by rfl) T.nb_list (da_cons (de_var 1) da_nil)) (da_cons (de_tup (da_cons (de_var 2) (da_cons (de_callTy (cd_list false) (by rfl) T.nb_list (da_cons (de_var 3) da_nil)) da_nil))) (da_cons (de_op (od_add false) (de_var 1) (de_tup (da_cons (de_tup da_nil) da_nil))) (da_cons (de_tup (da_cons (de_callTy cd_strN (by rfl) T.nb_str (da_cons (de_var 2) da_nil)) (da_cons (de_var 3) da_nil))) (da_cons (de_tup (da_cons (de_un ud_neg de_int) (da_cons (de_tup da_nil) da_nil))) da_nil))))))))
      (dss_cons (ds_set 4 sc__law_bent.nd (de_op (od_add true) (de_var 4) (de_lf (da_cons (de_tup (da_cons (de_cmp (od_eq hr) (de_var 2) de_int) (da_cons (de_var 3) da_nil))) (da_cons (de_tup (da_cons (de_op od_pow de_int de_int) (da_cons (de_var 3) da_nil))) da_nil)))))
      (dss_cut (ds_if (dt_cmp (od_ne hr) (de_var 3) (de_tup da_nil)) (dss_cons (ds_set 5 sc__law_bent.nd (de_c C__law_draw hr (da_cons (de_var 0) (da_cons (de_callB cd_len (by rfl) T.nb_len (da_cons (de_var 3) da_nil)) da_nil))))
      (dss_one (ds_for PassesOwn.never rfl (di_tup (de_tup (da_cons (de_not (de_ix (xd_ix hr) (de_var 3) (de_var 5))) (da_cons (de_callTy cd_int1 (by rfl) T.nb_int (da_cons (de_ix (xd_ix hr) (de_var 3) (de_var 5)) da_nil)) (da_cons de_non da_nil))))) (dg_name 6 sc__law_bent.nd) (dss_one (ds_expr (de_m PySem.F.plainAttrs_list PySem.F.slot_list_append PySem.F.type_list_append md_append (de_var 4) (da_cons (de_tup (da_cons (de_var 2) (da_cons (de_op (od_add false) (de_op (od_add false) (de_slice (xd_slice false) (de_var 3) do_none (do_some (de_var 5))) (de_tup (da_cons (de_var 6) da_nil))) (de_slice (xd_slice false) (de_var 3) (do_some (de_op (od_add false) (de_var 5) de_int)) do_none)) da_nil))) da_nil))))))) dss_nil)
      (dss_one (ds_ret (de_op (od_add false) (de_var 4) (de_lf (da_cons de_non (da_cons de_bl (da_cons de_int (da_cons de_str (da_cons (de_tup da_nil) (da_cons de_dk (da_cons (de_tup (da_cons (de_tup da_nil) (da_cons de_int da_nil))) (da_cons (de_tup (da_cons (de_var 3) (da_cons (de_var 2) da_nil))) (da_cons (de_tup (da_cons (de_tup (da_cons (de_var 2) (da_cons (de_var 3) da_nil))) da_nil)) da_nil))))))))))))))))))), ?run⟩), F.binds (ps := ["deck", "trip"]) fun _ _ _ _ _ _ us hl => match us, hl with | [_, _], _ => rfl, mf, F⟩
  case len => obtain ⟨p, a, n, st, os, rfl, _⟩ := h; rfl
  case run =>
    obtain ⟨p, a, n, st, os, rfl, s40, o40, sp, q⟩ := h
    simp only [dVar, dC, dOp, dUn, dChain, dTr, dB, dAnd, dOr, dNot, dIf, dAndV, dOrV, dNotV, dNil, dCons, dTup, dLst, dLf, dNext, dSeq, dBreak, dCont, dDrop, dRet, dRetN, dIfS, gdName, gdNil, gdCons, gdTup, gdSub, dAsg, dPar, dCall, dCallK, dCB, dM0, dM, dGet1, dGet2, dDk, dDt, dPart, dNoPart, dSlice, dAug, dYes, dSort2, revD, iTupD, iLstD, iLf, iLw, iRange1, iRange2, iRange3, iEnumD, iZipD, iZipMD, iStrD, dGix, dDc, dIsi, dSortSet, dLenSet, dDlit, gdLst, dFor, dWhile, dLc, dLcM, dFld, dFldSet, dFldAdd, dMeth, dMake, dPar3, dCut, dTcut, wipeD, bodyE, startD, List.map_cons, List.map_nil, List.length_cons, List.length_nil, List.replicate_succ, List.replicate_zero, List.cons_append, List.nil_append, Nat.reduceAdd, Nat.reduceSub, Nat.zero_add, List.getElem?_cons_zero, List.getElem?_cons_succ, List.set_cons_zero, List.set_cons_succ, Option.some.injEq, exists_eq_left', exists_eq_left, if_true, sizeLine_eq, Nat.reduceLeDiff, Nat.reduceLT, Nat.zero_le, true_and, and_true, Bool.false_eq_true, if_false]
    have hB := lv_bs os
    have lB : (os.map D.bl).length ≤ 40 := by rw [List.length_map]; exact o40
    obtain ⟨B, eB⟩ : ∃ B : List D, B = os.map D.bl := ⟨_, rfl⟩
    have hbl : ∀ d ∈ B, ∃ b, d = .bl b := fun d hd => by
      rw [eB] at hd
      obtain ⟨b, _, rfl⟩ := List.mem_map.mp hd
      exact ⟨b, rfl⟩
    have big : ∀ S, ItOk S (.tup [.int (10 ^ 39), .tup B]) := fun S => by rw [eB]; exact it_big os (by omega)
    rw [← eB] at hB lB ⊢
    have sz : (1000 : Nat) ≤ sizeLine := by decide
    have hcut : ∀ lo hi, ∀ d ∈ cutD B lo hi, Lv 1 40 d := fun lo hi d hd => hB d (cutD_mem hd)
    have lcut : ∀ lo hi, (cutD B lo hi).length ≤ 40 := fun lo hi => Nat.le_trans (cutD_len _ _ _) lB
    have iS : ∀ z : Int, z.natAbs < 10 ^ 12 → Lv 1 40 (.int z) := fun z h => Lv.int h
    have apl : ∀ {l m : List D} {w : Nat}, (∀ d ∈ l, Lv 1 40 d) → (∀ d ∈ m, Lv 1 40 d) → ∀ d ∈ l ++ m, Lv 1 40 d := fun {l m w} h t d hd => (List.mem_append.mp hd).elim (h d) (t d)
    have p5 : ∀ d ∈ [D.tup [.int (st : Nat), .tup B], .tup [.int ((st : Nat) + 1), .tup B], .tup [.int ((st : Nat) - 1), .tup B], .tup [.int (st : Nat), .tup (B ++ [.bl true])], .tup [.int 0, .tup []]], Pi d :=
      pic (fun S => it_pair (iS _ (by omega)) hB (by omega)) (pic (fun S => it_pair (iS _ (by omega)) hB (by omega)) (pic (fun S => it_pair (iS _ (by omega)) hB (by omega)) (pic (fun S => it_pair (iS _ (by omega)) (apl (w := 0) hB (lv1 Lv.bl)) (by rw [List.length_append]; simp; omega)) (pi1 fun S => it_pair (iS _ (by decide)) (fun d hd => by cases hd) (by decide)))))
    have p4 : ∀ d ∈ [D.tup [.int ((st : Nat) + 1), .tup (B ++ [.bl false])], .tup [.int (st : Nat), .tup (cutD B none (some (-1)))], .tup [.int ((st : Nat) - 1), .tup (cutD B none (some (-1)))], .tup [.int (st : Nat)]], Pi d :=
      pic (fun S => it_pair (iS _ (by omega)) (apl (w := 0) hB (lv1 Lv.bl)) (by rw [List.length_append]; simp; omega)) (pic (fun S => it_pair (iS _ (by omega)) (hcut _ _) (Nat.le_trans (lcut _ _) (by decide))) (pic (fun S => it_pair (iS _ (by omega)) (hcut _ _) (Nat.le_trans (lcut _ _) (by decide))) (pi1 fun S => it_tup 1 (lv1 (iS _ (by omega))) (Nat.le_refl _))))
    have tB : Lv 2 (60 * 41) (.tup B) := Lv.tup 60 hB (by omega)
    have fB : Lv 2 (60 * 41) (.fl B) := Lv.fl 60 hB (by omega)
    have iL : Lv 2 (60 * 41) (.int (st : Nat)) := (iS (st : Nat) (by omega)).mono (by decide) (by decide)
    have p3 : ∀ d ∈ [D.fl [.int (st : Nat), .tup B], .tup [.int (st : Nat), .fl B], .tup ([.int (st : Nat), .tup B] ++ [.tup []]), .tup [.str (Str.ofString (toString ((st : Nat) : Int))), .tup B], .tup [.int (-1), .tup []]], Pi d :=
      pic (fun S => it_at (Lv.fl 2 (lvc iL (lv1 tB)) (Nat.le_refl _)) (fun xs e => nomatch e)) (pic (fun S => it_tup 2 (lvc iL (lv1 fB)) (Nat.le_refl _)) (pic (fun S => it_tup 3 (lvc iL (lvc tB (lv1 ((Lv.tup (k := 1) (w := 40) 0 (ds := []) (fun d hd => by cases hd) (Nat.le_refl _)).mono (by decide) (by decide))))) (Nat.le_refl _)) (pic (fun S => it_pair (Lv.str (dig st s40)) hB (by omega)) (pi1 fun S => it_pair (iS _ (by decide)) (fun d hd => by cases hd) (by decide)))))
    have p2 : ∀ b : Bool, ∀ d ∈ [D.tup [.bl b, .tup B], .tup [.int (10 ^ 39), .tup B]], Pi d := fun b => pic (fun S => it_pair Lv.bl hB (by omega)) (pi1 big)
    have e1 : ∀ z : D, ([z] : List D).length = 1 := fun _ => rfl
    refine ⟨_, rfl, rfl, _, _, rfl, _, _, rfl, rfl, add_i (it_of trivial (add_t (by rw [e1, sizeLine_eq]; omega) fun F nF => ?_))⟩
    obtain ⟨f1, f2⟩ := sp.ne nF
    refine add_i (add_t (by rw [e1, sizeLine_eq]; omega) (ng ⟨_, rfl, sl_t (it_of trivial (ng ⟨_, rfl, sl_t (add_l (ls_l up_same) rfl (by show 5 + 4 ≤ sizeLine; decide) fun F2 nF2 => ?_)⟩))⟩))
    have sp1 := sp.up (o := MO.lst [D.tup [.int (st : Nat), .tup B], .tup [.int ((st : Nat) + 1), .tup B], .tup [.int ((st : Nat) - 1), .tup B], .tup [.int (st : Nat), .tup (B ++ [.bl true])], .tup [.int 0, .tup []]]) f1 f2
    obtain ⟨g1, g2⟩ := sp1.ne nF2
    refine ⟨_, _, rfl, rfl, brF rfl ⟨_, _, rfl, rfl, brF rfl (add_t (by show 2 + 1 ≤ sizeLine; decide) ⟨st, rfl, Nat.lt_trans (log2_12 (by omega)) (by decide), ng (add_l (ls_l up_same) rfl (by show 9 + 5 ≤ sizeLine; decide) fun F3 nF3 => ?_)⟩)⟩⟩
    have sp2 := sp1.up (o := MO.lst ([D.tup [.int (st : Nat), .tup B], .tup [.int ((st : Nat) + 1), .tup B], .tup [.int ((st : Nat) - 1), .tup B], .tup [.int (st : Nat), .tup (B ++ [.bl true])], .tup [.int 0, .tup []]] ++ [D.tup [.int ((st : Nat) + 1), .tup (B ++ [.bl false])], .tup [.int (st : Nat), .tup (cutD B none (some (-1)))], .tup [.int ((st : Nat) - 1), .tup (cutD B none (some (-1)))], .tup [.int (st : Nat)]])) g1 g2
    obtain ⟨i1, i2⟩ := sp2.ne nF3
    have eqi : ∀ {S' : Sto} {Q' : KD} {i j : Int}, Q' (.bl (xor false (decide (i = j)))) S' → eqD false (.int i) (.int j) S' Q' := fun qq => qq
    refine eqi (it_of ⟨by decide, by decide, by decide⟩ (add_l (ls_l up_same) rfl (by show 14 + 2 ≤ sizeLine; decide) fun F4 nF4 => ?_))
    have sp3 := sp2.up (o := MO.lst ([D.tup [.int (st : Nat), .tup B], .tup [.int ((st : Nat) + 1), .tup B], .tup [.int ((st : Nat) - 1), .tup B], .tup [.int (st : Nat), .tup (B ++ [.bl true])], .tup [.int 0, .tup []]] ++ [D.tup [.int ((st : Nat) + 1), .tup (B ++ [.bl false])], .tup [.int (st : Nat), .tup (cutD B none (some (-1)))], .tup [.int ((st : Nat) - 1), .tup (cutD B none (some (-1)))], .tup [.int (st : Nat)]] ++ [D.fl [.int (st : Nat), .tup B], .tup [.int (st : Nat), .fl B], .tup ([.int (st : Nat), .tup B] ++ [.tup []]), .tup [.str (Str.ofString (toString ((st : Nat) : Int))), .tup B], .tup [.int (-1), .tup []]])) i1 i2
    obtain ⟨j1, j2⟩ := sp3.ne nF4
    have X : ∃ xs : List D, xs = ([D.tup [.int (st : Nat), .tup B], .tup [.int ((st : Nat) + 1), .tup B], .tup [.int ((st : Nat) - 1), .tup B], .tup [.int (st : Nat), .tup (B ++ [.bl true])], .tup [.int 0, .tup []]] ++ [D.tup [.int ((st : Nat) + 1), .tup (B ++ [.bl false])], .tup [.int (st : Nat), .tup (cutD B none (some (-1)))], .tup [.int ((st : Nat) - 1), .tup (cutD B none (some (-1)))], .tup [.int (st : Nat)]] ++ [D.fl [.int (st : Nat), .tup B], .tup [.int (st : Nat), .fl B], .tup ([.int (st : Nat), .tup B] ++ [.tup []]), .tup [.str (Str.ofString (toString ((st : Nat) : Int))), .tup B], .tup [.int (-1), .tup []]] ++ [D.tup [.bl (xor false (decide (((st : Nat) : Int) = 1))), .tup B], .tup [.int (10 ^ 39), .tup B]]) := ⟨_, rfl⟩
    obtain ⟨xs, exs⟩ := X
    have pxs : ∀ d ∈ xs, Pi d := by
      rw [exs]
      exact pia (pia (pia p5 p4) p3) (p2 _)
    have lxs : xs.length = 16 := by rw [exs]; rfl
    have sp4 := sp3.up (o := MO.lst xs) j1 j2
    rw [exs] at sp4
    refine ⟨fun δ' S' => ∃ (xs : List D) (r5 r6 : Option D), δ' = [some (.ref p), some (.tup [.int (st : Nat), .tup B]), some (.int (st : Nat)), some (.tup B), some (.ref F4), r5, r6] ∧ S' F4 = some (.lst xs) ∧ xs.length ≤ 60 ∧ (∀ d ∈ xs, Pi d) ∧ Spr S' p a n, ?_, ?_⟩
    · refine ceq_of (k := 2) (k' := 2) (Cm.tup fun d hd => Cm.of (hB d hd).s) (Cm.tup fun d hd => by cases hd) ?_ (fun u e => nomatch e)
      rw [eqv_nilT]
      refine ⟨_, rfl, ?_⟩
      by_cases hE : B = []
      · have e0 : B.isEmpty = true := by rw [hE]; rfl
        exact brF (by rw [e0]; rfl) ⟨xs, _, _, rfl, by rw [up_same, exs]; rfl, by omega, pxs, sp4.mono (by omega)⟩
      · have l0 : 0 < B.length := List.length_pos_iff.mpr hE
        have e0 : B.isEmpty = false := by cases h : B with | nil => exact absurd h hE | cons x l => rfl
        refine brT (by rw [e0]; rfl) (len_sq rfl ⟨p, a, n + 9, _, rfl, by omega, by omega, sp4, fun t S5 t0 t1 sp5 of5 => ?_⟩)
        obtain ⟨t, rfl⟩ : ∃ j : Nat, t = j := ⟨t.toNat, by omega⟩
        have ht : t < B.length := by omega
        have hbt : B[t]? = some B[t] := List.getElem?_eq_getElem ht
        obtain ⟨b, eb⟩ := hbl _ (List.getElem_mem ht)
        rw [eb] at hbt
        have hF5 : S5 F4 = some (.lst xs) := by rw [of5 F4 j1 j2, up_same, exs]; rfl
        refine ix_sq rfl rfl (at_n hbt) ⟨b, rfl, ix_sq rfl rfl (at_n hbt) (.inl ⟨b, rfl, _, .inl rfl, ?_⟩)⟩
        have ho : ∀ d ∈ [D.bl (!b), .int (if b = true then 1 else 0), .non], Lv 1 40 d := lvc Lv.bl (lvc (Lv.int (by cases b <;> decide)) (lv1 Lv.non))
        refine fr_seq (fun i δ S' => ∃ (xs : List D) (r6 : Option D), δ = [some (.ref p), some (.tup [.int (st : Nat), .tup B]), some (.int (st : Nat)), some (.tup B), some (.ref F4), some (.int (t : Nat)), r6] ∧ S' F4 = some (.lst xs) ∧ xs.length = 16 + i ∧ i ≤ 3 ∧ (∀ d ∈ xs, Pi d) ∧ Spr S' p a n) ⟨xs, _, rfl, hF5, lxs, by decide, pxs, sp5.mono (by omega)⟩ ?_ ?_
        · rintro i x δ S' hx ⟨xs, r6, rfl, hF, lx, i3, px, sp'⟩
          have hi := (List.getElem?_eq_some_iff.mp hx).1
          have lvx := ho x (List.mem_of_getElem? hx)
          clear p5 p4 p3 p2 ho hx
          simp only [dVar, dC, dOp, dUn, dChain, dTr, dB, dAnd, dOr, dNot, dIf, dAndV, dOrV, dNotV, dNil, dCons, dTup, dLst, dLf, dNext, dSeq, dBreak, dCont, dDrop, dRet, dRetN, dIfS, gdName, gdNil, gdCons, gdTup, gdSub, dAsg, dPar, dCall, dCallK, dCB, dM0, dM, dGet1, dGet2, dDk, dDt, dPart, dNoPart, dSlice, dAug, dYes, dSort2, revD, iTupD, iLstD, iLf, iLw, iRange1, iRange2, iRange3, iEnumD, iZipD, iZipMD, iStrD, dGix, dDc, dIsi, dSortSet, dLenSet, dDlit, gdLst, dFor, dWhile, dLc, dLcM, dFld, dFldSet, dFldAdd, dMeth, dMake, dPar3, dCut, dTcut, wipeD, bodyE, startD, List.map_cons, List.map_nil, List.length_cons, List.length_nil, List.replicate_succ, List.replicate_zero, List.cons_append, List.nil_append, Nat.reduceAdd, Nat.reduceSub, Nat.zero_add, List.getElem?_cons_zero, List.getElem?_cons_succ, List.set_cons_zero, List.set_cons_succ, Option.some.injEq, exists_eq_left', exists_eq_left, if_true, sizeLine_eq, Nat.reduceLeDiff, Nat.reduceLT, Nat.zero_le, true_and, and_true, Bool.false_eq_true, if_false]
          have k1 := lcut none (some (t : Int))
          have k2 := lcut (some ((t : Int) + 1)) none
          refine ⟨ty_l hF, t, rfl, sl_t (add_t (by rw [e1, sizeLine_eq]; omega) (add_i ⟨_, rfl, sl_t (add_t (by rw [List.length_append, e1, sizeLine_eq]; omega) (app_of hF (by rw [sizeLine_eq]; omega) ⟨xs ++ [.tup [.int (st : Nat), .tup (cutD B none (some (t : Int)) ++ [x] ++ cutD B (some ((t : Int) + 1)) none)]], _, rfl, up_same, by rw [List.length_append, e1]; omega, by simp at hi; omega, pia px (pi1 fun S => it_pair (iS _ (by omega)) (apl (w := 0) (apl (w := 0) (hcut _ _) (lv1 lvx)) (hcut _ _)) (by rw [List.length_append, List.length_append, e1]; omega)), sp'.up j1 j2⟩))⟩))⟩
        · rintro i δ S' hi ⟨xs, r6, rfl, hF, lx, i3, px, sp'⟩
          exact ⟨xs, _, _, rfl, hF, by omega, px, sp'⟩
    · rintro δ' S' ⟨xs, r5, r6, rfl, hF, lx, px, sp'⟩
      refine ⟨_, rfl, fun D0 nD => ⟨_, rfl, _, rfl, _, rfl, _, rfl, ?_⟩⟩
      have ne : F4 ≠ D0 := fun e => by rw [e, nD] at hF; cases hF
      obtain ⟨d1, d2⟩ := sp'.ne nD
      have p7 : ∀ d ∈ [D.non, .bl true, .int 0, .str "", .tup [], .tup [.tup [], .int 0], .tup [.tup B, .int (st : Nat)], .tup [.tup [.int (st : Nat), .tup B]]], Pi d := by
        have t0 : Lv 2 (60 * 41) (.tup []) := (Lv.tup (k := 1) (w := 40) 0 (ds := []) (fun d hd => by cases hd) (Nat.le_refl _)).mono (by decide) (by decide)
        exact pic (fun S => it_at Lv.non (fun xs e => nomatch e)) (pic (fun S => it_at Lv.bl (fun xs e => nomatch e)) (pic (fun S => it_at (Lv.int (by decide)) (fun xs e => nomatch e)) (pic (fun S => it_at (Lv.str (by decide +kernel)) (fun xs e => nomatch e)) (pic (fun S => it_tup (k := 1) (w := 40) 0 (fun d hd => by cases hd) (Nat.le_refl _)) (pic (fun S => it_tup 2 (lvc t0 (lv1 ((Lv.int (by decide)).mono (by decide) (by decide)))) (Nat.le_refl _)) (pic (fun S => it_tup 2 (lvc tB (lv1 iL)) (Nat.le_refl _)) (pi1 fun S => it_tup 1 (lv1 (Lv.tup 2 (lvc iL (lv1 tB)) (Nat.le_refl _))) (Nat.le_refl _))))))))
      refine add_f (ls_l (by rw [up_ne ne]; exact hF)) rfl (by show xs.length + 9 ≤ _; rw [sizeLine_eq]; omega) (rt_of (q _ _ (by rw [List.length_append]; show xs.length + 9 ≤ 100; omega) (fun d hd => ?_) (sp'.up d1 d2)))
      rcases List.mem_append.mp hd with h | h
      · exact px d h _
      · by_cases e : d = .ref D0
        · rw [e]; exact .inr ⟨D0, rfl, up_same⟩
        · refine p7 d ?_ _
          simp only [List.mem_cons, List.not_mem_nil, or_false] at h ⊢
          rcases h with h | h | h | h | h | h | h | h | h <;> first | exact absurd h e | simp [h]
def sp__law_judged_right : SpD := fun ds S Q _ => ∃ (ks : D) (ps : List Pc) (fs : List Fm) (c m d : D), ds = [prD ks ps, stD fs c m, d] ∧ PrOk ps ∧ PlOk ps (plOf fs) ∧ fs.length ≤ 100 ∧ ItOk S d ∧ Q (.bl true) S
theorem ok__law_judged_right {P : Program} {w : World} {K : PySem.W.Frag} {mg : Str → Option Value} {base : Heap} (T : Txt K mg) (C_is_way : Cal P w K mg base 4 "is_way" s_is_way ["program", "state", "thing"] sp_is_way) (C__law_is_trip : Cal P w K mg base 3 "_law_is_trip" s__law_is_trip ["code", "moment", "it"] sp__law_is_trip) {ff : Addr} {fd : FuncData} (F : Fun K "_law_judged_right" "_law_judged_right" s__law_judged_right ff fd) (mf : mg "_law_judged_right" = some (.ref ff)) : Cal P w K mg base 5 "_law_judged_right" s__law_judged_right ["code", "moment", "it"] sp__law_judged_right := by
  refine ⟨ff, fd, okD F sc__law_judged_right (fun ds S Q E h => ?len) (fun cdv A outer s H E ds S Q E' hcd hr h => ⟨_, (dss_cons (ds_par 3 4 rfl sc__law_judged_right.nd (da_cons (de_callB (cd_repr2 hr) (by rfl) T.nb_repr (da_cons (de_var 2) da_nil)) (da_cons (de_callB (cd_repr2 hr) (by rfl) T.nb_repr (da_cons (de_c C__law_is_trip hr (da_cons (de_var 0) (da_cons (de_var 1) (da_cons (de_var 2) da_nil)))) da_nil)) da_nil)))
      (dss_cons (ds_set 5 sc__law_judged_right.nd (de_lf (da_cons (de_c C_is_way hr (da_cons (de_var 0) (da_cons (de_var 1) (da_cons (de_var 2) da_nil)))) (da_cons (de_ck0 C_is_way hr kw_is_way_program_state_thing (dk_cons (de_var 0) (dk_cons (de_var 1) (dk_cons (de_var 2) dk_nil)))) da_nil))))
      (dss_one (ds_ret (de_and (de_cmp (od_eq hr) (de_callB (cd_repr2 hr) (by rfl) T.nb_repr (da_cons (de_var 5) da_nil)) (de_op (od_add false) (de_op (od_add false) (de_op (od_add false) (de_op (od_add false) de_str (de_var 4)) de_str) (de_var 4)) de_str)) (de_one (de_cmp (od_eq hr) (de_callB (cd_repr2 hr) (by rfl) T.nb_repr (da_cons (de_var 2) da_nil)) (de_var 3)))))))), ?run⟩), F.binds (ps := ["code", "moment", "it"]) fun _ _ _ _ _ _ us hl => match us, hl with | [_, _, _], _ => rfl, mf, F⟩
  case len => obtain ⟨ks, ps, fs, c, m, d, rfl, _⟩ := h; rfl
  case run =>
    obtain ⟨ks, ps, fs, c, m, d, rfl, okp, okl, l100, hd, q⟩ := h
    simp only [dVar, dC, dOp, dUn, dChain, dTr, dB, dAnd, dOr, dNot, dIf, dAndV, dOrV, dNotV, dNil, dCons, dTup, dLst, dLf, dNext, dSeq, dBreak, dCont, dDrop, dRet, dRetN, dIfS, gdName, gdNil, gdCons, gdTup, gdSub, dAsg, dPar, dCall, dCallK, dCB, dM0, dM, dGet1, dGet2, dDk, dDt, dPart, dNoPart, dSlice, dAug, dYes, dSort2, revD, iTupD, iLstD, iLf, iLw, iRange1, iRange2, iRange3, iEnumD, iZipD, iZipMD, iStrD, dGix, dDc, dIsi, dSortSet, dLenSet, dDlit, gdLst, dFor, dWhile, dLc, dLcM, dFld, dFldSet, dFldAdd, dMeth, dMake, dPar3, dCut, dTcut, wipeD, bodyE, startD, List.map_cons, List.map_nil, List.length_cons, List.length_nil, List.replicate_succ, List.replicate_zero, List.cons_append, List.nil_append, Nat.reduceAdd, Nat.reduceSub, Nat.zero_add, List.getElem?_cons_zero, List.getElem?_cons_succ, List.set_cons_zero, List.set_cons_succ, Option.some.injEq, exists_eq_left', exists_eq_left, if_true, sizeLine_eq, Nat.reduceLeDiff, Nat.reduceLT, Nat.zero_le, true_and, and_true, Bool.false_eq_true, if_false]
    have hany : AnyD S d := hd.elim (fun h => .inl h.1) .inr
    have hl : ∀ xs, d = .tup xs → xs.length ≤ 100000 ∧ ∀ ys, .tup ys ∈ xs → ys.length ≤ 5000 ∧ ∀ y ∈ ys, Cm 10 y := fun xs e => by
      rcases hd with h | ⟨p, e', _⟩
      · exact h.2.2.2 xs e
      · rw [e'] at e; cases e
    have hl' : ∀ xs, d = .tup xs → xs.length ≤ 100000 ∧ ∀ ys, .tup ys ∈ xs → ys.length ≤ 5000 := fun xs e => ⟨(hl xs e).1, fun ys hy => ((hl xs e).2 ys hy).1⟩
    obtain ⟨t, ht⟩ : ∃ t : Str, ∀ {Q' : KD}, Q' (.str t) S → repD2 [d] S Q' := by
      rcases hd with h | ⟨p, rfl, e⟩
      · refine ⟨(toPy d).shown, fun {Q'} qq => .inl ⟨d, rfl, ?_⟩⟩
        rw [rsv_pur h.2.1]
        exact ⟨h.2.1, h.2.2.1, qq⟩
      · exact ⟨"{}", fun {Q'} qq => .inr ⟨p, rfl, e, qq⟩⟩
    refine ht ⟨ks, ps, fs, c, m, d, rfl, okp, okl, l100, hany, hl, ?_⟩
    have rb : ∀ (b : Bool) {Q' : KD}, Q' (.str (toPy (.bl b)).shown) S → repD2 [.bl b] S Q' := fun b {Q'} qq => .inl ⟨_, rfl, (Sm.bl (k := 1) (w := 1)).p, (Sm.bl (k := 1) (w := 1)).shows, qq⟩
    refine rb _ ⟨_, _, rfl, ks, ps, fs, c, m, d, rfl, okp, okl, l100, hany, hl', ks, ps, fs, c, m, d, rfl, okp, okl, l100, hany, hl', ?_⟩
    generalize wayD ps (plOf fs) d = b
    have s2 : Sm 2 2 (.fl [.bl b, .bl b]) := Sm.fl (k := 1) (w := 0) (n := 2) (fun d hd => by
      simp only [List.mem_cons, List.not_mem_nil, or_false] at hd
      rcases hd with rfl | rfl <;> exact Sm.bl) (by simp)
    refine .inl ⟨_, rfl, s2.p, s2.shows, ?_⟩
    have lb : (toPy (.bl b)).shown.length ≤ 5 := by cases b <;> decide +kernel
    have eq : (toPy (.fl [.bl b, .bl b])).shown = (("[" : Str) ++ (toPy (.bl b)).shown ++ (", " : Str) ++ (toPy (.bl b)).shown ++ ("]" : Str)) := by cases b <;> decide +kernel
    have fin : ∃ c_1, D.bl (xor false (decide ((toPy (.fl [.bl b, .bl b])).shown = (("[" : Str) ++ (toPy (.bl b)).shown ++ (", " : Str) ++ (toPy (.bl b)).shown ++ ("]" : Str))))) = .bl c_1 ∧ if c_1 = true then repD2 [d] S (fun x S1 => eqD false x (.str t) S1 fun d S' => ∃ d1 S1, VW d S' d1 S1 ∧ Q d1 S1) else ∃ d1 S1_1, VW (D.bl false) S d1 S1_1 ∧ Q d1 S1_1 := by
      refine ⟨_, rfl, brT (xt eq) (ht (rt_of ?_))⟩
      have e : xor false (decide (t = t)) = true := xt rfl
      rw [e]
      exact q
    have a1 : ∀ b : Bool, (("[" : Str).length + (toPy (.bl b)).shown.length ≤ 100) ∧ (((("[" : Str) ++ (toPy (.bl b)).shown).length + (", " : Str).length ≤ 100)) ∧ ((("[" : Str) ++ (toPy (.bl b)).shown ++ (", " : Str)).length + (toPy (.bl b)).shown.length ≤ 100) ∧ ((("[" : Str) ++ (toPy (.bl b)).shown ++ (", " : Str) ++ (toPy (.bl b)).shown).length + ("]" : Str).length ≤ 100) := by decide +kernel
    obtain ⟨l1, l2, l3, l4⟩ := a1 b
    have s1 : (100 : Nat) ≤ sizeLine := by decide
    exact add_s (Nat.le_trans l1 s1) (add_s (Nat.le_trans l2 s1) (add_s (Nat.le_trans l3 s1) (add_s (Nat.le_trans l4 s1) fin)))
end K19


namespace K19
open PySem L2 PyProof.Rows DL
def ring (w : Nat) : List Pc := if w = 3 then [("main", [], [.call none "q" []]), ("q", [], [.none "x", .call none "q" []])] else
  [("main", [], if w = 0 then [.jump 0] else if w = 1 then [.test "less" "x" "x" 0, .jump 0] else [.jump 1, .jump 0])]
theorem step_at {ps : List Pc} {base : Pl} {n : Str} {i : Nat} {r : Rw} (hr : (rowsOf ps n)[i]? = some r) (o : Bool) : stepP ps (base ++ [(n, i)]) o = (match r.k with
    | .ret => bump base
    | .call p => base ++ [(n, i)] ++ [(p, 0)]
    | .jump t => base ++ [(n, t)]
    | .test t => base ++ [(n, if o then t else i + 1)]
    | .oth => base ++ [(n, i + 1)]) := by
  unfold stepP
  rw [last_snoc]
  dsimp only
  rw [hr, List.dropLast_concat]
  first | done | rfl
theorem isT_at {ps : List Pc} {base : Pl} {n : Str} {i : Nat} {r : Rw} (hr : (rowsOf ps n)[i]? = some r) : isT ps (base ++ [(n, i)]) = (match r.k with | .test _ => true | _ => false) := by
  unfold isT
  rw [last_snoc]
  dsimp only
  rw [hr]
  first | done | rfl
theorem run_oth {ps : List Pc} {base p' : Pl} {n : Str} {i : Nat} {r : Rw} {os : List Bool} {k : Nat} (hr : (rowsOf ps n)[i]? = some r) (ht : (match r.k with | .test _ => true | _ => false) = false) (hs : stepP ps (base ++ [(n, i)]) false = p') (h : runT ps k p' os = some []) : runT ps (k + 1) (base ++ [(n, i)]) os = some [] := by
  rw [runT_succ, if_neg (by simp), isT_at hr, ht, if_neg Bool.false_ne_true, hs]
  exact h
theorem r0 : rowsOf (ring 0) "main" = [.jump 0] := rfl
theorem r1 : rowsOf (ring 1) "main" = [.test "less" "x" "x" 0, .jump 0] := rfl
theorem r2 : rowsOf (ring 2) "main" = [.jump 1, .jump 0] := rfl
theorem r3 : rowsOf (ring 3) "main" = [.call none "q" []] := rfl
theorem r4 : rowsOf (ring 3) "q" = [.none "x", .call none "q" []] := rfl
theorem ring0 : ∀ k, runT (ring 0) k (([] : Pl) ++ ([(("main" : Str), 0)] : Pl)) [] = some []
  | 0 => rfl
  | k + 1 => run_oth (r := .jump 0) (by rw [r0]; rfl) rfl (step_at (r := .jump 0) (by rw [r0]; rfl) false) (ring0 k)
theorem ring1 : ∀ k, runT (ring 1) k (([] : Pl) ++ ([(("main" : Str), 0)] : Pl)) (List.replicate k true) = some []
  | 0 => rfl
  | k + 1 => by
    have hr : (rowsOf (ring 1) "main")[0]? = some (.test "less" "x" "x" 0) := by rw [r1]; rfl
    rw [runT_succ, if_neg (by simp), isT_at hr, List.replicate_succ]
    show runT (ring 1) k (stepP (ring 1) (([] : Pl) ++ ([(("main" : Str), 0)] : Pl)) true) (List.replicate k true) = some []
    rw [step_at hr]
    exact ring1 k
theorem ring2 : ∀ k, runT (ring 2) k (([] : Pl) ++ ([(("main" : Str), 0)] : Pl)) [] = some [] ∧ runT (ring 2) k (([] : Pl) ++ ([(("main" : Str), 1)] : Pl)) [] = some []
  | 0 => ⟨rfl, rfl⟩
  | k + 1 => ⟨run_oth (r := .jump 1) (by rw [r2]; rfl) rfl (step_at (r := .jump 1) (by rw [r2]; rfl) false) (ring2 k).2, run_oth (r := .jump 0) (by rw [r2]; rfl) rfl (step_at (r := .jump 0) (by rw [r2]; rfl) false) (ring2 k).1⟩
theorem ring3q : ∀ k, ∀ base : Pl, runT (ring 3) k (base ++ ([(("q" : Str), 0)] : Pl)) [] = some [] ∧ runT (ring 3) k (base ++ ([(("q" : Str), 1)] : Pl)) [] = some []
  | 0, _ => ⟨rfl, rfl⟩
  | k + 1, base => ⟨run_oth (r := .none "x") (by rw [r4]; rfl) rfl (step_at (r := .none "x") (by rw [r4]; rfl) false) (ring3q k base).2, run_oth (r := .call none "q" []) (by rw [r4]; rfl) rfl (step_at (r := .call none "q" []) (by rw [r4]; rfl) false) (ring3q k (base ++ ([(("q" : Str), 1)] : Pl))).1⟩
theorem ring3 : ∀ k, runT (ring 3) k (([] : Pl) ++ ([(("main" : Str), 0)] : Pl)) [] = some []
  | 0 => rfl
  | k + 1 => run_oth (r := .call none "q" []) (by rw [r3]; rfl) rfl (step_at (r := .call none "q" []) (by rw [r3]; rfl) false) (ring3q k _).1
theorem ring_run (w k : Nat) (hw : w ≤ 3) : runT (ring w) k ([(("main" : Str), 0)] : Pl) (List.replicate (if w = 1 then k else 0) true) = some [] := by
  have hc : w = 0 ∨ w = 1 ∨ w = 2 ∨ w = 3 := by omega
  rcases hc with rfl | rfl | rfl | rfl
  · exact ring0 k
  · exact ring1 k
  · exact (ring2 k).1
  · exact ring3 k
theorem ring_way (w N : Nat) (hw : w ≤ 3) : wayD (ring w) ([(("main" : Str), 0)] : Pl) (.tup [.int (N : Nat), .tup ((List.replicate (if w = 1 then N else 0) true).map D.bl)]) = decide (N ≤ 3000) := by
  unfold wayD
  by_cases h : N ≤ 3000
  · have ha : ((List.replicate (if w = 1 then N else 0) true).map D.bl).all isB = true := by
      rw [List.all_map, List.all_eq_true]
      intro b _
      rfl
    have hb : ((List.replicate (if w = 1 then N else 0) true).map D.bl).map bOf = List.replicate (if w = 1 then N else 0) true := by
      rw [List.map_map]
      exact List.map_id _
    rw [form_ok (by omega) (by omega), if_pos ha, hb]
    dsimp only
    rw [show ((N : Nat) : Int).toNat = N by omega, ring_run w N hw, decide_eq_true h]
    rfl
  · rw [form_r (by omega), decide_eq_false h]
theorem ring_ok (w : Nat) (hw : w ≤ 3) : PrOk (ring w) := by
  have sh : ∀ x ∈ (["main", "q"] : List Str), Sh x := by
    have h : ∀ x ∈ (["main", "q"] : List Str), PyData.strOk x = true ∧ x.length ≤ 40 := by decide +kernel
    exact h
  have one : ∀ rs : List Rw, rs.length ≤ 20 → (∀ r ∈ rs, r.Ok rs.length ["main"]) → PrOk [("main", [], rs)] := fun rs l h =>
    ⟨by show 1 ≤ 6; decide, List.mem_cons_self, fun x hx => by rw [List.mem_singleton.mp hx]; exact sh _ (by simp), fun p hp => by rw [List.mem_singleton.mp hp]; exact ⟨by show 0 ≤ 4; decide, l, h⟩⟩
  have hc : w = 0 ∨ w = 1 ∨ w = 2 ∨ w = 3 := by omega
  rcases hc with rfl | rfl | rfl | rfl
  · exact one [.jump 0] (by show 1 ≤ 20; decide) fun r hr => by rw [List.mem_singleton.mp hr]; exact (by decide : 0 ≤ 1)
  · refine one [.test "less" "x" "x" 0, .jump 0] (by show 2 ≤ 20; decide) fun r hr => ?_
    simp only [List.mem_cons, List.not_mem_nil, or_false] at hr
    rcases hr with rfl | rfl
    · exact ⟨.inl rfl, by show 0 ≤ 2; decide⟩
    · exact (by decide : 0 ≤ 2)
  · refine one [.jump 1, .jump 0] (by show 2 ≤ 20; decide) fun r hr => ?_
    simp only [List.mem_cons, List.not_mem_nil, or_false] at hr
    rcases hr with rfl | rfl
    · exact (by decide : 1 ≤ 2)
    · exact (by decide : 0 ≤ 2)
  · refine ⟨by show 2 ≤ 6; decide, List.mem_cons_self, sh, fun p hp => ?_⟩
    have hp : p = ((("main" : Str), [], [Rw.call none "q" []]) : Pc) ∨ p = ((("q" : Str), [], [Rw.none "x", Rw.call none "q" []]) : Pc) := by
      rcases List.mem_cons.mp hp with h | h
      · exact .inl h
      · exact .inr (List.mem_singleton.mp h)
    have hq : ("q" : Str) ∈ (ring 3).map (·.1) := by show ("q" : Str) ∈ (["main", "q"] : List Str); simp
    rcases hp with rfl | rfl
    · exact ⟨by show 0 ≤ 4; decide, by show 1 ≤ 20; decide, fun r hr => by rw [List.mem_singleton.mp hr]; exact ⟨hq, by show 0 ≤ 4; decide⟩⟩
    · refine ⟨by show 0 ≤ 4; decide, by show 2 ≤ 20; decide, fun r hr => ?_⟩
      have hr : r = .none "x" ∨ r = .call none "q" [] := by
        rcases List.mem_cons.mp hr with h | h
        · exact .inl h
        · exact .inr (List.mem_singleton.mp h)
      rcases hr with rfl | rfl
      · trivial
      · exact ⟨hq, by show 0 ≤ 4; decide⟩
def sp__law_ring : SpD := fun ds S Q _ => ∃ (p a : Addr) (n : Nat), ds = [.ref p] ∧ Spr S p a (n + 1) ∧ ∀ (w : Nat) S', w ≤ 3 → Spr S' p a n → Off p a S S' → Q (.tup [prD (.tup []) (ring w), .int ((if w = 1 then 1 else 0 : Nat) : Int)]) S'
theorem ok__law_ring {P : Program} {w : World} {K : PySem.W.Frag} {mg : Str → Option Value} {base : Heap} (T : Txt K mg) (C__law_draw : Cal P w K mg base 1 "_law_draw" s__law_draw ["deck", "count"] sp__law_draw) {ff : Addr} {fd : FuncData} (F : Fun K "_law_ring" "_law_ring" s__law_ring ff fd) (mf : mg "_law_ring" = some (.ref ff)) : Cal P w K mg base 2 "_law_ring" s__law_ring ["deck"] sp__law_ring := by
  refine ⟨ff, fd, okD F sc__law_ring (fun ds S Q E h => ?len) (fun cdv A outer s H E ds S Q E' hcd hr h => ⟨_, (dss_cons (ds_set 1 sc__law_ring.nd (de_c C__law_draw hr (da_cons (de_var 0) (da_cons de_int da_nil))))
      (dss_cons (ds_set 2 sc__law_ring.nd (de_lf (da_cons (de_tup (da_cons (de_tup (da_cons de_str (da_cons de_int da_nil))) da_nil)) (da_cons (de_tup (da_cons (de_tup (da_cons de_str (da_cons de_str (da_cons de_str (da_cons de_int da_nil))))) (da_cons (de_tup (da_cons de_str (da_cons de_int da_nil))) da_nil))) (da_cons (de_tup (da_cons (de_tup (da_cons de_str (da_cons de_int da_nil))) (da_cons (de_tup (da_cons de_str (da_cons de_int da_nil))) da_nil))) da_nil)))))
      (dss_cons (ds_if (dt_cmp (od_eq hr) (de_var 1) de_int) (dss_cons (ds_set 3 sc__law_ring.nd (de_tup (da_cons de_str (da_cons de_non (da_cons de_str (da_cons (de_tup da_nil) da_nil))))))
      (dss_one (ds_ret (de_tup (da_cons (de_tup (da_cons (de_tup da_nil) (da_cons (de_tup (da_cons (de_tup (da_cons de_str (da_cons (de_tup da_nil) (da_cons (de_tup (da_cons (de_var 3) da_nil)) da_nil)))) (da_cons (de_tup (da_cons de_str (da_cons (de_tup da_nil) (da_cons (de_tup (da_cons (de_tup (da_cons de_str (da_cons de_str da_nil))) (da_cons (de_var 3) da_nil))) da_nil)))) da_nil))) da_nil))) (da_cons de_int da_nil)))))) dss_nil)
      (dss_one (ds_ret (de_tup (da_cons (de_tup (da_cons (de_tup da_nil) (da_cons (de_tup (da_cons (de_tup (da_cons de_str (da_cons (de_tup da_nil) (da_cons (de_ix (xd_ix hr) (de_var 2) (de_var 1)) da_nil)))) da_nil)) da_nil))) (da_cons (de_callTy cd_int1 (by rfl) T.nb_int (da_cons (de_cmp (od_eq hr) (de_var 1) de_int) da_nil)) da_nil)))))))), ?run⟩), F.binds (ps := ["deck"]) fun _ _ _ _ _ _ us hl => match us, hl with | [_], _ => rfl, mf, F⟩
  case len => obtain ⟨p, a, n, rfl, _⟩ := h; rfl
  case run =>
    obtain ⟨p, a, n, rfl, sp, q⟩ := h
    simp only [dVar, dC, dOp, dUn, dChain, dTr, dB, dAnd, dOr, dNot, dIf, dAndV, dOrV, dNotV, dNil, dCons, dTup, dLst, dLf, dNext, dSeq, dBreak, dCont, dDrop, dRet, dRetN, dIfS, gdName, gdNil, gdCons, gdTup, gdSub, dAsg, dPar, dCall, dCallK, dCB, dM0, dM, dGet1, dGet2, dDk, dDt, dPart, dNoPart, dSlice, dAug, dYes, dSort2, revD, iTupD, iLstD, iLf, iLw, iRange1, iRange2, iRange3, iEnumD, iZipD, iZipMD, iStrD, dGix, dDc, dIsi, dSortSet, dLenSet, dDlit, gdLst, dFor, dWhile, dLc, dLcM, dFld, dFldSet, dFldAdd, dMeth, dMake, dPar3, dCut, dTcut, wipeD, bodyE, startD, List.map_cons, List.map_nil, List.length_cons, List.length_nil, List.replicate_succ, List.replicate_zero, List.cons_append, List.nil_append, Nat.reduceAdd, Nat.reduceSub, Nat.zero_add, List.getElem?_cons_zero, List.getElem?_cons_succ, List.set_cons_zero, List.set_cons_succ, Option.some.injEq, exists_eq_left', exists_eq_left, if_true, sizeLine_eq, Nat.reduceLeDiff, Nat.reduceLT, Nat.zero_le, true_and, and_true, Bool.false_eq_true, if_false]
    refine ⟨p, a, n, 4, rfl, by decide, by decide, sp, fun w S1 w0 w1 sp1 of1 => ⟨_, rfl, ?_⟩⟩
    obtain ⟨w, rfl⟩ : ∃ j : Nat, w = j := ⟨w.toNat, by omega⟩
    have qq := q w S1 (by omega) sp1 of1
    have hc : w = 0 ∨ w = 1 ∨ w = 2 ∨ w = 3 := by omega
    rcases hc with rfl | rfl | rfl | rfl
    · exact brF (xf (by decide)) (ix_sq rfl rfl (at_n (i := 0) rfl) (.inl ⟨false, rfl, rt_of qq⟩))
    · exact brF (xf (by decide)) (ix_sq rfl rfl (at_n (i := 1) rfl) (.inl ⟨true, rfl, rt_of qq⟩))
    · exact brF (xf (by decide)) (ix_sq rfl rfl (at_n (i := 2) rfl) (.inl ⟨false, rfl, rt_of qq⟩))
    · exact brT (xt rfl) (rt_of qq)
def sp__law_rings_right : SpD := fun ds S Q _ => ∃ (p a : Addr) (n : Nat), ds = [.ref p] ∧ Spr S p a (n + 10) ∧ ∀ S', Q (.bl true) S'
theorem ok__law_rings_right {P : Program} {w : World} {K : PySem.W.Frag} {mg : Str → Option Value} {base : Heap} (T : Txt K mg) (C__law_ring : Cal P w K mg base 2 "_law_ring" s__law_ring ["deck"] sp__law_ring) (C__law_draw : Cal P w K mg base 1 "_law_draw" s__law_draw ["deck", "count"] sp__law_draw) (C_is_way : Cal P w K mg base 4 "is_way" s_is_way ["program", "state", "thing"] sp_is_way) {ff : Addr} {fd : FuncData} (F : Fun K "_law_rings_right" "_law_rings_right" s__law_rings_right ff fd) (mf : mg "_law_rings_right" = some (.ref ff)) : Cal P w K mg base 5 "_law_rings_right" s__law_rings_right ["deck"] sp__law_rings_right := by
  refine ⟨ff, fd, okD F sc__law_rings_right (fun ds S Q E h => ?len) (fun cdv A outer s H E ds S Q E' hcd hr h => ⟨_, (dss_cons (ds_asg (de_c C__law_ring hr (da_cons (de_var 0) da_nil)) (dg_tup (n := 2) rfl (dgs_cons (dg_name 1 sc__law_rings_right.nd) (dgs_cons (dg_name 2 sc__law_rings_right.nd) dgs_nil))))
      (dss_cons (ds_setLc 3 [("name", 4)] rfl sc__law_rings_right.nd (di_lst (de_lf (da_cons de_str da_nil))) (blkOk_by (N := ["deck", "code", "share", "spots", "name", "moment", "told", "many"]) (sc := defScope s__law_rings_right) (by decide +kernel)) (fun _ _ _ _ _ => (pg_name (i := 4) sc__law_rings_right.nd rfl (Or.inl rfl) (Or.inr rfl))) (fun N => (tg_name (vs := [4]) (i := 4) (by decide))) (fun _ _ _ _ _ => pts_one (dt_cmp (od_eq hr) (de_var 2) de_int)) (fun _ _ _ _ _ => (de_tup (da_cons (de_var 4) (da_cons de_non da_nil)))))
      (dss_cons (ds_set 5 sc__law_rings_right.nd (de_tup (da_cons (de_tup (da_cons (de_tup (da_cons de_str (da_cons de_int (da_cons (de_callTy cd_tuple (by rfl) T.nb_tuple (da_cons (de_var 3) da_nil)) da_nil)))) da_nil)) (da_cons (de_tup da_nil) (da_cons (de_c C__law_draw hr (da_cons (de_var 0) (da_cons de_int da_nil))) da_nil)))))
      (dss_cons (ds_setLc 6 [("many", 7)] rfl sc__law_rings_right.nd (di_tup (de_tup (da_cons de_int (da_cons de_int (da_cons de_int da_nil))))) (blkOk_by (N := ["deck", "code", "share", "spots", "name", "moment", "told", "many"]) (sc := defScope s__law_rings_right) (by decide +kernel)) (fun _ _ _ _ _ => (pg_name (i := 7) sc__law_rings_right.nd rfl (Or.inl rfl) (Or.inr rfl))) (fun N => (tg_name (vs := [7]) (i := 7) (by decide))) (fun _ _ _ _ _ => dts_nil) (fun _ _ _ _ _ => (de_c C_is_way hr (da_cons (de_var 1) (da_cons (de_var 5) (da_cons (de_tup (da_cons (de_var 7) (da_cons (de_op od_mulT (de_tup (da_cons de_bl da_nil)) (de_op od_mul (de_var 7) (de_var 2))) da_nil))) da_nil))))))
      (dss_one (ds_ret (de_cmp (od_eq hr) (de_var 6) (de_lf (da_cons de_bl (da_cons de_bl (da_cons de_bl da_nil))))))))))), ?run⟩), F.binds (ps := ["deck"]) fun _ _ _ _ _ _ us hl => match us, hl with | [_], _ => rfl, mf, F⟩
  case len => obtain ⟨p, a, n, rfl, _⟩ := h; rfl
  case run =>
    obtain ⟨p, a, n, rfl, sp, q⟩ := h
    simp only [dVar, dC, dOp, dUn, dChain, dTr, dB, dAnd, dOr, dNot, dIf, dAndV, dOrV, dNotV, dNil, dCons, dTup, dLst, dLf, dNext, dSeq, dBreak, dCont, dDrop, dRet, dRetN, dIfS, gdName, gdNil, gdCons, gdTup, gdSub, dAsg, dPar, dCall, dCallK, dCB, dM0, dM, dGet1, dGet2, dDk, dDt, dPart, dNoPart, dSlice, dAug, dYes, dSort2, revD, iTupD, iLstD, iLf, iLw, iRange1, iRange2, iRange3, iEnumD, iZipD, iZipMD, iStrD, dGix, dDc, dIsi, dSortSet, dLenSet, dDlit, gdLst, dFor, dWhile, dLc, dLcM, dFld, dFldSet, dFldAdd, dMeth, dMake, dPar3, dCut, dTcut, wipeD, bodyE, startD, List.map_cons, List.map_nil, List.length_cons, List.length_nil, List.replicate_succ, List.replicate_zero, List.cons_append, List.nil_append, Nat.reduceAdd, Nat.reduceSub, Nat.zero_add, List.getElem?_cons_zero, List.getElem?_cons_succ, List.set_cons_zero, List.set_cons_succ, Option.some.injEq, exists_eq_left', exists_eq_left, if_true, sizeLine_eq, Nat.reduceLeDiff, Nat.reduceLT, Nat.zero_le, true_and, and_true, Bool.false_eq_true, if_false]
    refine ⟨p, a, n + 9, rfl, sp, fun w S1 hw sp1 of1 => ⟨_, rfl, rfl, _, _, rfl, _, _, rfl, rfl, .inl ⟨_, rfl, ?_⟩⟩⟩
    refine lc_seq (ds := [D.str "x"]) (fun i acc S' => S' = S1 ∧ i ≤ 1 ∧ acc = if i = 1 ∧ w = 1 then [.tup [.str "x", .non]] else []) ⟨rfl, by decide, rfl⟩ ?_ ?_
    · rintro i x acc S' hx ⟨rfl, h1, rfl⟩
      have hi : i = 0 := by have := (List.getElem?_eq_some_iff.mp hx).1; simp at this; exact this
      subst hi
      cases hx
      refine ⟨by show 0 < sizeLine; decide, _, rfl, ?_⟩
      by_cases e : w = 1
      · subst e
        exact brT (xt rfl) ⟨rfl, by decide, rfl⟩
      · exact brF (xf (by rw [if_neg e]; decide)) ⟨rfl, by decide, by simp [e]⟩
    · rintro i acc S' hi ⟨rfl, h1, rfl⟩
      refine tpl_l rfl ⟨p, a, n + 8, 3, rfl, by decide, by decide, sp1, fun t S2 t0 t1 sp2 of2 => ⟨_, .inl rfl, ?_⟩⟩
      have okp := ring_ok w hw
      obtain ⟨X, hX⟩ : ∃ X : D, X = .tup (if i = 1 ∧ w = 1 then [D.tup [.str "x", .non]] else []) := ⟨_, rfl⟩
      rw [← hX]
      have okl : PlOk (ring w) (plOf [(("main" : Str), 0, X)]) := PlOk.snoc (q := []) .nil (fun m k h => by simp at h) okp.m (Nat.zero_le _)
      have judge : ∀ (N : Nat) {Q' : KD}, N ≤ 3001 → 2000 ≤ N → Q' (.bl (decide (N ≤ 3000))) S2 → intD CMul (fun i j => .int (i * j)) (.int (N : Nat)) (.int ((if w = 1 then 1 else 0 : Nat) : Int)) S2 fun y S2 => mulT (.tup [.bl true]) y S2 fun x_1 S1 => sp_is_way [prD (.tup []) (ring w), .tup [.tup [.tup [.str "main", .int 0, X]], .tup [], .int t], .tup [.int (N : Nat), x_1]] S1 Q' X0 := fun N {Q'} h1 h2 qq => by
        have ek : ((N : Nat) : Int) * ((if w = 1 then 1 else 0 : Nat) : Int) = ((if w = 1 then N else 0 : Nat) : Int) := by split <;> simp
        have el : (List.replicate ((if w = 1 then N else 0 : Nat) : Int).toNat [D.bl true]).flatten = (List.replicate (if w = 1 then N else 0) true).map D.bl := by
          rw [Int.toNat_natCast, List.flatten_replicate_singleton, List.map_replicate]
        have hk : (if w = 1 then N else 0) ≤ 3001 ∧ (if w = 1 then N else 0) ≠ 1 := by split <;> omega
        refine it_of (cmul1 (by omega) (by omega)) ⟨[.bl true], _, rfl, rfl, by simp, ?_, ?_, ?_, ?_, ?_⟩
        · rw [ek, Int.toNat_natCast]; show 1 * _ ≤ 1000000; omega
        · rw [ek]; omega
        · rw [ek]; omega
        · rw [ek]; omega
        · rw [ek, el]
          refine ⟨.tup [], ring w, [("main", 0, X)], .tup [], .int t, _, rfl, okp, okl, by show 1 ≤ 100; decide, .inl (.tup _ fun d hd => ?_), fun xs e => ?_, ?_⟩
          · simp only [List.mem_cons, List.not_mem_nil, or_false] at hd
            rcases hd with rfl | rfl
            · exact .int _
            · refine .tup _ fun d hd => ?_
              obtain ⟨b, _, rfl⟩ := List.mem_map.mp hd
              exact .bl b
          · cases e
            refine ⟨by show 2 ≤ 100000; decide, fun ys hy => ?_⟩
            simp only [List.mem_cons, List.not_mem_nil, or_false] at hy
            rcases hy with e | e
            · cases e
            · cases e
              rw [List.length_map, List.length_replicate]
              omega
          · show Q' (.bl (wayD (ring w) ([(("main" : Str), 0)] : Pl) _)) S2
            rw [ring_way w N hw]
            exact qq
      refine lc_seq (ds := [D.int 2999, D.int 3000, D.int 3001]) (fun i acc S' => S' = S2 ∧ i ≤ 3 ∧ acc = (([true, true, false] : List Bool).take i).map D.bl) ⟨rfl, by decide, rfl⟩ ?_ ?_
      · rintro j x acc S' hx ⟨rfl, h1, rfl⟩
        have hj := (List.getElem?_eq_some_iff.mp hx).1
        refine ⟨by rw [List.length_map, List.length_take, sizeLine_eq]; omega, ?_⟩
        have hc : j = 0 ∨ j = 1 ∨ j = 2 := by simp at hj; omega
        rcases hc with rfl | rfl | rfl
        · cases hx
          exact judge 2999 (by decide) (by decide) ⟨rfl, by decide, rfl⟩
        · cases hx
          exact judge 3000 (by decide) (by decide) ⟨rfl, by decide, rfl⟩
        · cases hx
          exact judge 3001 (by decide) (by decide) ⟨rfl, by decide, rfl⟩
      · rintro j acc S' hj ⟨rfl, h1, rfl⟩
        have e : j = 3 := by simp at hj; omega
        subst e
        have cm : Cm 2 (.fl [.bl true, .bl true, .bl false]) := Cm.fl (k := 1) (cmc Cm.bl (cmc Cm.bl (cm1 Cm.bl)))
        refine ceq_of cm cm ?_ (fun u e => nomatch e)
        have ee : PyData.eqv (toPy (.fl ((([true, true, false] : List Bool).take 3).map D.bl))) (toPy (.fl [.bl true, .bl true, .bl false])) = true := by decide +kernel
        rw [ee]
        exact rt_of (q _)
def sp_law : SpD := fun ds S Q _ => ∃ ns : List Int, ds = [.fl (ns.map D.int)] ∧ ns.length ≤ 63 ∧ ∀ S', Q (.bl true) S'
theorem ok_law {P : Program} {w : World} {K : PySem.W.Frag} {mg : Str → Option Value} {base : Heap} (T : Txt K mg) (C__law_deck : Cal P w K mg base 1 "_law_deck" s__law_deck ["script"] sp__law_deck) (C__law_rings_right : Cal P w K mg base 5 "_law_rings_right" s__law_rings_right ["deck"] sp__law_rings_right) (C__law_code : Cal P w K mg base 5 "_law_code" s__law_code ["deck"] sp__law_code) (C__law_moment : Cal P w K mg base 5 "_law_moment" s__law_moment ["deck", "code"] sp__law_moment) (C__law_trip : Cal P w K mg base 3 "_law_trip" s__law_trip ["deck", "code", "moment", "count"] sp__law_trip) (C__law_bent : Cal P w K mg base 2 "_law_bent" s__law_bent ["deck", "trip"] sp__law_bent) (C__law_pick : Cal P w K mg base 2 "_law_pick" s__law_pick ["deck", "some"] sp__law_pick) (C__law_judged_right : Cal P w K mg base 5 "_law_judged_right" s__law_judged_right ["code", "moment", "it"] sp__law_judged_right) {ff : Addr} {fd : FuncData} (F : Fun K "law" "law" s_law ff fd) (mf : mg "law" = some (.ref ff)) : Cal P w K mg base 6 "law" s_law ["script"] sp_law := by
  refine ⟨ff, fd, okD F sc_law (fun ds S Q E h => ?len) (fun cdv A outer s H E ds S Q E' hcd hr h => ⟨_, (dss_cons (ds_set 1 sc_law.nd (de_c C__law_deck hr (da_cons (de_var 0) da_nil)))
      (dss_cons (ds_for PassesOwn.never rfl (di_range1 (by rfl) T.nb_range (da_cons de_int da_nil)) (dg_name 2 sc_law.nd) (dss_cons (ds_set 3 sc_law.nd (de_c C__law_code hr (da_cons (de_var 1) da_nil)))
      (dss_cons (ds_set 4 sc_law.nd (de_c C__law_moment hr (da_cons (de_var 1) (da_cons (de_var 3) da_nil))))
      (dss_cons (ds_set 5 sc_law.nd (de_c C__law_trip hr (da_cons (de_var 1) (da_cons (de_var 3) (da_cons (de_var 4) (da_cons (de_c C__law_pick hr (da_cons (de_var 1) (da_cons (de_lf (da_cons de_int (da_cons de_int (da_cons de_int (da_cons de_int (da_cons de_int da_nil)))))) da_nil))) da_nil))))))
      (dss_cons (ds_for PassesOwn.never rfl (di_lf (de_c C__law_bent hr (da_cons (de_var 1) (da_cons (de_var 5) da_nil)))) (dg_name 6 sc_law.nd) (dss_one (ds_if (dt_not (dt_tr td_tru (de_c C__law_judged_right hr (da_cons (de_var 3) (da_cons (de_var 4) (da_cons (de_var 6) da_nil)))))) (dss_one (ds_ret de_bl)) dss_nil)))
      (dss_one (ds_for PassesOwn.never rfl (di_tup (de_tup (da_cons (de_tup (da_cons de_int (da_cons (de_tup da_nil) da_nil))) (da_cons (de_tup (da_cons de_int (da_cons (de_tup da_nil) da_nil))) (da_cons (de_tup (da_cons de_int (da_cons (de_tup (da_cons de_bl da_nil)) da_nil))) da_nil))))) (dg_name 6 sc_law.nd) (dss_one (ds_if (dt_not (dt_tr td_tru (de_c C__law_judged_right hr (da_cons (de_var 3) (da_cons (de_tup (da_cons (de_tup da_nil) (da_cons (de_ix (xd_ix hr) (de_var 4) de_int) (da_cons (de_ix (xd_ix hr) (de_var 4) de_int) da_nil)))) (da_cons (de_var 6) da_nil)))))) (dss_one (ds_ret de_bl)) dss_nil)))))))))
      (dss_one (ds_ret (de_c C__law_rings_right hr (da_cons (de_var 1) da_nil)))))), ?run⟩), F.binds (ps := ["script"]) fun _ _ _ _ _ _ us hl => match us, hl with | [_], _ => rfl, mf, F⟩
  case len => obtain ⟨ns, rfl, _⟩ := h; rfl
  case run =>
    obtain ⟨ns, rfl, hl, q⟩ := h
    simp only [dVar, dC, dOp, dUn, dChain, dTr, dB, dAnd, dOr, dNot, dIf, dAndV, dOrV, dNotV, dNil, dCons, dTup, dLst, dLf, dNext, dSeq, dBreak, dCont, dDrop, dRet, dRetN, dIfS, gdName, gdNil, gdCons, gdTup, gdSub, dAsg, dPar, dCall, dCallK, dCB, dM0, dM, dGet1, dGet2, dDk, dDt, dPart, dNoPart, dSlice, dAug, dYes, dSort2, revD, iTupD, iLstD, iLf, iLw, iRange1, iRange2, iRange3, iEnumD, iZipD, iZipMD, iStrD, dGix, dDc, dIsi, dSortSet, dLenSet, dDlit, gdLst, dFor, dWhile, dLc, dLcM, dFld, dFldSet, dFldAdd, dMeth, dMake, dPar3, dCut, dTcut, wipeD, bodyE, startD, List.map_cons, List.map_nil, List.length_cons, List.length_nil, List.replicate_succ, List.replicate_zero, List.cons_append, List.nil_append, Nat.reduceAdd, Nat.reduceSub, Nat.zero_add, List.getElem?_cons_zero, List.getElem?_cons_succ, List.set_cons_zero, List.set_cons_succ, Option.some.injEq, exists_eq_left', exists_eq_left, if_true, sizeLine_eq, Nat.reduceLeDiff, Nat.reduceLT, Nat.zero_le, true_and, and_true, Bool.false_eq_true, if_false]
    refine ⟨ns, rfl, hl, fun p a S1 sp n1 n2 off => ⟨6, rfl, by decide, by decide, ?_⟩⟩
    have e6 : (6 : Int).toNat = 6 := rfl
    rw [e6]
    refine fr_rng (fun i δ S' => Spr S' p a ((7 - i) * 20000) ∧ i ≤ 6 ∧ ∃ r2 r3 r4 r5 r6 : Option D, δ = [some (.fl (ns.map D.int)), some (.ref p), r2, r3, r4, r5, r6]) ⟨sp.mono (by decide), by decide, _, _, _, _, _, rfl⟩ ?_ ?_
    · rintro i δ S' hi ⟨sp', h6, r2, r3, r4, r5, r6, rfl⟩
      simp only [dVar, dC, dOp, dUn, dChain, dTr, dB, dAnd, dOr, dNot, dIf, dAndV, dOrV, dNotV, dNil, dCons, dTup, dLst, dLf, dNext, dSeq, dBreak, dCont, dDrop, dRet, dRetN, dIfS, gdName, gdNil, gdCons, gdTup, gdSub, dAsg, dPar, dCall, dCallK, dCB, dM0, dM, dGet1, dGet2, dDk, dDt, dPart, dNoPart, dSlice, dAug, dYes, dSort2, revD, iTupD, iLstD, iLf, iLw, iRange1, iRange2, iRange3, iEnumD, iZipD, iZipMD, iStrD, dGix, dDc, dIsi, dSortSet, dLenSet, dDlit, gdLst, dFor, dWhile, dLc, dLcM, dFld, dFldSet, dFldAdd, dMeth, dMake, dPar3, dCut, dTcut, wipeD, bodyE, startD, List.map_cons, List.map_nil, List.length_cons, List.length_nil, List.replicate_succ, List.replicate_zero, List.cons_append, List.nil_append, Nat.reduceAdd, Nat.reduceSub, Nat.zero_add, List.getElem?_cons_zero, List.getElem?_cons_succ, List.set_cons_zero, List.set_cons_succ, Option.some.injEq, exists_eq_left', exists_eq_left, if_true, sizeLine_eq, Nat.reduceLeDiff, Nat.reduceLT, Nat.zero_le, true_and, and_true, Bool.false_eq_true, if_false]
      obtain ⟨B, hB⟩ : ∃ B : Nat, B = (7 - (i + 1)) * 20000 := ⟨_, rfl⟩
      refine ⟨p, a, B + 10000, rfl, sp'.mono (by omega), fun ks ps S2 k0 k3 kok okp sp2 of2 => ?_⟩
      refine ⟨p, a, B + 6000, ks, ps, rfl, k0, k3, kok, okp, sp2.mono (by omega), fun fs c m S3 l10 okl sp3 of3 => ?_⟩
      refine ⟨p, a, B + 5999, _, _, rfl, .inl (.fl _), by simp, by simp, sp3, fun k S4 hk sp4 of4 => ?_⟩
      obtain ⟨k, rfl, k40⟩ : ∃ j : Nat, k = .int j ∧ j ≤ 40 := by
        simp only [List.mem_cons, List.not_mem_nil, or_false] at hk
        rcases hk with rfl | rfl | rfl | rfl | rfl
        · exact ⟨0, rfl, by decide⟩
        · exact ⟨3, rfl, by decide⟩
        · exact ⟨12, rfl, by decide⟩
        · exact ⟨40, rfl, by decide⟩
        · exact ⟨40, rfl, by decide⟩
      refine ⟨p, a, B + 5000, _, ps, fs, c, m, k, rfl, okp, okl, l10, k40, sp4.mono (by omega), fun st os S5 s40 o40 sp5 of5 => ?_⟩
      refine ⟨p, a, B + 4000, st, os, rfl, s40, o40, sp5.mono (by omega), fun its S6 l100 hits sp6 => ⟨_, rfl, ?_⟩⟩
      refine fr_seq (fun j δ S7 => S7 = S6 ∧ ∃ r6 : Option D, δ = [some (.fl (ns.map D.int)), some (.ref p), some (.int (0 + (i : Nat))), some (prD (.tup (ks.map kindD)) ps), some (stD fs c m), some (.tup [.int (st : Nat), .tup (os.map D.bl)]), r6]) ⟨rfl, _, rfl⟩ ?_ ?_
      · rintro j x δ S7 hx ⟨rfl, r6, rfl⟩
        exact ⟨_, rfl, _, rfl, _, rfl, _, ps, fs, c, m, x, rfl, okp, okl, by omega, hits x (List.mem_of_getElem? hx), tru_b (brF rfl ⟨rfl, _, rfl⟩)⟩
      · rintro j δ S7 hj ⟨rfl, r6, rfl⟩
        have i3 : ∀ d ∈ [D.tup [.int 0, .tup []], .tup [.int 1, .tup []], .tup [.int 0, .tup [.bl true]]], ItOk S7 d := fun d hd => by
          simp only [List.mem_cons, List.not_mem_nil, or_false] at hd
          rcases hd with rfl | rfl | rfl
          · exact it_pair (Lv.int (by decide)) (fun d hd => by cases hd) (by decide)
          · exact it_pair (Lv.int (by decide)) (fun d hd => by cases hd) (by decide)
          · exact it_pair (Lv.int (by decide)) (lv1 Lv.bl) (by decide)
        refine ⟨_, .inl rfl, fr_seq (fun j δ S8 => S8 = S7 ∧ ∃ r6 : Option D, δ = [some (.fl (ns.map D.int)), some (.ref p), some (.int (0 + (i : Nat))), some (prD (.tup (ks.map kindD)) ps), some (stD fs c m), some (.tup [.int (st : Nat), .tup (os.map D.bl)]), r6]) ⟨rfl, _, rfl⟩ ?_ ?_⟩
        · rintro j x δ S8 hx ⟨rfl, r6, rfl⟩
          exact ⟨_, rfl, _, rfl, ix_sq rfl rfl (at_n (i := 1) rfl) ⟨_, rfl, ix_sq rfl rfl (at_n (i := 2) rfl) ⟨_, rfl, _, ps, [], c, m, x, rfl, okp, .nil, by decide, i3 x (List.mem_of_getElem? hx), tru_b (brF rfl ⟨rfl, _, rfl⟩)⟩⟩⟩
        · rintro j δ S8 hj ⟨rfl, r6, rfl⟩
          exact ⟨sp6.mono (by omega), by omega, _, _, _, _, _, rfl⟩
    · rintro i δ S' hi ⟨sp', h6, r2, r3, r4, r5, r6, rfl⟩
      exact ⟨_, rfl, p, a, 0, rfl, sp'.mono (by omega), fun S2 => rt_of (q _)⟩
theorem law_ok : ∀ ns : List Int, ns.length ≤ 63 → (∀ z ∈ ns, Builtin.Int.intBits z ≤ 1048576) → sp_law [.fl (ns.map D.int)] (fun _ => none) (fun d _ => d = .bl true) X0 := fun ns h _ => ⟨ns, rfl, h, fun _ => rfl⟩
end K19

namespace K19
open PySem L2 PyProof.Rows DL
theorem all_mk {P : Program} {w : World} {K : PySem.W.Frag} {h : Heap} {mg : Str → Option Value} {fa : Addr} (X : K.In h) (G : h.Ns mainGlobals mg) (hfa : mg "law" = some (.ref fa))
    {f_is_integer f_procedure_of f_row_at f_branch f_Walk_init f_Walk_move f_Walk_leave f_Walk_onward f_has_form f_is_way f__law_deck f__law_draw f__law_pick f__law_kinds f__law_plain_row f__law_row f__law_code f__law_named f__law_in_row f__law_variables f__law_value f__law_cells f__law_calls f__law_moment f__law_is_test f__law_onward f__law_trip f__law_is_trip f__law_bent f__law_judged_right f__law_ring f__law_rings_right f_law fg_TESTS c_Walk : Addr} {od_is_integer od_procedure_of od_row_at od_branch od_Walk_init od_Walk_move od_Walk_leave od_Walk_onward od_has_form od_is_way od__law_deck od__law_draw od__law_pick od__law_kinds od__law_plain_row od__law_row od__law_code od__law_named od__law_in_row od__law_variables od__law_value od__law_cells od__law_calls od__law_moment od__law_is_test od__law_onward od__law_trip od__law_is_trip od__law_bent od__law_judged_right od__law_ring od__law_rings_right od_law an_is_integer an_procedure_of an_row_at an_branch an_Walk_init an_Walk_move an_Walk_leave an_Walk_onward an_has_form an_is_way an__law_deck an__law_draw an__law_pick an__law_kinds an__law_plain_row an__law_row an__law_code an__law_named an__law_in_row an__law_variables an__law_value an__law_cells an__law_calls an__law_moment an__law_is_test an__law_onward an__law_trip an__law_is_trip an__law_bent an__law_judged_right an__law_ring an__law_rings_right an_law od_TESTS : Option Addr} {sl_is_integer sl_procedure_of sl_row_at sl_branch sl_Walk_init sl_Walk_move sl_Walk_leave sl_Walk_onward sl_has_form sl_is_way sl__law_deck sl__law_draw sl__law_pick sl__law_kinds sl__law_plain_row sl__law_row sl__law_code sl__law_named sl__law_in_row sl__law_variables sl__law_value sl__law_cells sl__law_calls sl__law_moment sl__law_is_test sl__law_onward sl__law_trip sl__law_is_trip sl__law_bent sl__law_judged_right sl__law_ring sl__law_rings_right sl_law sl_TESTS : Array (Option Value)} {oc_is_integer kV_is_integer dc_is_integer pm_is_integer cd_is_integer ct_is_integer oc_procedure_of kV_procedure_of dc_procedure_of pm_procedure_of cd_procedure_of ct_procedure_of oc_row_at kV_row_at dc_row_at pm_row_at cd_row_at ct_row_at oc_branch kV_branch dc_branch pm_branch cd_branch ct_branch oc_Walk_init kV_Walk_init dc_Walk_init pm_Walk_init cd_Walk_init ct_Walk_init oc_Walk_move kV_Walk_move dc_Walk_move pm_Walk_move cd_Walk_move ct_Walk_move oc_Walk_leave kV_Walk_leave dc_Walk_leave pm_Walk_leave cd_Walk_leave ct_Walk_leave oc_Walk_onward kV_Walk_onward dc_Walk_onward pm_Walk_onward cd_Walk_onward ct_Walk_onward oc_has_form kV_has_form dc_has_form pm_has_form cd_has_form ct_has_form oc_is_way kV_is_way dc_is_way pm_is_way cd_is_way ct_is_way oc__law_deck kV__law_deck dc__law_deck pm__law_deck cd__law_deck ct__law_deck oc__law_draw kV__law_draw dc__law_draw pm__law_draw cd__law_draw ct__law_draw oc__law_pick kV__law_pick dc__law_pick pm__law_pick cd__law_pick ct__law_pick oc__law_kinds kV__law_kinds dc__law_kinds pm__law_kinds cd__law_kinds ct__law_kinds oc__law_plain_row kV__law_plain_row dc__law_plain_row pm__law_plain_row cd__law_plain_row ct__law_plain_row oc__law_row kV__law_row dc__law_row pm__law_row cd__law_row ct__law_row oc__law_code kV__law_code dc__law_code pm__law_code cd__law_code ct__law_code oc__law_named kV__law_named dc__law_named pm__law_named cd__law_named ct__law_named oc__law_in_row kV__law_in_row dc__law_in_row pm__law_in_row cd__law_in_row ct__law_in_row oc__law_variables kV__law_variables dc__law_variables pm__law_variables cd__law_variables ct__law_variables oc__law_value kV__law_value dc__law_value pm__law_value cd__law_value ct__law_value oc__law_cells kV__law_cells dc__law_cells pm__law_cells cd__law_cells ct__law_cells oc__law_calls kV__law_calls dc__law_calls pm__law_calls cd__law_calls ct__law_calls oc__law_moment kV__law_moment dc__law_moment pm__law_moment cd__law_moment ct__law_moment oc__law_is_test kV__law_is_test dc__law_is_test pm__law_is_test cd__law_is_test ct__law_is_test oc__law_onward kV__law_onward dc__law_onward pm__law_onward cd__law_onward ct__law_onward oc__law_trip kV__law_trip dc__law_trip pm__law_trip cd__law_trip ct__law_trip oc__law_is_trip kV__law_is_trip dc__law_is_trip pm__law_is_trip cd__law_is_trip ct__law_is_trip oc__law_bent kV__law_bent dc__law_bent pm__law_bent cd__law_bent ct__law_bent oc__law_judged_right kV__law_judged_right dc__law_judged_right pm__law_judged_right cd__law_judged_right ct__law_judged_right oc__law_ring kV__law_ring dc__law_ring pm__law_ring cd__law_ring ct__law_ring oc__law_rings_right kV__law_rings_right dc__law_rings_right pm__law_rings_right cd__law_rings_right ct__law_rings_right oc_law kV_law dc_law pm_law cd_law ct_law : Value} {n_TESTS : Nat}
    (aC_Walk : PySem.W.nsIn K mainGlobals "Walk" = some (some (.ref c_Walk))) (pg_Walk : PySem.W.plainGet K c_Walk Str.empty = true) (hd_Walk : PySem.W.hasDictIn K c_Walk = true) (po_Walk : PySem.W.plainOver K c_Walk = true) (sa_Walk : PySem.W.findIn K (.ref c_Walk) "__setattr__" = some (some (.builtin "object.__setattr__"))) (mk_Walk : PySem.W.makesIn K c_Walk = true) (kc_Walk : PySem.W.keepIn K (.ref c_Walk) = true)
    (n_Walk_program : PySem.W.findIn K (.ref c_Walk) "program" = some none)
    (n_Walk_places : PySem.W.findIn K (.ref c_Walk) "places" = some none)
    (n_Walk_outcomes : PySem.W.findIn K (.ref c_Walk) "outcomes" = some none)
    (n_Walk_passed : PySem.W.findIn K (.ref c_Walk) "passed" = some none)
    (a_is_integer : PySem.W.nsIn K mainGlobals "is_integer" = some (some (.ref f_is_integer))) (l_is_integer : K.lookup f_is_integer = some ⟨oc_is_integer, od_is_integer, .func (PySem.W.fnOf "is_integer" "is_integer" (defArgs s_is_integer) (defBody s_is_integer) (defScope s_is_integer) .none kV_is_integer dc_is_integer pm_is_integer an_is_integer cd_is_integer ct_is_integer), sl_is_integer⟩) (c_is_integer : PySem.W.codeIn K cd_is_integer "is_integer" = true) (k_is_integer : PySem.W.keepIn K (.ref f_is_integer) = true)
    (a_procedure_of : PySem.W.nsIn K mainGlobals "procedure_of" = some (some (.ref f_procedure_of))) (l_procedure_of : K.lookup f_procedure_of = some ⟨oc_procedure_of, od_procedure_of, .func (PySem.W.fnOf "procedure_of" "procedure_of" (defArgs s_procedure_of) (defBody s_procedure_of) (defScope s_procedure_of) .none kV_procedure_of dc_procedure_of pm_procedure_of an_procedure_of cd_procedure_of ct_procedure_of), sl_procedure_of⟩) (c_procedure_of : PySem.W.codeIn K cd_procedure_of "procedure_of" = true) (k_procedure_of : PySem.W.keepIn K (.ref f_procedure_of) = true)
    (a_row_at : PySem.W.nsIn K mainGlobals "row_at" = some (some (.ref f_row_at))) (l_row_at : K.lookup f_row_at = some ⟨oc_row_at, od_row_at, .func (PySem.W.fnOf "row_at" "row_at" (defArgs s_row_at) (defBody s_row_at) (defScope s_row_at) .none kV_row_at dc_row_at pm_row_at an_row_at cd_row_at ct_row_at), sl_row_at⟩) (c_row_at : PySem.W.codeIn K cd_row_at "row_at" = true) (k_row_at : PySem.W.keepIn K (.ref f_row_at) = true)
    (a_branch : PySem.W.nsIn K mainGlobals "branch" = some (some (.ref f_branch))) (l_branch : K.lookup f_branch = some ⟨oc_branch, od_branch, .func (PySem.W.fnOf "branch" "branch" (defArgs s_branch) (defBody s_branch) (defScope s_branch) .none kV_branch dc_branch pm_branch an_branch cd_branch ct_branch), sl_branch⟩) (c_branch : PySem.W.codeIn K cd_branch "branch" = true) (k_branch : PySem.W.keepIn K (.ref f_branch) = true)
    (a_Walk_init : PySem.W.findIn K (.ref c_Walk) "__init__" = some (some (.ref f_Walk_init))) (i_Walk_init : PySem.W.isFn K (.ref f_Walk_init) = true) (l_Walk_init : K.lookup f_Walk_init = some ⟨oc_Walk_init, od_Walk_init, .func (PySem.W.fnOf "__init__" "Walk.__init__" (defArgs s_Walk_init) (defBody s_Walk_init) (defScope s_Walk_init) .none kV_Walk_init dc_Walk_init pm_Walk_init an_Walk_init cd_Walk_init ct_Walk_init), sl_Walk_init⟩) (c_Walk_init : PySem.W.codeIn K cd_Walk_init "Walk.__init__" = true) (k_Walk_init : PySem.W.keepIn K (.ref f_Walk_init) = true)
    (a_Walk_move : PySem.W.findIn K (.ref c_Walk) "move" = some (some (.ref f_Walk_move))) (i_Walk_move : PySem.W.isFn K (.ref f_Walk_move) = true) (l_Walk_move : K.lookup f_Walk_move = some ⟨oc_Walk_move, od_Walk_move, .func (PySem.W.fnOf "move" "Walk.move" (defArgs s_Walk_move) (defBody s_Walk_move) (defScope s_Walk_move) .none kV_Walk_move dc_Walk_move pm_Walk_move an_Walk_move cd_Walk_move ct_Walk_move), sl_Walk_move⟩) (c_Walk_move : PySem.W.codeIn K cd_Walk_move "Walk.move" = true) (k_Walk_move : PySem.W.keepIn K (.ref f_Walk_move) = true)
    (a_Walk_leave : PySem.W.findIn K (.ref c_Walk) "leave" = some (some (.ref f_Walk_leave))) (i_Walk_leave : PySem.W.isFn K (.ref f_Walk_leave) = true) (l_Walk_leave : K.lookup f_Walk_leave = some ⟨oc_Walk_leave, od_Walk_leave, .func (PySem.W.fnOf "leave" "Walk.leave" (defArgs s_Walk_leave) (defBody s_Walk_leave) (defScope s_Walk_leave) .none kV_Walk_leave dc_Walk_leave pm_Walk_leave an_Walk_leave cd_Walk_leave ct_Walk_leave), sl_Walk_leave⟩) (c_Walk_leave : PySem.W.codeIn K cd_Walk_leave "Walk.leave" = true) (k_Walk_leave : PySem.W.keepIn K (.ref f_Walk_leave) = true)
    (a_Walk_onward : PySem.W.findIn K (.ref c_Walk) "onward" = some (some (.ref f_Walk_onward))) (i_Walk_onward : PySem.W.isFn K (.ref f_Walk_onward) = true) (l_Walk_onward : K.lookup f_Walk_onward = some ⟨oc_Walk_onward, od_Walk_onward, .func (PySem.W.fnOf "onward" "Walk.onward" (defArgs s_Walk_onward) (defBody s_Walk_onward) (defScope s_Walk_onward) .none kV_Walk_onward dc_Walk_onward pm_Walk_onward an_Walk_onward cd_Walk_onward ct_Walk_onward), sl_Walk_onward⟩) (c_Walk_onward : PySem.W.codeIn K cd_Walk_onward "Walk.onward" = true) (k_Walk_onward : PySem.W.keepIn K (.ref f_Walk_onward) = true)
    (a_has_form : PySem.W.nsIn K mainGlobals "has_form" = some (some (.ref f_has_form))) (l_has_form : K.lookup f_has_form = some ⟨oc_has_form, od_has_form, .func (PySem.W.fnOf "has_form" "has_form" (defArgs s_has_form) (defBody s_has_form) (defScope s_has_form) .none kV_has_form dc_has_form pm_has_form an_has_form cd_has_form ct_has_form), sl_has_form⟩) (c_has_form : PySem.W.codeIn K cd_has_form "has_form" = true) (k_has_form : PySem.W.keepIn K (.ref f_has_form) = true)
    (a_is_way : PySem.W.nsIn K mainGlobals "is_way" = some (some (.ref f_is_way))) (l_is_way : K.lookup f_is_way = some ⟨oc_is_way, od_is_way, .func (PySem.W.fnOf "is_way" "is_way" (defArgs s_is_way) (defBody s_is_way) (defScope s_is_way) .none kV_is_way dc_is_way pm_is_way an_is_way cd_is_way ct_is_way), sl_is_way⟩) (c_is_way : PySem.W.codeIn K cd_is_way "is_way" = true) (k_is_way : PySem.W.keepIn K (.ref f_is_way) = true)
    (a__law_deck : PySem.W.nsIn K mainGlobals "_law_deck" = some (some (.ref f__law_deck))) (l__law_deck : K.lookup f__law_deck = some ⟨oc__law_deck, od__law_deck, .func (PySem.W.fnOf "_law_deck" "_law_deck" (defArgs s__law_deck) (defBody s__law_deck) (defScope s__law_deck) .none kV__law_deck dc__law_deck pm__law_deck an__law_deck cd__law_deck ct__law_deck), sl__law_deck⟩) (c__law_deck : PySem.W.codeIn K cd__law_deck "_law_deck" = true) (k__law_deck : PySem.W.keepIn K (.ref f__law_deck) = true)
    (a__law_draw : PySem.W.nsIn K mainGlobals "_law_draw" = some (some (.ref f__law_draw))) (l__law_draw : K.lookup f__law_draw = some ⟨oc__law_draw, od__law_draw, .func (PySem.W.fnOf "_law_draw" "_law_draw" (defArgs s__law_draw) (defBody s__law_draw) (defScope s__law_draw) .none kV__law_draw dc__law_draw pm__law_draw an__law_draw cd__law_draw ct__law_draw), sl__law_draw⟩) (c__law_draw : PySem.W.codeIn K cd__law_draw "_law_draw" = true) (k__law_draw : PySem.W.keepIn K (.ref f__law_draw) = true)
    (a__law_pick : PySem.W.nsIn K mainGlobals "_law_pick" = some (some (.ref f__law_pick))) (l__law_pick : K.lookup f__law_pick = some ⟨oc__law_pick, od__law_pick, .func (PySem.W.fnOf "_law_pick" "_law_pick" (defArgs s__law_pick) (defBody s__law_pick) (defScope s__law_pick) .none kV__law_pick dc__law_pick pm__law_pick an__law_pick cd__law_pick ct__law_pick), sl__law_pick⟩) (c__law_pick : PySem.W.codeIn K cd__law_pick "_law_pick" = true) (k__law_pick : PySem.W.keepIn K (.ref f__law_pick) = true)
    (a__law_kinds : PySem.W.nsIn K mainGlobals "_law_kinds" = some (some (.ref f__law_kinds))) (l__law_kinds : K.lookup f__law_kinds = some ⟨oc__law_kinds, od__law_kinds, .func (PySem.W.fnOf "_law_kinds" "_law_kinds" (defArgs s__law_kinds) (defBody s__law_kinds) (defScope s__law_kinds) .none kV__law_kinds dc__law_kinds pm__law_kinds an__law_kinds cd__law_kinds ct__law_kinds), sl__law_kinds⟩) (c__law_kinds : PySem.W.codeIn K cd__law_kinds "_law_kinds" = true) (k__law_kinds : PySem.W.keepIn K (.ref f__law_kinds) = true)
    (a__law_plain_row : PySem.W.nsIn K mainGlobals "_law_plain_row" = some (some (.ref f__law_plain_row))) (l__law_plain_row : K.lookup f__law_plain_row = some ⟨oc__law_plain_row, od__law_plain_row, .func (PySem.W.fnOf "_law_plain_row" "_law_plain_row" (defArgs s__law_plain_row) (defBody s__law_plain_row) (defScope s__law_plain_row) .none kV__law_plain_row dc__law_plain_row pm__law_plain_row an__law_plain_row cd__law_plain_row ct__law_plain_row), sl__law_plain_row⟩) (c__law_plain_row : PySem.W.codeIn K cd__law_plain_row "_law_plain_row" = true) (k__law_plain_row : PySem.W.keepIn K (.ref f__law_plain_row) = true)
    (a__law_row : PySem.W.nsIn K mainGlobals "_law_row" = some (some (.ref f__law_row))) (l__law_row : K.lookup f__law_row = some ⟨oc__law_row, od__law_row, .func (PySem.W.fnOf "_law_row" "_law_row" (defArgs s__law_row) (defBody s__law_row) (defScope s__law_row) .none kV__law_row dc__law_row pm__law_row an__law_row cd__law_row ct__law_row), sl__law_row⟩) (c__law_row : PySem.W.codeIn K cd__law_row "_law_row" = true) (k__law_row : PySem.W.keepIn K (.ref f__law_row) = true)
    (a__law_code : PySem.W.nsIn K mainGlobals "_law_code" = some (some (.ref f__law_code))) (l__law_code : K.lookup f__law_code = some ⟨oc__law_code, od__law_code, .func (PySem.W.fnOf "_law_code" "_law_code" (defArgs s__law_code) (defBody s__law_code) (defScope s__law_code) .none kV__law_code dc__law_code pm__law_code an__law_code cd__law_code ct__law_code), sl__law_code⟩) (c__law_code : PySem.W.codeIn K cd__law_code "_law_code" = true) (k__law_code : PySem.W.keepIn K (.ref f__law_code) = true)
    (a__law_named : PySem.W.nsIn K mainGlobals "_law_named" = some (some (.ref f__law_named))) (l__law_named : K.lookup f__law_named = some ⟨oc__law_named, od__law_named, .func (PySem.W.fnOf "_law_named" "_law_named" (defArgs s__law_named) (defBody s__law_named) (defScope s__law_named) .none kV__law_named dc__law_named pm__law_named an__law_named cd__law_named ct__law_named), sl__law_named⟩) (c__law_named : PySem.W.codeIn K cd__law_named "_law_named" = true) (k__law_named : PySem.W.keepIn K (.ref f__law_named) = true)
    (a__law_in_row : PySem.W.nsIn K mainGlobals "_law_in_row" = some (some (.ref f__law_in_row))) (l__law_in_row : K.lookup f__law_in_row = some ⟨oc__law_in_row, od__law_in_row, .func (PySem.W.fnOf "_law_in_row" "_law_in_row" (defArgs s__law_in_row) (defBody s__law_in_row) (defScope s__law_in_row) .none kV__law_in_row dc__law_in_row pm__law_in_row an__law_in_row cd__law_in_row ct__law_in_row), sl__law_in_row⟩) (c__law_in_row : PySem.W.codeIn K cd__law_in_row "_law_in_row" = true) (k__law_in_row : PySem.W.keepIn K (.ref f__law_in_row) = true)
    (a__law_variables : PySem.W.nsIn K mainGlobals "_law_variables" = some (some (.ref f__law_variables))) (l__law_variables : K.lookup f__law_variables = some ⟨oc__law_variables, od__law_variables, .func (PySem.W.fnOf "_law_variables" "_law_variables" (defArgs s__law_variables) (defBody s__law_variables) (defScope s__law_variables) .none kV__law_variables dc__law_variables pm__law_variables an__law_variables cd__law_variables ct__law_variables), sl__law_variables⟩) (c__law_variables : PySem.W.codeIn K cd__law_variables "_law_variables" = true) (k__law_variables : PySem.W.keepIn K (.ref f__law_variables) = true)
    (a__law_value : PySem.W.nsIn K mainGlobals "_law_value" = some (some (.ref f__law_value))) (l__law_value : K.lookup f__law_value = some ⟨oc__law_value, od__law_value, .func (PySem.W.fnOf "_law_value" "_law_value" (defArgs s__law_value) (defBody s__law_value) (defScope s__law_value) .none kV__law_value dc__law_value pm__law_value an__law_value cd__law_value ct__law_value), sl__law_value⟩) (c__law_value : PySem.W.codeIn K cd__law_value "_law_value" = true) (k__law_value : PySem.W.keepIn K (.ref f__law_value) = true)
    (a__law_cells : PySem.W.nsIn K mainGlobals "_law_cells" = some (some (.ref f__law_cells))) (l__law_cells : K.lookup f__law_cells = some ⟨oc__law_cells, od__law_cells, .func (PySem.W.fnOf "_law_cells" "_law_cells" (defArgs s__law_cells) (defBody s__law_cells) (defScope s__law_cells) .none kV__law_cells dc__law_cells pm__law_cells an__law_cells cd__law_cells ct__law_cells), sl__law_cells⟩) (c__law_cells : PySem.W.codeIn K cd__law_cells "_law_cells" = true) (k__law_cells : PySem.W.keepIn K (.ref f__law_cells) = true)
    (a__law_calls : PySem.W.nsIn K mainGlobals "_law_calls" = some (some (.ref f__law_calls))) (l__law_calls : K.lookup f__law_calls = some ⟨oc__law_calls, od__law_calls, .func (PySem.W.fnOf "_law_calls" "_law_calls" (defArgs s__law_calls) (defBody s__law_calls) (defScope s__law_calls) .none kV__law_calls dc__law_calls pm__law_calls an__law_calls cd__law_calls ct__law_calls), sl__law_calls⟩) (c__law_calls : PySem.W.codeIn K cd__law_calls "_law_calls" = true) (k__law_calls : PySem.W.keepIn K (.ref f__law_calls) = true)
    (a__law_moment : PySem.W.nsIn K mainGlobals "_law_moment" = some (some (.ref f__law_moment))) (l__law_moment : K.lookup f__law_moment = some ⟨oc__law_moment, od__law_moment, .func (PySem.W.fnOf "_law_moment" "_law_moment" (defArgs s__law_moment) (defBody s__law_moment) (defScope s__law_moment) .none kV__law_moment dc__law_moment pm__law_moment an__law_moment cd__law_moment ct__law_moment), sl__law_moment⟩) (c__law_moment : PySem.W.codeIn K cd__law_moment "_law_moment" = true) (k__law_moment : PySem.W.keepIn K (.ref f__law_moment) = true)
    (a__law_is_test : PySem.W.nsIn K mainGlobals "_law_is_test" = some (some (.ref f__law_is_test))) (l__law_is_test : K.lookup f__law_is_test = some ⟨oc__law_is_test, od__law_is_test, .func (PySem.W.fnOf "_law_is_test" "_law_is_test" (defArgs s__law_is_test) (defBody s__law_is_test) (defScope s__law_is_test) .none kV__law_is_test dc__law_is_test pm__law_is_test an__law_is_test cd__law_is_test ct__law_is_test), sl__law_is_test⟩) (c__law_is_test : PySem.W.codeIn K cd__law_is_test "_law_is_test" = true) (k__law_is_test : PySem.W.keepIn K (.ref f__law_is_test) = true)
    (a__law_onward : PySem.W.nsIn K mainGlobals "_law_onward" = some (some (.ref f__law_onward))) (l__law_onward : K.lookup f__law_onward = some ⟨oc__law_onward, od__law_onward, .func (PySem.W.fnOf "_law_onward" "_law_onward" (defArgs s__law_onward) (defBody s__law_onward) (defScope s__law_onward) .none kV__law_onward dc__law_onward pm__law_onward an__law_onward cd__law_onward ct__law_onward), sl__law_onward⟩) (c__law_onward : PySem.W.codeIn K cd__law_onward "_law_onward" = true) (k__law_onward : PySem.W.keepIn K (.ref f__law_onward) = true)
    (a__law_trip : PySem.W.nsIn K mainGlobals "_law_trip" = some (some (.ref f__law_trip))) (l__law_trip : K.lookup f__law_trip = some ⟨oc__law_trip, od__law_trip, .func (PySem.W.fnOf "_law_trip" "_law_trip" (defArgs s__law_trip) (defBody s__law_trip) (defScope s__law_trip) .none kV__law_trip dc__law_trip pm__law_trip an__law_trip cd__law_trip ct__law_trip), sl__law_trip⟩) (c__law_trip : PySem.W.codeIn K cd__law_trip "_law_trip" = true) (k__law_trip : PySem.W.keepIn K (.ref f__law_trip) = true)
    (a__law_is_trip : PySem.W.nsIn K mainGlobals "_law_is_trip" = some (some (.ref f__law_is_trip))) (l__law_is_trip : K.lookup f__law_is_trip = some ⟨oc__law_is_trip, od__law_is_trip, .func (PySem.W.fnOf "_law_is_trip" "_law_is_trip" (defArgs s__law_is_trip) (defBody s__law_is_trip) (defScope s__law_is_trip) .none kV__law_is_trip dc__law_is_trip pm__law_is_trip an__law_is_trip cd__law_is_trip ct__law_is_trip), sl__law_is_trip⟩) (c__law_is_trip : PySem.W.codeIn K cd__law_is_trip "_law_is_trip" = true) (k__law_is_trip : PySem.W.keepIn K (.ref f__law_is_trip) = true)
    (a__law_bent : PySem.W.nsIn K mainGlobals "_law_bent" = some (some (.ref f__law_bent))) (l__law_bent : K.lookup f__law_bent = some ⟨oc__law_bent, od__law_bent, .func (PySem.W.fnOf "_law_bent" "_law_bent" (defArgs s__law_bent) (defBody s__law_bent) (defScope s__law_bent) .none kV__law_bent dc__law_bent pm__law_bent an__law_bent cd__law_bent ct__law_bent), sl__law_bent⟩) (c__law_bent : PySem.W.codeIn K cd__law_bent "_law_bent" = true) (k__law_bent : PySem.W.keepIn K (.ref f__law_bent) = true)
    (a__law_judged_right : PySem.W.nsIn K mainGlobals "_law_judged_right" = some (some (.ref f__law_judged_right))) (l__law_judged_right : K.lookup f__law_judged_right = some ⟨oc__law_judged_right, od__law_judged_right, .func (PySem.W.fnOf "_law_judged_right" "_law_judged_right" (defArgs s__law_judged_right) (defBody s__law_judged_right) (defScope s__law_judged_right) .none kV__law_judged_right dc__law_judged_right pm__law_judged_right an__law_judged_right cd__law_judged_right ct__law_judged_right), sl__law_judged_right⟩) (c__law_judged_right : PySem.W.codeIn K cd__law_judged_right "_law_judged_right" = true) (k__law_judged_right : PySem.W.keepIn K (.ref f__law_judged_right) = true)
    (a__law_ring : PySem.W.nsIn K mainGlobals "_law_ring" = some (some (.ref f__law_ring))) (l__law_ring : K.lookup f__law_ring = some ⟨oc__law_ring, od__law_ring, .func (PySem.W.fnOf "_law_ring" "_law_ring" (defArgs s__law_ring) (defBody s__law_ring) (defScope s__law_ring) .none kV__law_ring dc__law_ring pm__law_ring an__law_ring cd__law_ring ct__law_ring), sl__law_ring⟩) (c__law_ring : PySem.W.codeIn K cd__law_ring "_law_ring" = true) (k__law_ring : PySem.W.keepIn K (.ref f__law_ring) = true)
    (a__law_rings_right : PySem.W.nsIn K mainGlobals "_law_rings_right" = some (some (.ref f__law_rings_right))) (l__law_rings_right : K.lookup f__law_rings_right = some ⟨oc__law_rings_right, od__law_rings_right, .func (PySem.W.fnOf "_law_rings_right" "_law_rings_right" (defArgs s__law_rings_right) (defBody s__law_rings_right) (defScope s__law_rings_right) .none kV__law_rings_right dc__law_rings_right pm__law_rings_right an__law_rings_right cd__law_rings_right ct__law_rings_right), sl__law_rings_right⟩) (c__law_rings_right : PySem.W.codeIn K cd__law_rings_right "_law_rings_right" = true) (k__law_rings_right : PySem.W.keepIn K (.ref f__law_rings_right) = true)
    (a_law : PySem.W.nsIn K mainGlobals "law" = some (some (.ref f_law))) (l_law : K.lookup f_law = some ⟨oc_law, od_law, .func (PySem.W.fnOf "law" "law" (defArgs s_law) (defBody s_law) (defScope s_law) .none kV_law dc_law pm_law an_law cd_law ct_law), sl_law⟩) (c_law : PySem.W.codeIn K cd_law "law" = true) (k_law : PySem.W.keepIn K (.ref f_law) = true)
    (z_all : PySem.W.nsIn K mainGlobals "all" = some none)
    (z_bool : PySem.W.nsIn K mainGlobals "bool" = some none)
    (z_int : PySem.W.nsIn K mainGlobals "int" = some none)
    (z_isinstance : PySem.W.nsIn K mainGlobals "isinstance" = some none)
    (z_len : PySem.W.nsIn K mainGlobals "len" = some none)
    (z_list : PySem.W.nsIn K mainGlobals "list" = some none)
    (z_range : PySem.W.nsIn K mainGlobals "range" = some none)
    (z_repr : PySem.W.nsIn K mainGlobals "repr" = some none)
    (z_set : PySem.W.nsIn K mainGlobals "set" = some none)
    (z_sorted : PySem.W.nsIn K mainGlobals "sorted" = some none)
    (z_str : PySem.W.nsIn K mainGlobals "str" = some none)
    (z_tuple : PySem.W.nsIn K mainGlobals "tuple" = some none)
    {t_MOST_STEPS : Tok} (g_MOST_STEPS : PySem.W.nsIn K mainGlobals "MOST_STEPS" = some (some (.int 3000 t_MOST_STEPS)))
    {t_TESTS_0 t_TESTS_1 t_TESTS_2 : Tok} (g_TESTS : PySem.W.nsIn K mainGlobals "TESTS" = some (some (.ref fg_TESTS))) (h_TESTS : K.lookup fg_TESTS = some ⟨.type "tuple", od_TESTS, .seq #[.str "less" t_TESTS_0, .str "same" t_TESTS_1, .str "is" t_TESTS_2] n_TESTS, sl_TESTS⟩) :
    ∃ fd : FuncData, (∀ (s : Shared) (v : Value), BindsTo s fd ⟨[v], []⟩ [("script", v)]) ∧ ∀ base : Heap, K.In base → base.Ns mainGlobals mg → FnD P w K mg base CX0 6 fa fd ["script"] sp_law := by
  have e := hfa.symm.trans (PySem.W.mg_of X G a_law)
  cases e
  have T : Txt K mg := ⟨PySem.W.mg_none_of X G z_all, PySem.W.mg_none_of X G z_bool, PySem.W.mg_none_of X G z_int, PySem.W.mg_none_of X G z_isinstance, PySem.W.mg_none_of X G z_len, PySem.W.mg_none_of X G z_list, PySem.W.mg_none_of X G z_range, PySem.W.mg_none_of X G z_repr, PySem.W.mg_none_of X G z_set, PySem.W.mg_none_of X G z_sorted, PySem.W.mg_none_of X G z_str, PySem.W.mg_none_of X G z_tuple, ⟨t_MOST_STEPS, PySem.W.mg_of X G g_MOST_STEPS⟩, ⟨fg_TESTS, [V.str "less", V.str "same", V.str "is"], PySem.W.mg_of X G g_TESTS, ⟨_, _, _, h_TESTS, rfl, rfl, by show 3 ≤ sizeLine; decide, (.cons ⟨_, rfl⟩ (.cons ⟨_, rfl⟩ (.cons ⟨_, rfl⟩ .nil)))⟩, fun N H S => RDs.of_atoms [V.str "less", V.str "same", V.str "is"]⟩⟩
  have W_Walk : Tc_Walk K c_Walk := ⟨⟨pg_Walk, hd_Walk, po_Walk, sa_Walk⟩, n_Walk_program, n_Walk_places, n_Walk_outcomes, n_Walk_passed⟩
  have F_is_integer := fun_mk (st := s_is_integer) l_is_integer c_is_integer k_is_integer
  have F_procedure_of := fun_mk (st := s_procedure_of) l_procedure_of c_procedure_of k_procedure_of
  have F_row_at := fun_mk (st := s_row_at) l_row_at c_row_at k_row_at
  have F_branch := fun_mk (st := s_branch) l_branch c_branch k_branch
  have F_Walk_init := fun_mk (st := s_Walk_init) l_Walk_init c_Walk_init k_Walk_init
  have F_Walk_move := fun_mk (st := s_Walk_move) l_Walk_move c_Walk_move k_Walk_move
  have F_Walk_leave := fun_mk (st := s_Walk_leave) l_Walk_leave c_Walk_leave k_Walk_leave
  have F_Walk_onward := fun_mk (st := s_Walk_onward) l_Walk_onward c_Walk_onward k_Walk_onward
  have F_has_form := fun_mk (st := s_has_form) l_has_form c_has_form k_has_form
  have F_is_way := fun_mk (st := s_is_way) l_is_way c_is_way k_is_way
  have F__law_deck := fun_mk (st := s__law_deck) l__law_deck c__law_deck k__law_deck
  have F__law_draw := fun_mk (st := s__law_draw) l__law_draw c__law_draw k__law_draw
  have F__law_pick := fun_mk (st := s__law_pick) l__law_pick c__law_pick k__law_pick
  have F__law_kinds := fun_mk (st := s__law_kinds) l__law_kinds c__law_kinds k__law_kinds
  have F__law_plain_row := fun_mk (st := s__law_plain_row) l__law_plain_row c__law_plain_row k__law_plain_row
  have F__law_row := fun_mk (st := s__law_row) l__law_row c__law_row k__law_row
  have F__law_code := fun_mk (st := s__law_code) l__law_code c__law_code k__law_code
  have F__law_named := fun_mk (st := s__law_named) l__law_named c__law_named k__law_named
  have F__law_in_row := fun_mk (st := s__law_in_row) l__law_in_row c__law_in_row k__law_in_row
  have F__law_variables := fun_mk (st := s__law_variables) l__law_variables c__law_variables k__law_variables
  have F__law_value := fun_mk (st := s__law_value) l__law_value c__law_value k__law_value
  have F__law_cells := fun_mk (st := s__law_cells) l__law_cells c__law_cells k__law_cells
  have F__law_calls := fun_mk (st := s__law_calls) l__law_calls c__law_calls k__law_calls
  have F__law_moment := fun_mk (st := s__law_moment) l__law_moment c__law_moment k__law_moment
  have F__law_is_test := fun_mk (st := s__law_is_test) l__law_is_test c__law_is_test k__law_is_test
  have F__law_onward := fun_mk (st := s__law_onward) l__law_onward c__law_onward k__law_onward
  have F__law_trip := fun_mk (st := s__law_trip) l__law_trip c__law_trip k__law_trip
  have F__law_is_trip := fun_mk (st := s__law_is_trip) l__law_is_trip c__law_is_trip k__law_is_trip
  have F__law_bent := fun_mk (st := s__law_bent) l__law_bent c__law_bent k__law_bent
  have F__law_judged_right := fun_mk (st := s__law_judged_right) l__law_judged_right c__law_judged_right k__law_judged_right
  have F__law_ring := fun_mk (st := s__law_ring) l__law_ring c__law_ring k__law_ring
  have F__law_rings_right := fun_mk (st := s__law_rings_right) l__law_rings_right c__law_rings_right k__law_rings_right
  have F_law := fun_mk (st := s_law) l_law c_law k_law
  refine ⟨PySem.W.fnOf "law" "law" (defArgs s_law) (defBody s_law) (defScope s_law) .none kV_law dc_law pm_law an_law cd_law ct_law, fun s v => .of_eq rfl, fun base _ _ => ?_⟩
  have C_is_integer := ok_is_integer (P := P) (w := w) (base := base) T   F_is_integer (PySem.W.mg_of X G a_is_integer)
  have C_procedure_of := ok_procedure_of (P := P) (w := w) (base := base) T   F_procedure_of (PySem.W.mg_of X G a_procedure_of)
  have C_row_at := ok_row_at (P := P) (w := w) (base := base) T  C_procedure_of F_row_at (PySem.W.mg_of X G a_row_at)
  have C_branch := ok_branch (P := P) (w := w) (base := base) T   F_branch (PySem.W.mg_of X G a_branch)
  have C_Walk_init := ok_Walk_init (P := P) (w := w) (base := base) T W_Walk  F_Walk_init ⟨mk_Walk, a_Walk_init, i_Walk_init, kc_Walk⟩ (PySem.W.mg_of X G aC_Walk)
  have C_Walk_move := ok_Walk_move (P := P) (w := w) (base := base) T W_Walk  F_Walk_move ⟨a_Walk_move, i_Walk_move, k_Walk_move⟩
  have C_Walk_leave := ok_Walk_leave (P := P) (w := w) (base := base) T W_Walk C_Walk_move F_Walk_leave ⟨a_Walk_leave, i_Walk_leave, k_Walk_leave⟩
  have C_Walk_onward := ok_Walk_onward (P := P) (w := w) (base := base) T W_Walk C_row_at C_Walk_leave C_Walk_move C_branch F_Walk_onward ⟨a_Walk_onward, i_Walk_onward, k_Walk_onward⟩
  have C_has_form := ok_has_form (P := P) (w := w) (base := base) T  C_is_integer F_has_form (PySem.W.mg_of X G a_has_form)
  have C_is_way := ok_is_way (P := P) (w := w) (base := base) T W_Walk C_Walk_init C_has_form C_Walk_onward F_is_way (PySem.W.mg_of X G a_is_way)
  have C__law_deck := ok__law_deck (P := P) (w := w) (base := base) T   F__law_deck (PySem.W.mg_of X G a__law_deck)
  have C__law_draw := ok__law_draw (P := P) (w := w) (base := base) T   F__law_draw (PySem.W.mg_of X G a__law_draw)
  have C__law_pick := ok__law_pick (P := P) (w := w) (base := base) T  C__law_draw F__law_pick (PySem.W.mg_of X G a__law_pick)
  have C__law_kinds := ok__law_kinds (P := P) (w := w) (base := base) T  C__law_draw F__law_kinds (PySem.W.mg_of X G a__law_kinds)
  have C__law_plain_row := ok__law_plain_row (P := P) (w := w) (base := base) T  C__law_pick C__law_draw F__law_plain_row (PySem.W.mg_of X G a__law_plain_row)
  have C__law_row := ok__law_row (P := P) (w := w) (base := base) T  C__law_pick C__law_plain_row C__law_draw F__law_row (PySem.W.mg_of X G a__law_row)
  have C__law_code := ok__law_code (P := P) (w := w) (base := base) T  C__law_kinds C__law_draw C__law_row F__law_code (PySem.W.mg_of X G a__law_code)
  have C__law_named := ok__law_named (P := P) (w := w) (base := base) T   F__law_named (PySem.W.mg_of X G a__law_named)
  have C__law_in_row := ok__law_in_row (P := P) (w := w) (base := base) T   F__law_in_row (PySem.W.mg_of X G a__law_in_row)
  have C__law_variables := ok__law_variables (P := P) (w := w) (base := base) T  C__law_named C__law_in_row F__law_variables (PySem.W.mg_of X G a__law_variables)
  have C__law_value := ok__law_value (P := P) (w := w) (base := base) T  C__law_pick C__law_draw F__law_value (PySem.W.mg_of X G a__law_value)
  have C__law_cells := ok__law_cells (P := P) (w := w) (base := base) T  C__law_draw C__law_pick C__law_value F__law_cells (PySem.W.mg_of X G a__law_cells)
  have C__law_calls := ok__law_calls (P := P) (w := w) (base := base) T  C__law_named F__law_calls (PySem.W.mg_of X G a__law_calls)
  have C__law_moment := ok__law_moment (P := P) (w := w) (base := base) T  C__law_cells C__law_pick C__law_calls C__law_draw C__law_named C__law_value C__law_variables F__law_moment (PySem.W.mg_of X G a__law_moment)
  have C__law_is_test := ok__law_is_test (P := P) (w := w) (base := base) T  C__law_named F__law_is_test (PySem.W.mg_of X G a__law_is_test)
  have C__law_onward := ok__law_onward (P := P) (w := w) (base := base) T  C__law_named F__law_onward (PySem.W.mg_of X G a__law_onward)
  have C__law_trip := ok__law_trip (P := P) (w := w) (base := base) T  C__law_is_test C__law_onward C__law_draw F__law_trip (PySem.W.mg_of X G a__law_trip)
  have C__law_is_trip := ok__law_is_trip (P := P) (w := w) (base := base) T  C__law_onward C__law_is_test F__law_is_trip (PySem.W.mg_of X G a__law_is_trip)
  have C__law_bent := ok__law_bent (P := P) (w := w) (base := base) T  C__law_draw F__law_bent (PySem.W.mg_of X G a__law_bent)
  have C__law_judged_right := ok__law_judged_right (P := P) (w := w) (base := base) T  C_is_way C__law_is_trip F__law_judged_right (PySem.W.mg_of X G a__law_judged_right)
  have C__law_ring := ok__law_ring (P := P) (w := w) (base := base) T  C__law_draw F__law_ring (PySem.W.mg_of X G a__law_ring)
  have C__law_rings_right := ok__law_rings_right (P := P) (w := w) (base := base) T  C__law_ring C__law_draw C_is_way F__law_rings_right (PySem.W.mg_of X G a__law_rings_right)
  have C_law := ok_law (P := P) (w := w) (base := base) T  C__law_deck C__law_rings_right C__law_code C__law_moment C__law_trip C__law_bent C__law_pick C__law_judged_right F_law (PySem.W.mg_of X G a_law)
  obtain ⟨f0, fd0, r0, _, m0, fn0⟩ := C_law
  have e0 := (PySem.W.mg_of X G a_law).symm.trans m0
  cases e0
  obtain ⟨oc0, od0, kV0, dc0, pm0, an0, cd0, ct0, sl0, ef, lk, _⟩ := fn0.ex
  have el := l_law.symm.trans lk
  subst ef
  cases el
  exact r0
end K19
open PySem PySem.W PyProof.Rows
set_option maxRecDepth 100000 in
set_option maxHeartbeats 0 in
theorem PySem.Challenge.cw_reinways_k19_ways_of_any_value_holds : PySem.Challenge.rw_reinways_k19_ways_of_any_value.Holds := by
  w_on; o_law; k_head; (case hw => w_witness2)
  k_fill
  refine DL.walkD (l := PySem.Challenge.rw_reinways_k19_ways_of_any_value) (n := 63) (k := 6) (x := "script") (sp := K19.sp_law) rfl (by decide) rfl ⟨rfl, by decide, by decide⟩ (fun w h Y => PySem.W.kIn_of Y) ?F K19.law_ok
  case F =>
    intro w mg fa h KX G hmg
    refine' K19.all_mk KX G hmg ?aC_Walk ?pg_Walk ?hd_Walk ?po_Walk ?sa_Walk ?mk_Walk ?kc_Walk ?n_Walk_program ?n_Walk_places ?n_Walk_outcomes ?n_Walk_passed ?a_is_integer ?l_is_integer ?c_is_integer ?k_is_integer ?a_procedure_of ?l_procedure_of ?c_procedure_of ?k_procedure_of ?a_row_at ?l_row_at ?c_row_at ?k_row_at ?a_branch ?l_branch ?c_branch ?k_branch ?a_Walk_init ?i_Walk_init ?l_Walk_init ?c_Walk_init ?k_Walk_init ?a_Walk_move ?i_Walk_move ?l_Walk_move ?c_Walk_move ?k_Walk_move ?a_Walk_leave ?i_Walk_leave ?l_Walk_leave ?c_Walk_leave ?k_Walk_leave ?a_Walk_onward ?i_Walk_onward ?l_Walk_onward ?c_Walk_onward ?k_Walk_onward ?a_has_form ?l_has_form ?c_has_form ?k_has_form ?a_is_way ?l_is_way ?c_is_way ?k_is_way ?a__law_deck ?l__law_deck ?c__law_deck ?k__law_deck ?a__law_draw ?l__law_draw ?c__law_draw ?k__law_draw ?a__law_pick ?l__law_pick ?c__law_pick ?k__law_pick ?a__law_kinds ?l__law_kinds ?c__law_kinds ?k__law_kinds ?a__law_plain_row ?l__law_plain_row ?c__law_plain_row ?k__law_plain_row ?a__law_row ?l__law_row ?c__law_row ?k__law_row ?a__law_code ?l__law_code ?c__law_code ?k__law_code ?a__law_named ?l__law_named ?c__law_named ?k__law_named ?a__law_in_row ?l__law_in_row ?c__law_in_row ?k__law_in_row ?a__law_variables ?l__law_variables ?c__law_variables ?k__law_variables ?a__law_value ?l__law_value ?c__law_value ?k__law_value ?a__law_cells ?l__law_cells ?c__law_cells ?k__law_cells ?a__law_calls ?l__law_calls ?c__law_calls ?k__law_calls ?a__law_moment ?l__law_moment ?c__law_moment ?k__law_moment ?a__law_is_test ?l__law_is_test ?c__law_is_test ?k__law_is_test ?a__law_onward ?l__law_onward ?c__law_onward ?k__law_onward ?a__law_trip ?l__law_trip ?c__law_trip ?k__law_trip ?a__law_is_trip ?l__law_is_trip ?c__law_is_trip ?k__law_is_trip ?a__law_bent ?l__law_bent ?c__law_bent ?k__law_bent ?a__law_judged_right ?l__law_judged_right ?c__law_judged_right ?k__law_judged_right ?a__law_ring ?l__law_ring ?c__law_ring ?k__law_ring ?a__law_rings_right ?l__law_rings_right ?c__law_rings_right ?k__law_rings_right ?a_law ?l_law ?c_law ?k_law ?z_all ?z_bool ?z_int ?z_isinstance ?z_len ?z_list ?z_range ?z_repr ?z_set ?z_sorted ?z_str ?z_tuple ?g_MOST_STEPS ?g_TESTS ?h_TESTS
    (case aC_Walk => k_is)
    (case pg_Walk => k_is)
    (case hd_Walk => k_is)
    (case po_Walk => k_is)
    (case sa_Walk => k_is)
    (case mk_Walk => k_is)
    (case kc_Walk => k_is)
    (case n_Walk_program => k_is)
    (case n_Walk_places => k_is)
    (case n_Walk_outcomes => k_is)
    (case n_Walk_passed => k_is)
    (case a_is_integer => k_is)
    (case l_is_integer => k_is)
    (case c_is_integer => k_is)
    (case k_is_integer => k_is)
    (case a_procedure_of => k_is)
    (case l_procedure_of => k_is)
    (case c_procedure_of => k_is)
    (case k_procedure_of => k_is)
    (case a_row_at => k_is)
    (case l_row_at => k_is)
    (case c_row_at => k_is)
    (case k_row_at => k_is)
    (case a_branch => k_is)
    (case l_branch => k_is)
    (case c_branch => k_is)
    (case k_branch => k_is)
    (case a_Walk_init => k_is)
    (case i_Walk_init => k_is)
    (case l_Walk_init => k_is)
    (case c_Walk_init => k_is)
    (case k_Walk_init => k_is)
    (case a_Walk_move => k_is)
    (case i_Walk_move => k_is)
    (case l_Walk_move => k_is)
    (case c_Walk_move => k_is)
    (case k_Walk_move => k_is)
    (case a_Walk_leave => k_is)
    (case i_Walk_leave => k_is)
    (case l_Walk_leave => k_is)
    (case c_Walk_leave => k_is)
    (case k_Walk_leave => k_is)
    (case a_Walk_onward => k_is)
    (case i_Walk_onward => k_is)
    (case l_Walk_onward => k_is)
    (case c_Walk_onward => k_is)
    (case k_Walk_onward => k_is)
    (case a_has_form => k_is)
    (case l_has_form => k_is)
    (case c_has_form => k_is)
    (case k_has_form => k_is)
    (case a_is_way => k_is)
    (case l_is_way => k_is)
    (case c_is_way => k_is)
    (case k_is_way => k_is)
    (case a__law_deck => k_is)
    (case l__law_deck => k_is)
    (case c__law_deck => k_is)
    (case k__law_deck => k_is)
    (case a__law_draw => k_is)
    (case l__law_draw => k_is)
    (case c__law_draw => k_is)
    (case k__law_draw => k_is)
    (case a__law_pick => k_is)
    (case l__law_pick => k_is)
    (case c__law_pick => k_is)
    (case k__law_pick => k_is)
    (case a__law_kinds => k_is)
    (case l__law_kinds => k_is)
    (case c__law_kinds => k_is)
    (case k__law_kinds => k_is)
    (case a__law_plain_row => k_is)
    (case l__law_plain_row => k_is)
    (case c__law_plain_row => k_is)
    (case k__law_plain_row => k_is)
    (case a__law_row => k_is)
    (case l__law_row => k_is)
    (case c__law_row => k_is)
    (case k__law_row => k_is)
    (case a__law_code => k_is)
    (case l__law_code => k_is)
    (case c__law_code => k_is)
    (case k__law_code => k_is)
    (case a__law_named => k_is)
    (case l__law_named => k_is)
    (case c__law_named => k_is)
    (case k__law_named => k_is)
    (case a__law_in_row => k_is)
    (case l__law_in_row => k_is)
    (case c__law_in_row => k_is)
    (case k__law_in_row => k_is)
    (case a__law_variables => k_is)
    (case l__law_variables => k_is)
    (case c__law_variables => k_is)
    (case k__law_variables => k_is)
    (case a__law_value => k_is)
    (case l__law_value => k_is)
    (case c__law_value => k_is)
    (case k__law_value => k_is)
    (case a__law_cells => k_is)
    (case l__law_cells => k_is)
    (case c__law_cells => k_is)
    (case k__law_cells => k_is)
    (case a__law_calls => k_is)
    (case l__law_calls => k_is)
    (case c__law_calls => k_is)
    (case k__law_calls => k_is)
    (case a__law_moment => k_is)
    (case l__law_moment => k_is)
    (case c__law_moment => k_is)
    (case k__law_moment => k_is)
    (case a__law_is_test => k_is)
    (case l__law_is_test => k_is)
    (case c__law_is_test => k_is)
    (case k__law_is_test => k_is)
    (case a__law_onward => k_is)
    (case l__law_onward => k_is)
    (case c__law_onward => k_is)
    (case k__law_onward => k_is)
    (case a__law_trip => k_is)
    (case l__law_trip => k_is)
    (case c__law_trip => k_is)
    (case k__law_trip => k_is)
    (case a__law_is_trip => k_is)
    (case l__law_is_trip => k_is)
    (case c__law_is_trip => k_is)
    (case k__law_is_trip => k_is)
    (case a__law_bent => k_is)
    (case l__law_bent => k_is)
    (case c__law_bent => k_is)
    (case k__law_bent => k_is)
    (case a__law_judged_right => k_is)
    (case l__law_judged_right => k_is)
    (case c__law_judged_right => k_is)
    (case k__law_judged_right => k_is)
    (case a__law_ring => k_is)
    (case l__law_ring => k_is)
    (case c__law_ring => k_is)
    (case k__law_ring => k_is)
    (case a__law_rings_right => k_is)
    (case l__law_rings_right => k_is)
    (case c__law_rings_right => k_is)
    (case k__law_rings_right => k_is)
    (case a_law => k_is)
    (case l_law => k_is)
    (case c_law => k_is)
    (case k_law => k_is)
    (case z_all => k_is)
    (case z_bool => k_is)
    (case z_int => k_is)
    (case z_isinstance => k_is)
    (case z_len => k_is)
    (case z_list => k_is)
    (case z_range => k_is)
    (case z_repr => k_is)
    (case z_set => k_is)
    (case z_sorted => k_is)
    (case z_str => k_is)
    (case z_tuple => k_is)
    (case g_MOST_STEPS => k_is)
    (case g_TESTS => k_is)
    (case h_TESTS => k_is)
#print axioms PySem.Challenge.cw_reinways_k19_ways_of_any_value_holds
