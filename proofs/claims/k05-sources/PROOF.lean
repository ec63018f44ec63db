import PyProof.Rows.All
import Wide.All
import OpenK.AllK
import Wide.FinOn
import HandS.ForMost
import HandS.Flow
import HandS.IsInst
import HandS.Walk
import HandS.Exc
import HandS.WordsExc
import HandS.Deep
import HandS.TupAny
import HandS.DictTup
import HandS.SortInts
import HandS.Set
import HandS.Strs
import HandS.SetIn
import HandS.TupLen
import PyProof.Rows.ReprR
import PyProof.ReprLen
import HandS.Small
import HandS.WordsDict
import HandS.Style
import HandS.Iter
import HandS.Zip
import HandS.Ends
import HandS.EndBits
import KE.GoesZip
import KE.GoesMore
import HandS.SetFor
import HandS.More
import PyProof.SetRoads
import PyProof.Rows.SortShellAny
import HandS.DictComp
import HandS.NoneIn
import HandS.TupMul
import HandS.FStr
import HandS.Comp
import HandS.WrittenGet
import HandS.List
import PySem.Challenge.RW_reinways_k05_sources_of_any_values
set_option Elab.async false
set_option maxRecDepth 100000
set_option maxHeartbeats 4000000
set_option linter.all false
/-! The data layer: values as trees, mutable objects in a store; readings over these. -/
namespace DL
open PySem L2

inductive D where
  | at (v : V)
  | tup (l : List D)
  | fl (l : List D)
  | wt (l : List D)
  deriving Inhabited

abbrev D.int (i : Int) : D := .at (.int i)
abbrev D.str (s : Str) : D := .at (.str s)
abbrev D.bl (b : Bool) : D := .at (.bl b)
abbrev D.non : D := .at .non
abbrev D.ref (a : Addr) : D := .at (.ref a)

mutual
def D.dec : (x y : D) → Decidable (x = y)
  | .at u, .at v => if h : u = v then .isTrue (h ▸ rfl) else .isFalse fun e => h (D.at.inj e)
  | .at _, .tup _ => .isFalse fun e => nomatch e
  | .tup _, .at _ => .isFalse fun e => nomatch e
  | .at _, .fl _ => .isFalse fun e => nomatch e
  | .fl _, .at _ => .isFalse fun e => nomatch e
  | .tup _, .fl _ => .isFalse fun e => nomatch e
  | .fl _, .tup _ => .isFalse fun e => nomatch e
  | .wt _, .at _ => .isFalse fun e => nomatch e
  | .at _, .wt _ => .isFalse fun e => nomatch e
  | .wt _, .tup _ => .isFalse fun e => nomatch e
  | .tup _, .wt _ => .isFalse fun e => nomatch e
  | .wt _, .fl _ => .isFalse fun e => nomatch e
  | .fl _, .wt _ => .isFalse fun e => nomatch e
  | .wt xs, .wt ys => match D.decs xs ys with
    | .isTrue h => .isTrue (h ▸ rfl)
    | .isFalse h => .isFalse fun e => h (D.wt.inj e)
  | .tup xs, .tup ys => match D.decs xs ys with
    | .isTrue h => .isTrue (h ▸ rfl)
    | .isFalse h => .isFalse fun e => h (D.tup.inj e)
  | .fl xs, .fl ys => match D.decs xs ys with
    | .isTrue h => .isTrue (h ▸ rfl)
    | .isFalse h => .isFalse fun e => h (D.fl.inj e)
def D.decs : (xs ys : List D) → Decidable (xs = ys)
  | [], [] => .isTrue rfl
  | [], _ :: _ => .isFalse fun e => nomatch e
  | _ :: _, [] => .isFalse fun e => nomatch e
  | x :: xs, y :: ys => match D.dec x y, D.decs xs ys with
    | .isTrue h, .isTrue k => .isTrue (by rw [h, k])
    | .isFalse h, _ => .isFalse fun e => h (List.cons.inj e).1
    | _, .isFalse h => .isFalse fun e => h (List.cons.inj e).2
end
instance : DecidableEq D := D.dec

/-! ### the store -/
inductive MO where
  | lst (xs : List D)
  | dk (kvs : List (Key × D))
  | dt (kvs : List (List Key × D))
  | ins (C : Addr) (fs : List (Str × D))
abbrev Sto := Addr → Option MO
def up (S : Sto) (a : Addr) (o : MO) : Sto := fun b => if b = a then some o else S b
def del (S : Sto) (a : Addr) : Sto := fun b => if b = a then none else S b
theorem up_same {S : Sto} {a : Addr} {o : MO} : up S a o a = some o := by unfold up; rw [if_pos rfl]
theorem up_ne {S : Sto} {a b : Addr} {o : MO} (h : b ≠ a) : up S a o b = S b := by unfold up; rw [if_neg h]
theorem up_up {S : Sto} {a : Addr} {o u : MO} : up (up S a o) a u = up S a u := by funext b; unfold up; split <;> rfl
theorem del_same {S : Sto} {a : Addr} : del S a a = none := by unfold del; rw [if_pos rfl]
theorem del_ne {S : Sto} {a b : Addr} (h : b ≠ a) : del S a b = S b := by unfold del; rw [if_neg h]
theorem sne {S : Sto} {a b : Addr} {o : MO} (h : S a = some o) (k : S b = none) : a ≠ b := fun e => by subst e; rw [h] at k; cases k

/-- the written part, and the addresses that nobody may take for frozen -/
structure Kx where
  k : PySem.W.Frag
  n : Addr → Prop
/-- a list of the written part -/
def Wl (K : PySem.W.Frag) (a : Addr) (xs : List V) : Prop := ∃ (o : Obj) (its : Array Value) (n : Nat), K.lookup a = some o ∧ o.cls = .type "list" ∧ o.dict = none ∧ o.data = .seq its n ∧ its.size ≤ sizeLine ∧ Vals xs its.toList
/-- a tuple of the written part -/
def Wt (K : PySem.W.Frag) (a : Addr) (xs : List V) : Prop := ∃ (o : Obj) (its : Array Value) (n : Nat), K.lookup a = some o ∧ o.cls = .type "tuple" ∧ o.data = .seq its n ∧ its.size ≤ sizeLine ∧ Vals xs its.toList
/-- a list that nobody may change: the store does not speak of it -/
def Fz (K : Kx) (H : Hp) (S : Sto) (a : Addr) (xs : List V) : Prop := (Rd H a (.lst xs) ∧ S a = none ∧ ¬ K.n a) ∨ Wl K.k a xs
theorem Fz.sq {K : Kx} {H : Hp} {S : Sto} {a : Addr} {xs : List V} (h : Fz K H S a xs) : SqL K.k H a xs := h.elim (fun x => .inl x.1) .inr
section
variable (K : Kx) (H : Hp) (S : Sto)
mutual
/-- the value v stands for the tree -/
def RD : V → D → Prop
  | v, .at u => v = u
  | v, .tup ds => ∃ a vs, v = .ref a ∧ H a = some (.tup vs) ∧ RDs vs ds
  | v, .wt ds => ∃ a vs, v = .ref a ∧ Wt K.k a vs ∧ RDs vs ds
  | v, .fl ds => ∃ a vs, v = .ref a ∧ Fz K H S a vs ∧ RDs vs ds
def RDs : List V → List D → Prop
  | [], [] => True
  | v :: vs, d :: ds => RD v d ∧ RDs vs ds
  | [], _ :: _ => False
  | _ :: _, [] => False
end
end

section
variable {K K' : Kx} {H H' : Hp} {S S' : Sto}
theorem RDs.nil : RDs K H S [] [] := by unfold RDs; trivial
theorem RDs.cons {v : V} {d : D} {vs : List V} {ds : List D} (a : RD K H S v d) (b : RDs K H S vs ds) : RDs K H S (v :: vs) (d :: ds) := by
  unfold RDs; exact ⟨a, b⟩
theorem RDs.of_cons {v : V} {vs : List V} {d : D} {ds : List D} (h : RDs K H S (v :: vs) (d :: ds)) : RD K H S v d ∧ RDs K H S vs ds := by
  unfold RDs at h; exact h
theorem RDs.inv_cons {vs : List V} {d : D} {ds : List D} (h : RDs K H S vs (d :: ds)) : ∃ v ws, vs = v :: ws ∧ RD K H S v d ∧ RDs K H S ws ds := by
  cases vs with
  | nil => unfold RDs at h; exact h.elim
  | cons v ws => exact ⟨v, ws, rfl, h.of_cons⟩
theorem RDs.inv_nil {vs : List V} (h : RDs K H S vs []) : vs = [] := by
  cases vs with
  | nil => rfl
  | cons v ws => unfold RDs at h; exact h.elim
theorem RDs.length : ∀ {vs : List V} {ds : List D}, RDs K H S vs ds → vs.length = ds.length
  | [], [], _ => rfl
  | v :: vs, d :: ds, h => by
    have q := RDs.length h.of_cons.2
    simp only [List.length_cons, q]
  | [], _ :: _, h => by unfold RDs at h; exact h.elim
  | _ :: _, [], h => by unfold RDs at h; exact h.elim
theorem RDs.get : ∀ {vs : List V} {ds : List D} {i : Nat} {d : D}, RDs K H S vs ds → ds[i]? = some d → ∃ v, vs[i]? = some v ∧ RD K H S v d
  | _, [], _, _, _, e => by simp at e
  | vs, d :: ds, 0, d', h, e => by
    obtain ⟨v, ws, rfl, a, b⟩ := h.inv_cons
    simp only [List.getElem?_cons_zero, Option.some.injEq] at e
    subst e
    exact ⟨v, rfl, a⟩
  | vs, d :: ds, i + 1, d', h, e => by
    obtain ⟨v, ws, rfl, a, b⟩ := h.inv_cons
    simp only [List.getElem?_cons_succ] at e ⊢
    exact RDs.get b e
theorem RDs.getV {vs : List V} {ds : List D} {i : Nat} {v : V} (h : RDs K H S vs ds) (e : vs[i]? = some v) : ∃ d, ds[i]? = some d ∧ RD K H S v d := by
  obtain ⟨hi, _⟩ := List.getElem?_eq_some_iff.mp e
  have hl := h.length
  have q : ds[i]? = some (ds[i]'(by omega)) := by simp [show i < ds.length by omega]
  obtain ⟨v', e', r⟩ := h.get q
  rw [e] at e'; cases e'
  exact ⟨_, q, r⟩
theorem RDs.append : ∀ {vs ws : List V} {ds es : List D}, RDs K H S vs ds → RDs K H S ws es → RDs K H S (vs ++ ws) (ds ++ es)
  | vs, ws, [], es, h, k => by rw [h.inv_nil]; exact k
  | vs, ws, d :: ds, es, h, k => by
    obtain ⟨v, us, rfl, a, b⟩ := h.inv_cons
    exact .cons a (RDs.append b k)
theorem RDs.take : ∀ {vs : List V} {ds : List D} (n : Nat), RDs K H S vs ds → RDs K H S (vs.take n) (ds.take n)
  | vs, ds, 0, h => by simp; exact .nil
  | vs, [], n + 1, h => by rw [h.inv_nil]; exact .nil
  | vs, d :: ds, n + 1, h => by
    obtain ⟨v, us, rfl, a, b⟩ := h.inv_cons
    exact .cons a (RDs.take n b)
theorem RDs.drop : ∀ {vs : List V} {ds : List D} (n : Nat), RDs K H S vs ds → RDs K H S (vs.drop n) (ds.drop n)
  | vs, ds, 0, h => h
  | vs, [], n + 1, h => by rw [h.inv_nil]; exact .nil
  | vs, d :: ds, n + 1, h => by
    obtain ⟨v, us, rfl, a, b⟩ := h.inv_cons
    exact RDs.drop n b
theorem RDs.set {v : V} {d : D} (r : RD K H S v d) : ∀ {vs : List V} {ds : List D} (n : Nat), RDs K H S vs ds → RDs K H S (vs.set n v) (ds.set n d)
  | vs, [], n, h => by rw [h.inv_nil]; exact .nil
  | vs, e :: ds, 0, h => by
    obtain ⟨w, us, rfl, a, b⟩ := h.inv_cons
    exact .cons r b
  | vs, e :: ds, n + 1, h => by
    obtain ⟨w, us, rfl, a, b⟩ := h.inv_cons
    exact .cons a (RDs.set r n b)
theorem RDs.of_get {vs : List V} {ds : List D} (hl : vs.length = ds.length) (h : ∀ (i : Nat) (v : V) (d : D), vs[i]? = some v → ds[i]? = some d → RD K H S v d) : RDs K H S vs ds := by
  induction vs generalizing ds with
  | nil =>
    cases ds with
    | nil => exact .nil
    | cons d ds => simp at hl
  | cons v vs ih =>
    cases ds with
    | nil => simp at hl
    | cons d ds =>
      refine .cons (h 0 v d rfl rfl) (ih (by simpa using hl) fun i u e a b => h (i + 1) u e (by simpa using a) (by simpa using b))
theorem RDs.reverse {vs : List V} {ds : List D} (h : RDs K H S vs ds) : RDs K H S vs.reverse ds.reverse := by
  refine .of_get (by simp [h.length]) fun i v d a b => ?_
  have hl := h.length
  obtain ⟨hi, _⟩ := List.getElem?_eq_some_iff.mp a
  simp only [List.length_reverse] at hi
  rw [List.getElem?_reverse (by omega)] at a
  rw [List.getElem?_reverse (by omega)] at b
  obtain ⟨d', e, r⟩ := h.getV a
  rw [hl] at e
  rw [e] at b
  cases b
  exact r
theorem RDs.dropLast {vs : List V} {ds : List D} (h : RDs K H S vs ds) : RDs K H S vs.dropLast ds.dropLast := by
  rw [List.dropLast_eq_take, List.dropLast_eq_take, h.length]
  exact h.take _
theorem RDs.atoms {vs us : List V} (h : RDs K H S vs (us.map D.at)) : vs = us := by
  induction us generalizing vs with
  | nil => exact h.inv_nil
  | cons u us ih =>
    obtain ⟨v, ws, rfl, a, b⟩ := RDs.inv_cons (d := D.at u) (ds := us.map D.at) h
    have a' : v = u := by unfold RD at a; exact a
    rw [a', ih b]
theorem RDs.of_atoms : ∀ (us : List V), RDs K H S us (us.map D.at)
  | [] => .nil
  | u :: us => .cons (d := D.at u) (by unfold RD; rfl) (RDs.of_atoms us)
theorem RD.at_ {v u : V} (h : RD K H S v (.at u)) : v = u := by unfold RD at h; exact h
theorem RD.of (v : V) : RD K H S v (.at v) := by unfold RD; rfl
theorem RD.tup_ {v : V} {ds : List D} (h : RD K H S v (.tup ds)) : ∃ a vs, v = .ref a ∧ H a = some (.tup vs) ∧ RDs K H S vs ds := by unfold RD at h; exact h
theorem RD.of_tup {a : Addr} {vs : List V} {ds : List D} (h : H a = some (.tup vs)) (k : RDs K H S vs ds) : RD K H S (.ref a) (.tup ds) := by
  unfold RD; exact ⟨a, vs, rfl, h, k⟩

theorem RD.wt_ {v : V} {ds : List D} (h : RD K H S v (.wt ds)) : ∃ a vs, v = .ref a ∧ Wt K.k a vs ∧ RDs K H S vs ds := by unfold RD at h; exact h
theorem RD.of_wt {a : Addr} {vs : List V} {ds : List D} (h : Wt K.k a vs) (k : RDs K H S vs ds) : RD K H S (.ref a) (.wt ds) := by
  unfold RD; exact ⟨a, vs, rfl, h, k⟩
theorem RD.fl_ {v : V} {ds : List D} (h : RD K H S v (.fl ds)) : ∃ a vs, v = .ref a ∧ Fz K H S a vs ∧ RDs K H S vs ds := by unfold RD at h; exact h
theorem RD.of_fl {a : Addr} {vs : List V} {ds : List D} (h : Fz K H S a vs) (k : RDs K H S vs ds) : RD K H S (.ref a) (.fl ds) := by
  unfold RD; exact ⟨a, vs, rfl, h, k⟩
/-- tuples and frozen lists stay -/
structure TupLe (K : Kx) (H : Hp) (S : Sto) (K' : Kx) (H' : Hp) (S' : Sto) : Prop where
  t : ∀ a xs, H a = some (.tup xs) → H' a = some (.tup xs)
  w : ∀ a xs, Wt K.k a xs → Wt K'.k a xs
  l : ∀ a xs, Fz K H S a xs → Fz K' H' S' a xs
mutual
theorem RD.le (le : TupLe K H S K' H' S') : ∀ {v : V} {d : D}, RD K H S v d → RD K' H' S' v d
  | v, .at u, h => by rw [h.at_]; exact .of _
  | v, .tup ds, h => by
    obtain ⟨a, vs, rfl, t, r⟩ := h.tup_
    exact .of_tup (le.t _ _ t) (RDs.le le r)
  | v, .wt ds, h => by
    obtain ⟨a, vs, rfl, t, r⟩ := h.wt_
    exact .of_wt (le.w _ _ t) (RDs.le le r)
  | v, .fl ds, h => by
    obtain ⟨a, vs, rfl, t, r⟩ := h.fl_
    exact .of_fl (le.l _ _ t) (RDs.le le r)
theorem RDs.le (le : TupLe K H S K' H' S') : ∀ {vs : List V} {ds : List D}, RDs K H S vs ds → RDs K' H' S' vs ds
  | vs, [], h => by rw [h.inv_nil]; exact .nil
  | vs, d :: ds, h => by
    obtain ⟨v, ws, rfl, a, b⟩ := h.inv_cons
    exact .cons (RD.le le a) (RDs.le le b)
end
end

end DL

/-! Data layer, second part: how the store lies over the abstract heap; readings over data, lifted. -/
namespace DL
open PySem L2

/-- what the store says of an address, over the abstract heap -/
def RO (K : Kx) (H : Hp) (S : Sto) (a : Addr) : MO → Prop
  | .lst ds => ∃ vs, H a = some (.lst vs) ∧ RDs K H S vs ds
  | .dk kvs => ∃ ks, H a = some (.dK ks) ∧ ks.map (·.1) = kvs.map (·.1) ∧ RDs K H S (ks.map (·.2)) (kvs.map (·.2))
  | .dt kvs => ∃ ks, H a = some (.dT ks) ∧ ks.map (·.1) = kvs.map (·.1) ∧ RDs K H S (ks.map (·.2)) (kvs.map (·.2))
  | .ins C fs => ∃ dx gs, H a = some (.ins C dx gs) ∧ gs.map (·.1) = fs.map (·.1) ∧ RDs K H S (gs.map (·.2)) (fs.map (·.2))
/-- the store is held -/
structure RS (K : Kx) (H : Hp) (S : Sto) : Prop where
  ob : ∀ a o, S a = some o → RO K H S a o
  hid : ∀ a, K.n a → ∃ o, H a = some o
  hidS : ∀ a, K.n a → S a = none
/-- the names' values are held -/
def RE (K : Kx) (H : Hp) (S : Sto) (σ : L2.St) (δ : List (Option D)) : Prop := σ.length = δ.length ∧ ∀ (i : Nat) (d : D), δ[i]? = some (some d) → ∃ v, σ[i]? = some (some v) ∧ RD K H S v d
/-- what the store does not speak of stays as it is -/
def Fr (H : Hp) (S : Sto) (H' : Hp) (S' : Sto) : Prop := ∀ a o, H a = some o → S a = none → H' a = some o ∧ S' a = none
/-- a smaller store -/
def Sub (S S' : Sto) : Prop := ∀ a o, S a = some o → S' a = some o

section
variable {K K' : Kx} {H H' H'' : Hp} {S S' S'' : Sto}
theorem Sub.refl : Sub S S := fun _ _ h => h
theorem Sub.trans (a : Sub S S') (b : Sub S' S'') : Sub S S'' := fun c o h => b c o (a c o h)
theorem Sub.non (a : Sub S S') {p : Addr} (h : S' p = none) : S p = none := by
  cases e : S p with
  | none => rfl
  | some o => rw [a p o e] at h; cases h
theorem Sub.u (a : Sub S S') {p : Addr} {o : MO} (h : S p = none) : Sub S (up S' p o) := fun b u e => by
  rw [up_ne (sne e h)]; exact a b u e
theorem Sub.un (a : Sub S S') {p : Addr} {o : MO} (h : S' p = none) : Sub S (up S' p o) := a.u (a.non h)
theorem Sub.u2 (a : Sub S S') {p : Addr} {o : MO} : Sub (up S p o) (up S' p o) := fun b u e => by
  by_cases z : b = p
  · subst z; rw [up_same] at e ⊢; exact e
  · rw [up_ne z] at e ⊢; exact a b u e
theorem Fr.refl : Fr H S H S := fun _ _ h k => ⟨h, k⟩
theorem Fr.trans (a : Fr H S H' S') (b : Fr H' S' H'' S'') : Fr H S H'' S'' := fun c o h k => let ⟨h', k'⟩ := a c o h k; b c o h' k'
theorem Fr.sub (a : Fr H S H' S') (b : Sub S'' S') : Fr H S H' S'' := fun c o h k => let ⟨h', k'⟩ := a c o h k; ⟨h', b.non k'⟩
/-- a tracked thing is no tuple -/
def notTup : HO → Prop
  | .tup _ => False
  | .frz _ _ => False
  | _ => True
theorem RO.some {a : Addr} {o : MO} (h : RO K H S a o) : ∃ u, H a = some u ∧ notTup u := by
  cases o with
  | lst ds => obtain ⟨vs, h1, h2⟩ := h; exact ⟨_, h1, trivial⟩
  | dk kvs => obtain ⟨ks, h1, h2, h3⟩ := h; exact ⟨_, h1, trivial⟩
  | dt kvs => obtain ⟨ks, h1, h2, h3⟩ := h; exact ⟨_, h1, trivial⟩
  | ins C fs => obtain ⟨dx, gs, h1, h2, h3⟩ := h; exact ⟨_, h1, trivial⟩
theorem RS.nofz (r : RS K H S) {a : Addr} {u : HO} (h : H a = some u) (n : ¬ notTup u) : S a = none := by
  cases e : S a with
  | none => rfl
  | some o =>
    obtain ⟨u', h1, h2⟩ := (r.ob a o e).some
    rw [h] at h1; cases h1; exact (n h2).elim
theorem RS.le (r : RS K H S) (f : Fr H S H' S') : TupLe K H S K H' S' := by
  refine ⟨fun a xs h => (f a _ h (r.nofz h fun z => z)).1, fun _ _ h => h, fun a xs h => ?_⟩
  rcases h with ⟨h | ⟨o, h⟩, n⟩ | h
  · exact .inl ⟨.inl (f a _ h n.1).1, (f a _ h n.1).2, n.2⟩
  · exact .inl ⟨.inr ⟨o, (f a _ h n.1).1⟩, (f a _ h n.1).2, n.2⟩
  · exact .inr h
theorem Sub.le (b : Sub S' S) : TupLe K H S K H S' := ⟨fun a xs h => h, fun _ _ h => h, fun a xs h => h.elim (fun ⟨x, n, m⟩ => .inl ⟨x, b.non n, m⟩) .inr⟩
theorem TupLe.trans {K1 K2 K3 : Kx} {H1 H2 H3 : Hp} {S1 S2 S3 : Sto} (a : TupLe K1 H1 S1 K2 H2 S2) (b : TupLe K2 H2 S2 K3 H3 S3) : TupLe K1 H1 S1 K3 H3 S3 := ⟨fun c xs h => b.t c xs (a.t c xs h), fun c xs h => b.w c xs (a.w c xs h), fun c xs h => b.l c xs (a.l c xs h)⟩
theorem RE.le {σ : L2.St} {δ : List (Option D)} (le : TupLe K H S K' H' S') (r : RE K H S σ δ) : RE K' H' S' σ δ :=
  ⟨r.1, fun i d e => let ⟨v, h, q⟩ := r.2 i d e; ⟨v, h, q.le le⟩⟩
theorem RE.set {σ : L2.St} {δ : List (Option D)} (r : RE K H S σ δ) {v : V} {d : D} (q : RD K H S v d) (i : Nat) : RE K H S (σ.set i (some v)) (δ.set i (some d)) := by
  refine ⟨by simp [r.1], fun j e h => ?_⟩
  by_cases hj : i = j
  · subst hj
    by_cases hl : i < δ.length
    · rw [List.getElem?_set_self hl] at h
      cases h
      exact ⟨v, by rw [List.getElem?_set_self (by rw [r.1]; exact hl)], q⟩
    · rw [List.getElem?_eq_none (by simp; omega)] at h
      cases h
  · rw [List.getElem?_set_ne hj] at h ⊢
    exact r.2 j e h
theorem RO.le (le : TupLe K H S K' H' S') {a : Addr} {o : MO} (e : H' a = H a) (h : RO K H S a o) : RO K' H' S' a o := by
  cases o with
  | lst ds => obtain ⟨vs, h1, h2⟩ := h; exact ⟨vs, e.trans h1, h2.le le⟩
  | dk kvs => obtain ⟨ks, h1, h2, h3⟩ := h; exact ⟨ks, e.trans h1, h2, h3.le le⟩
  | dt kvs => obtain ⟨ks, h1, h2, h3⟩ := h; exact ⟨ks, e.trans h1, h2, h3.le le⟩
  | ins C fs => obtain ⟨dx, gs, h1, h2, h3⟩ := h; exact ⟨dx, gs, e.trans h1, h2, h3.le le⟩
theorem RS.free (r : RS K H S) {p : Addr} (h : H p = none) : S p = none := by
  cases e : S p with
  | none => rfl
  | some o =>
    obtain ⟨u, h1, _⟩ := (r.ob p o e).some
    rw [h] at h1; cases h1
theorem RS.sub (r : RS K H S) (h : Sub S' S) : RS K H S' := ⟨fun a o e => (r.ob a o (h a o e)).le h.le rfl, r.hid, fun a n => h.non (r.hidS a n)⟩
theorem RS.kn (r : RS K H S) {p : Addr} {o : MO} (h : S p = some o) : ¬ K.n p := fun z => by rw [r.hidS p z] at h; cases h
theorem hid_upd {p : Addr} {o : HO} (r : ∀ a, K.n a → ∃ o, H a = some o) : ∀ a, K.n a → ∃ u, upd H p o a = some u := fun a h => by
  by_cases z : a = p
  · subst z; exact ⟨o, upd_same⟩
  · rw [upd_ne z]; exact r a h
theorem RS.nhid (r : RS K H S) {p : Addr} (h : H p = none) : ¬ K.n p := fun z => by
  obtain ⟨o, e⟩ := r.hid p z
  rw [h] at e; cases e
/-- a tuple new, or any other thing that the store does not speak of -/
theorem RS.laid (r : RS K H S) {p : Addr} {o : HO} (h : H p = none) : RS K (upd H p o) S ∧ Fr H S (upd H p o) S ∧ TupLe K H S K (upd H p o) S := by
  have f : Fr H S (upd H p o) S := fun a u e k => ⟨by rw [upd_ne (ne_of_none e h)]; exact e, k⟩
  have le := r.le f
  refine ⟨⟨fun a u e => ?_, hid_upd r.hid, r.hidS⟩, f, le⟩
  have q := r.ob a u e
  have ne : a ≠ p := fun z => by subst z; rw [r.free h] at e; cases e
  exact q.le le (upd_ne ne)
/-- a mutable thing new -/
theorem RS.new (r : RS K H S) {p : Addr} {o : HO} {m : MO} (h : H p = none) (q : TupLe K H S K (upd H p o) (up S p m) → RO K (upd H p o) (up S p m) p m) : RS K (upd H p o) (up S p m) ∧ Fr H S (upd H p o) (up S p m) := by
  have f : Fr H S (upd H p o) (up S p m) := fun x u e k => by
    have ne := ne_of_none e h
    exact ⟨by rw [upd_ne ne]; exact e, by rw [up_ne ne]; exact k⟩
  have le := r.le f
  refine ⟨⟨fun x u e => ?_, hid_upd r.hid, fun a n => by rw [up_ne (fun z => by subst z; exact r.nhid h n)]; exact r.hidS a n⟩, f⟩
  by_cases z : x = p
  · subst z; rw [up_same] at e; cases e; exact q le
  · rw [up_ne z] at e; exact (r.ob x u e).le le (upd_ne z)
/-- a mutable thing changed -/
theorem RS.write (r : RS K H S) {p : Addr} {o : HO} {m m' : MO} (h : S p = some m) (q : TupLe K H S K (upd H p o) (up S p m') → RO K (upd H p o) (up S p m') p m') : RS K (upd H p o) (up S p m') ∧ Fr H S (upd H p o) (up S p m') := by
  have f : Fr H S (upd H p o) (up S p m') := fun a u e k => by
    have ne : a ≠ p := fun z => by subst z; rw [h] at k; cases k
    exact ⟨by rw [upd_ne ne]; exact e, by rw [up_ne ne]; exact k⟩
  have le := r.le f
  refine ⟨⟨fun x u e => ?_, hid_upd r.hid, fun a n => by rw [up_ne (fun z => by subst z; exact r.kn h n)]; exact r.hidS a n⟩, f⟩
  by_cases z : x = p
  · subst z; rw [up_same] at e; cases e; exact q le
  · rw [up_ne z] at e; exact (r.ob x u e).le le (upd_ne z)
end

/-! ### readings over data -/
abbrev DSt := List (Option D)
abbrev KD := D → Sto → Prop
abbrev TDE := DSt → Sto → KD → Prop
abbrev TDT := DSt → Sto → (Bool → Sto → Prop) → Prop
abbrev TDA := DSt → Sto → (List D → Sto → Prop) → Prop
structure DEnds where
  nx : DSt → Sto → Prop
  rt : KD
  bk : DSt → Sto → Prop := fun _ _ => False
  ct : DSt → Sto → Prop := fun _ _ => False
abbrev TDS := DEnds → DSt → Sto → Prop
abbrev TDG := D → DSt → Sto → (DSt → Sto → Prop) → Prop
abbrev TDGs := List D → DSt → Sto → (DSt → Sto → Prop) → Prop

section
variable (K : PySem.W.Frag)
/-- behind a step -/
structure Bh (K : Kx) (H : Hp) (S : Sto) (H' : Hp) (S' : Sto) : Prop where
  fr : Fr H S H' S'
  rs : RS K H' S'
def lE (t : TDE) : TE := fun σ H Q => ∃ N δ S Q', RE ⟨K, N⟩ H S σ δ ∧ RS ⟨K, N⟩ H S ∧ t δ S Q' ∧ ∀ d S' v H', Bh ⟨K, N⟩ H S H' S' → RD ⟨K, N⟩ H' S' v d → Q' d S' → Q v H'
def lT (t : TDT) : TT := fun σ H Q => ∃ N δ S Q', RE ⟨K, N⟩ H S σ δ ∧ RS ⟨K, N⟩ H S ∧ t δ S Q' ∧ ∀ b S' H', Bh ⟨K, N⟩ H S H' S' → Q' b S' → Q b H'
def lA (t : TDA) : TA := fun σ H Q => ∃ N δ S Q', RE ⟨K, N⟩ H S σ δ ∧ RS ⟨K, N⟩ H S ∧ t δ S Q' ∧ ∀ ds S' vs H', Bh ⟨K, N⟩ H S H' S' → RDs ⟨K, N⟩ H' S' vs ds → Q' ds S' → Q vs H'
def lG (t : TDG) : TG := fun v σ H Q => ∃ N d δ S Q', RD ⟨K, N⟩ H S v d ∧ RE ⟨K, N⟩ H S σ δ ∧ RS ⟨K, N⟩ H S ∧ t d δ S Q' ∧ ∀ δ' S' σ' H', Bh ⟨K, N⟩ H S H' S' → RE ⟨K, N⟩ H' S' σ' δ' → Q' δ' S' → Q σ' H'
def lGs (t : TDGs) : TGs := fun vs σ H Q => ∃ N ds δ S Q', RDs ⟨K, N⟩ H S vs ds ∧ RE ⟨K, N⟩ H S σ δ ∧ RS ⟨K, N⟩ H S ∧ t ds δ S Q' ∧ ∀ δ' S' σ' H', Bh ⟨K, N⟩ H S H' S' → RE ⟨K, N⟩ H' S' σ' δ' → Q' δ' S' → Q σ' H'
structure LEnds (K : Kx) (D' : DEnds) (H : Hp) (S : Sto) (D : Ends) : Prop where
  nx : ∀ δ' S' σ' H', Bh K H S H' S' → RE K H' S' σ' δ' → D'.nx δ' S' → D.nx σ' H'
  rt : ∀ d S' v H', Bh K H S H' S' → RD K H' S' v d → D'.rt d S' → D.rt v H'
  bk : ∀ δ' S' σ' H', Bh K H S H' S' → RE K H' S' σ' δ' → D'.bk δ' S' → D.bk σ' H'
  ct : ∀ δ' S' σ' H', Bh K H S H' S' → RE K H' S' σ' δ' → D'.ct δ' S' → D.ct σ' H'
def lS (t : TDS) : TS := fun D σ H => ∃ N δ S D', RE ⟨K, N⟩ H S σ δ ∧ RS ⟨K, N⟩ H S ∧ t D' δ S ∧ LEnds ⟨K, N⟩ D' H S D
end

section
variable {K : Kx} {H H' H'' : Hp} {S S' S'' : Sto}
theorem Bh.refl (r : RS K H S) : Bh K H S H S := ⟨.refl, r⟩
theorem Bh.trans (a : Bh K H S H' S') (b : Bh K H' S' H'' S'') : Bh K H S H'' S'' := ⟨a.fr.trans b.fr, b.rs⟩
theorem LEnds.from {D' : DEnds} {D : Ends} (l : LEnds K D' H S D) (b : Bh K H S H' S') : LEnds K D' H' S' D :=
  ⟨fun δ' S2 σ' H2 c => l.nx δ' S2 σ' H2 (b.trans c), fun d S2 v H2 c => l.rt d S2 v H2 (b.trans c), fun δ' S2 σ' H2 c => l.bk δ' S2 σ' H2 (b.trans c), fun δ' S2 σ' H2 c => l.ct δ' S2 σ' H2 (b.trans c)⟩
end

section
variable {X : Cx}
theorem PE.wk {e : Expr} {t t' : TE} (h : PE X e t) (k : ∀ σ H Q, t' σ H Q → t σ H Q) : PE X e t' := ⟨fun pins s σ H Q I q => h.run pins s σ H Q I (k σ H Q q)⟩
theorem PT.wk {e : Expr} {t t' : TT} (h : PT X e t) (k : ∀ σ H Q, t' σ H Q → t σ H Q) : PT X e t' := ⟨fun pins s σ H Q I q => h.run pins s σ H Q I (k σ H Q q)⟩
theorem PW.wk {e : Expr} {t t' : TT} (h : PW X e t) (k : ∀ σ H Q, t' σ H Q → t σ H Q) : PW X e t' := ⟨fun wh pins s σ H Q I q => h.run wh pins s σ H Q I (k σ H Q q)⟩
theorem PA.wk {e : List Expr} {t t' : TA} (h : PA X e t) (k : ∀ σ H Q, t' σ H Q → t σ H Q) : PA X e t' := ⟨fun pos pins s σ H Q I q => h.run pos pins s σ H Q I (k σ H Q q)⟩
theorem PS.wk {st : Stmt} {t t' : TS} (h : PS X st t) (k : ∀ D σ H, t' D σ H → t D σ H) : PS X st t' := ⟨fun pins s σ H D I q => h.run pins s σ H D I (k D σ H q)⟩
theorem PSs.wk {st : List Stmt} {t t' : TS} (h : PSs X st t) (k : ∀ D σ H, t' D σ H → t D σ H) : PSs X st t' := ⟨fun pins s σ H D I q => h.run pins s σ H D I (k D σ H q)⟩
theorem PG.wk {e : Expr} {t t' : TG} (h : PG X e t) (k : ∀ v σ H Q, t' v σ H Q → t v σ H Q) : PG X e t' := ⟨fun pins s σ H v u Q I r q => h.run pins s σ H v u Q I r (k v σ H Q q)⟩
theorem PGs.wk {e : List Expr} {t t' : TGs} (h : PGs X e t) (k : ∀ v σ H Q, t' v σ H Q → t v σ H Q) : PGs X e t' := ⟨fun pins s σ H v u Q I r q => h.run pins s σ H v u Q I r (k v σ H Q q)⟩

/-! names, constants -/
def dVar (i : Nat) : TDE := fun δ S Q => ∃ d, δ[i]? = some (some d) ∧ Q d S
theorem de_var (i : Nat) {x : Str} {pos : Pos} (hN : X.N[i]? = some x := by rfl) (hv : Vis X.env.scope x := by first | exact Or.inl rfl | exact Or.inr (Or.inl rfl) | exact Or.inr (Or.inr rfl)) (hd : (x == ("__debug__" : Str)) = false := by decide)
    (hcd : (x == ("__classdict__" : Str)) = false := by decide) : PE X (.Name x pos) (lE X.K (dVar i)) :=
  PE.wk (pv i hN hv hd hcd) fun σ H Q ⟨N, δ, S, Q', re, rs, ⟨d, e, q⟩, k⟩ => by
    obtain ⟨v, h, r⟩ := re.2 i d e
    exact ⟨v, h, k d S v H (.refl rs) r q⟩
def dC (d : D) : TDE := fun _ S Q => Q d S
theorem de_of {e : Expr} {v : V} {d : D} (h : PE X e (tC v)) (r : ∀ N H S, RD ⟨X.K, N⟩ H S v d) : PE X e (lE X.K (dC d)) :=
  PE.wk h fun σ H Q ⟨N, δ, S, Q', re, rs, q, k⟩ => k d S v H (.refl rs) (r N H S) q
theorem de_int {i j pos} : PE X (.Constant (.int i) j pos) (lE X.K (dC (.int i))) := de_of pe_int fun _ _ _ => .of _
theorem de_bl {b j pos} : PE X (.Constant (.bool b) j pos) (lE X.K (dC (.bl b))) := de_of pe_bl fun _ _ _ => .of _
theorem de_non {j pos} : PE X (.Constant .none j pos) (lE X.K (dC .non)) := de_of pe_non fun _ _ _ => .of _
theorem de_str {x j pos} : PE X (.Constant (.str x) j pos) (lE X.K (dC (.str x))) := de_of pe_str fun _ _ _ => .of _
/-- a constant of the module: a written thing -/
theorem de_glob {x : Str} {v : V} {u : Value} {d : D} {pos : Pos} (hg : Gl X x) (hm : X.mg x = some u) (r : RelV v u) (q : ∀ N H S, RD ⟨X.K, N⟩ H S v d) (hd : (x == ("__debug__" : Str)) = false := by decide) : PE X (.Name x pos) (lE X.K (dC d)) :=
  de_of (pe_glob hg hm r hd) q

/-! two things by values -/
abbrev RD2 := D → D → Sto → KD → Prop
abbrev RD1 := D → Sto → KD → Prop
abbrev RDL := List D → Sto → KD → Prop
def l2 (K : PySem.W.Frag) (r : RD2) : R2 := fun v u H Q => ∃ N x y S Q', RD ⟨K, N⟩ H S v x ∧ RD ⟨K, N⟩ H S u y ∧ RS ⟨K, N⟩ H S ∧ r x y S Q' ∧ ∀ d S' w H', Bh ⟨K, N⟩ H S H' S' → RD ⟨K, N⟩ H' S' w d → Q' d S' → Q w H'
def l1 (K : PySem.W.Frag) (r : RD1) : V → Hp → VK → Prop := fun v H Q => ∃ N x S Q', RD ⟨K, N⟩ H S v x ∧ RS ⟨K, N⟩ H S ∧ r x S Q' ∧ ∀ d S' w H', Bh ⟨K, N⟩ H S H' S' → RD ⟨K, N⟩ H' S' w d → Q' d S' → Q w H'
def lL (K : PySem.W.Frag) (r : RDL) : List V → Hp → VK → Prop := fun vs H Q => ∃ N xs S Q', RDs ⟨K, N⟩ H S vs xs ∧ RS ⟨K, N⟩ H S ∧ r xs S Q' ∧ ∀ d S' w H', Bh ⟨K, N⟩ H S H' S' → RD ⟨K, N⟩ H' S' w d → Q' d S' → Q w H'
def dOp (r : RD2) (ta tb : TDE) : TDE := fun δ S Q => ta δ S fun x S1 => tb δ S1 fun y S2 => r x y S2 Q
def dUn (r : RD1) (ta : TDE) : TDE := fun δ S Q => ta δ S fun x S1 => r x S1 Q
theorem lift_op {K : PySem.W.Frag} {r : RD2} {ta tb : TDE} {σ : L2.St} {H : Hp} {Q : VK} (h : lE K (dOp r ta tb) σ H Q) : tOp (l2 K r) (lE K ta) (lE K tb) σ H Q := by
  obtain ⟨N, δ, S, Q', re, rs, q, k⟩ := h
  refine ⟨N, δ, S, _, re, rs, q, fun x S1 v H1 b1 rx q1 => ?_⟩
  refine ⟨N, δ, S1, _, re.le (rs.le b1.fr), b1.rs, q1, fun y S2 u H2 b2 ry q2 => ?_⟩
  exact ⟨N, x, y, S2, Q', rx.le (b1.rs.le b2.fr), ry, b2.rs, q2, fun d S' w H' b3 => k d S' w H' ((b1.trans b2).trans b3)⟩
theorem lift_un {K : PySem.W.Frag} {r : RD1} {ta : TDE} {σ : L2.St} {H : Hp} {Q : VK} (h : lE K (dUn r ta) σ H Q) : tUn (l1 K r) (lE K ta) σ H Q := by
  obtain ⟨N, δ, S, Q', re, rs, q, k⟩ := h
  refine ⟨N, δ, S, _, re, rs, q, fun x S1 v H1 b1 rx q1 => ?_⟩
  exact ⟨N, x, S1, Q', rx, b1.rs, q1, fun d S' w H' b3 => k d S' w H' (b1.trans b3)⟩
variable {a b c : Expr} {ta tb tc : TDE} {pos : Pos} {r r' : RD2}
theorem de_op {op : Operator} (ho : OpR X (binaryOp op) (l2 X.K r)) (ha : PE X a (lE X.K ta)) (hb : PE X b (lE X.K tb)) : PE X (.BinOp a op b pos) (lE X.K (dOp r ta tb)) :=
  PE.wk (pe_op ho ha hb) fun _ _ _ h => lift_op h
theorem de_un {op : UnaryOp} {r : RD1} (ho : UnR X (unaryOp op) (l1 X.K r)) (ha : PE X a (lE X.K ta)) : PE X (.UnaryOp op a pos) (lE X.K (dUn r ta)) :=
  PE.wk (pe_un ho ha) fun _ _ _ h => lift_un h
theorem de_cmp {op : CmpOp} (ho : OpR X (compareOp op) (l2 X.K r)) (ha : PE X a (lE X.K ta)) (hb : PE X b (lE X.K tb)) (hm : behindInMarks op b = false := by first | exact nobehind _ (by decide) (by decide) | rfl) : PE X (.Compare a [op] [b] pos) (lE X.K (dOp r ta tb)) :=
  PE.wk (pe_cmpR ho ha hb hm) fun _ _ _ h => lift_op h
theorem de_ix (ho : IxR X (l2 X.K r)) (ha : PE X a (lE X.K ta)) (hb : PE X b (lE X.K tb)) (hs : PlainIx b := by exact fun _ _ => rfl) : PE X (.Subscript a b pos) (lE X.K (dOp r ta tb)) :=
  PE.wk (pe_ix ho ha hb hs) fun _ _ _ h => lift_op h
/-- a < b < c -/
def dChain (r r' : RD2) (ta tb tc : TDE) : TDE := fun δ S Q => ta δ S fun x S1 => tb δ S1 fun y S2 => r x y S2 fun z S3 => ∃ k, z = .bl k ∧ (if k = true then tc δ S3 fun w S4 => r' y w S4 Q else Q (.bl false) S3)
theorem de_chain {op op' : CmpOp} (ho : OpR X (compareOp op) (l2 X.K r)) (ho' : OpR X (compareOp op') (l2 X.K r')) (ha : PE X a (lE X.K ta)) (hb : PE X b (lE X.K tb)) (hc : PE X c (lE X.K tc)) (hm : lastMarks [op, op'] [b, c] = false := by first | rfl | decide) : PE X (.Compare a [op, op'] [b, c] pos) (lE X.K (dChain r r' ta tb tc)) :=
  PE.wk (pe_chain ho ho' ha hb hc hm) fun σ H Q ⟨N, δ, S, Q', re, rs, q, k⟩ => by
    refine ⟨N, δ, S, _, re, rs, q, fun x S1 v H1 b1 rx q1 => ?_⟩
    refine ⟨N, δ, S1, _, re.le (rs.le b1.fr), b1.rs, q1, fun y S2 u H2 b2 ry q2 => ?_⟩
    refine ⟨N, x, y, S2, _, rx.le (b1.rs.le b2.fr), ry, b2.rs, q2, fun z S3 w H3 b3 rz q3 => ?_⟩
    obtain ⟨i, rfl, q3⟩ := q3
    refine ⟨i, rz.at_, ?_⟩
    have bb := (b1.trans b2).trans b3
    cases i with
    | true =>
      rw [if_pos rfl] at q3 ⊢
      refine ⟨N, δ, S3, _, re.le (rs.le bb.fr), b3.rs, q3, fun w' S4 x' H4 b4 rw' q4 => ?_⟩
      exact ⟨N, y, w', S4, Q', (ry.le (b2.rs.le b3.fr)).le (b3.rs.le b4.fr), rw', b4.rs, q4, fun d S' w2 H' b5 => k d S' w2 H' ((bb.trans b4).trans b5)⟩
    | false =>
      rw [if_neg Bool.false_ne_true] at q3 ⊢
      exact k _ S3 _ H3 bb (.of _) q3

/-! tests -/
/-- a value's truth -/
def lTr (K : PySem.W.Frag) (r : D → Sto → (Bool → Sto → Prop) → Prop) : V → Hp → (Bool → Hp → Prop) → Prop := fun v H Q => ∃ N x S Q', RD ⟨K, N⟩ H S v x ∧ RS ⟨K, N⟩ H S ∧ r x S Q' ∧ ∀ b S' H', Bh ⟨K, N⟩ H S H' S' → Q' b S' → Q b H'
def dTr (r : D → Sto → (Bool → Sto → Prop) → Prop) (ta : TDE) : TDT := fun δ S Q => ta δ S fun x S1 => r x S1 Q
theorem dt_tr {r : D → Sto → (Bool → Sto → Prop) → Prop} (hr : TruR X (lTr X.K r)) {e : Expr} {t : TDE} (he : PE X e (lE X.K t)) (hw : ∀ whole, isTrue e X.env whole = (do let v ← whole; standAt e.pos; holding [v] (truthy v)) := by intro _; rfl) : PT X e (lT X.K (dTr r t)) := by
  refine ⟨fun pins s σ H Q I h => ?_⟩
  obtain ⟨N, δ, S, Q', re, rs, q, k⟩ := h
  refine PyProof.Rows.isTrue_plain (thn (he.run pins s σ H _ I ⟨N, δ, S, _, re, rs, q, fun x S1 v H1 b1 rx q1 => (show lTr X.K r v H1 Q from ⟨N, x, S1, Q', rx, b1.rs, q1, fun b S' H' b2 => k b S' H' (b1.trans b2)⟩)⟩) fun v s1 hh => ?_) (hw _)
  obtain ⟨x, H1, I1, r1, q1⟩ := hh
  exact hr pins s1 σ H1 x v Q I1 r1 q1
/-- a comparison as a test: its value a bool -/
def dB (t : TDE) : TDT := fun δ S Q => t δ S fun x S1 => ∃ c, x = .bl c ∧ Q c S1
theorem lift_B {K : PySem.W.Frag} {t : TDE} {σ : L2.St} {H : Hp} {Q : Bool → Hp → Prop} (h : lT K (dB t) σ H Q) : tB (lE K t) σ H Q := by
  obtain ⟨N, δ, S, Q', re, rs, q, k⟩ := h
  refine ⟨N, δ, S, _, re, rs, q, fun x S1 v H1 b1 rx q1 => ?_⟩
  obtain ⟨c, rfl, q1⟩ := q1
  exact ⟨c, rx.at_, k c S1 H1 b1 q1⟩
theorem dt_val {e : Expr} {t : TDE} (h : PE X e (lE X.K t)) (he : ∀ whole, isTrue e X.env whole = (do let v ← whole; standAt e.pos; holding [v] (truthy v)) := by intro _; rfl) : PT X e (lT X.K (dB t)) :=
  PT.wk (pt_val h he) fun _ _ _ h => lift_B h
theorem dt_cmp {op : CmpOp} (ho : OpR X (compareOp op) (l2 X.K r)) (ha : PE X a (lE X.K ta)) (hb : PE X b (lE X.K tb)) (hm : behindInMarks op b = false := by first | exact nobehind _ (by decide) (by decide) | rfl) : PT X (.Compare a [op] [b] pos) (lT X.K (dB (dOp r ta tb))) :=
  PT.wk (pt_cmpR ho ha hb hm) fun _ _ _ ⟨N, δ, S, Q', re, rs, q, k⟩ => by
    refine ⟨N, δ, S, _, re, rs, q, fun x S1 v H1 b1 rx q1 => ?_⟩
    refine ⟨N, δ, S1, _, re.le (rs.le b1.fr), b1.rs, q1, fun y S2 u H2 b2 ry q2 => ?_⟩
    refine ⟨N, x, y, S2, _, rx.le (b1.rs.le b2.fr), ry, b2.rs, q2, fun z S3 w H3 b3 rz q3 => ?_⟩
    obtain ⟨c, rfl, q3⟩ := q3
    exact ⟨c, rz.at_, k c S3 H3 ((b1.trans b2).trans b3) q3⟩
def dAnd (t u : TDT) : TDT := fun δ S Q => t δ S fun c S1 => if c = true then u δ S1 Q else Q false S1
def dOr (t u : TDT) : TDT := fun δ S Q => t δ S fun c S1 => if c = true then Q true S1 else u δ S1 Q
def dNot (t : TDT) : TDT := fun δ S Q => t δ S fun c S1 => Q (!c) S1
variable {tA tB' : TDT} {rest : List Expr}
theorem dw_and1 (ha : PT X a (lT X.K tA)) : PW X (.BoolOp .And [a] pos) (lT X.K tA) := pw_and1 ha
theorem dw_or1 (ha : PT X a (lT X.K tA)) : PW X (.BoolOp .Or [a] pos) (lT X.K tA) := pw_or1 ha
theorem dw_and (ha : PT X a (lT X.K tA)) (hb : PW X (.BoolOp .And (b :: rest) pos) (lT X.K tB')) : PW X (.BoolOp .And (a :: b :: rest) pos) (lT X.K (dAnd tA tB')) :=
  PW.wk (pw_and ha hb) fun _ _ _ ⟨N, δ, S, Q', re, rs, q, k⟩ => by
    refine ⟨N, δ, S, _, re, rs, q, fun c S1 H1 b1 q1 => ?_⟩
    cases c with
    | true => rw [if_pos rfl] at q1 ⊢; exact ⟨N, δ, S1, Q', re.le (rs.le b1.fr), b1.rs, q1, fun c S' H' b2 => k c S' H' (b1.trans b2)⟩
    | false => rw [if_neg Bool.false_ne_true] at q1 ⊢; exact k _ S1 H1 b1 q1
theorem dw_or (ha : PT X a (lT X.K tA)) (hb : PW X (.BoolOp .Or (b :: rest) pos) (lT X.K tB')) : PW X (.BoolOp .Or (a :: b :: rest) pos) (lT X.K (dOr tA tB')) :=
  PW.wk (pw_or ha hb) fun _ _ _ ⟨N, δ, S, Q', re, rs, q, k⟩ => by
    refine ⟨N, δ, S, _, re, rs, q, fun c S1 H1 b1 q1 => ?_⟩
    cases c with
    | true => rw [if_pos rfl] at q1 ⊢; exact k _ S1 H1 b1 q1
    | false => rw [if_neg Bool.false_ne_true] at q1 ⊢; exact ⟨N, δ, S1, Q', re.le (rs.le b1.fr), b1.rs, q1, fun c S' H' b2 => k c S' H' (b1.trans b2)⟩
theorem dt_not (ha : PT X a (lT X.K tA)) : PT X (.UnaryOp .Not a pos) (lT X.K (dNot tA)) :=
  PT.wk (pt_not ha) fun _ _ _ ⟨N, δ, S, Q', re, rs, q, k⟩ => ⟨N, δ, S, _, re, rs, q, fun c S1 H1 b1 q1 => k _ S1 H1 b1 q1⟩
def dIf (t : TDT) (ta tb : TDE) : TDE := fun δ S Q => t δ S fun c S1 => if c = true then ta δ S1 Q else tb δ S1 Q
theorem de_ifExp (hc : PT X c (lT X.K tA)) (ha : PE X a (lE X.K ta)) (hb : PE X b (lE X.K tb)) : PE X (.IfExp c a b pos) (lE X.K (dIf tA ta tb)) :=
  PE.wk (pe_ifExp hc ha hb) fun _ _ _ ⟨N, δ, S, Q', re, rs, q, k⟩ => by
    refine ⟨N, δ, S, _, re, rs, q, fun i S1 H1 b1 q1 => ?_⟩
    cases i with
    | true => rw [if_pos rfl] at q1 ⊢; exact ⟨N, δ, S1, Q', re.le (rs.le b1.fr), b1.rs, q1, fun d S' v H' b2 => k d S' v H' (b1.trans b2)⟩
    | false => rw [if_neg Bool.false_ne_true] at q1 ⊢; exact ⟨N, δ, S1, Q', re.le (rs.le b1.fr), b1.rs, q1, fun d S' v H' b2 => k d S' v H' (b1.trans b2)⟩
/-- and, or, not as values of bools -/
def dAndV (ta tb : TDE) : TDE := fun δ S Q => ta δ S fun x S1 => ∃ c, x = .bl c ∧ if c = true then tb δ S1 Q else Q (.bl false) S1
def dOrV (ta tb : TDE) : TDE := fun δ S Q => ta δ S fun x S1 => ∃ c, x = .bl c ∧ if c = true then Q (.bl true) S1 else tb δ S1 Q
def dNotV (ta : TDE) : TDE := fun δ S Q => ta δ S fun x S1 => ∃ c, x = .bl c ∧ Q (.bl (!c)) S1
theorem de_one {op} {t : TDE} (h : PE X a (lE X.K t)) : PE X (.BoolOp op [a] pos) (lE X.K t) := pe_one h
theorem de_and (ha : PE X a (lE X.K ta)) (hb : PE X (.BoolOp .And (b :: rest) pos) (lE X.K tb)) : PE X (.BoolOp .And (a :: b :: rest) pos) (lE X.K (dAndV ta tb)) :=
  PE.wk (pe_and ha hb) fun _ _ _ ⟨N, δ, S, Q', re, rs, q, k⟩ => by
    refine ⟨N, δ, S, _, re, rs, q, fun x S1 v H1 b1 rx q1 => ?_⟩
    obtain ⟨c, rfl, q1⟩ := q1
    refine ⟨c, rx.at_, ?_⟩
    cases c with
    | true => rw [if_pos rfl] at q1 ⊢; exact ⟨N, δ, S1, Q', re.le (rs.le b1.fr), b1.rs, q1, fun d S' v H' b2 => k d S' v H' (b1.trans b2)⟩
    | false => rw [if_neg Bool.false_ne_true] at q1 ⊢; exact k _ S1 _ H1 b1 (.of _) q1
theorem de_or (ha : PE X a (lE X.K ta)) (hb : PE X (.BoolOp .Or (b :: rest) pos) (lE X.K tb)) : PE X (.BoolOp .Or (a :: b :: rest) pos) (lE X.K (dOrV ta tb)) :=
  PE.wk (pe_or ha hb) fun _ _ _ ⟨N, δ, S, Q', re, rs, q, k⟩ => by
    refine ⟨N, δ, S, _, re, rs, q, fun x S1 v H1 b1 rx q1 => ?_⟩
    obtain ⟨c, rfl, q1⟩ := q1
    refine ⟨c, rx.at_, ?_⟩
    cases c with
    | true => rw [if_pos rfl] at q1 ⊢; exact k _ S1 _ H1 b1 (.of _) q1
    | false => rw [if_neg Bool.false_ne_true] at q1 ⊢; exact ⟨N, δ, S1, Q', re.le (rs.le b1.fr), b1.rs, q1, fun d S' v H' b2 => k d S' v H' (b1.trans b2)⟩
theorem de_not (ha : PE X a (lE X.K ta)) : PE X (.UnaryOp .Not a pos) (lE X.K (dNotV ta)) :=
  PE.wk (pe_not ha) fun _ _ _ ⟨N, δ, S, Q', re, rs, q, k⟩ => by
    refine ⟨N, δ, S, _, re, rs, q, fun x S1 v H1 b1 rx q1 => ?_⟩
    obtain ⟨c, rfl, q1⟩ := q1
    exact ⟨c, rx.at_, k _ S1 _ H1 b1 (.of _) q1⟩

/-! arguments, displays -/
def dNil : TDA := fun _ S Q => Q [] S
def dCons (ta : TDE) (tr : TDA) : TDA := fun δ S Q => ta δ S fun x S1 => tr δ S1 fun xs S2 => Q (x :: xs) S2
variable {e : Expr} {es : List Expr} {te : TDE} {t : TDA}
theorem da_nil : PA X [] (lA X.K dNil) := PA.wk pa_nil fun σ H Q ⟨N, δ, S, Q', re, rs, q, k⟩ => k [] S [] H (.refl rs) .nil q
theorem da_cons (ha : PE X e (lE X.K te)) (hr : PA X es (lA X.K t)) (hs : starEach (e :: es) X.env = (false, eval e X.env) :: starEach es X.env := by rfl) : PA X (e :: es) (lA X.K (dCons te t)) :=
  PA.wk (pa_cons ha hr hs) fun σ H Q ⟨N, δ, S, Q', re, rs, q, k⟩ => by
    refine ⟨N, δ, S, _, re, rs, q, fun x S1 v H1 b1 rx q1 => ?_⟩
    refine ⟨N, δ, S1, _, re.le (rs.le b1.fr), b1.rs, q1, fun xs S2 vs H2 b2 rxs q2 => ?_⟩
    exact k (x :: xs) S2 (v :: vs) H2 (b1.trans b2) (.cons (rx.le (b1.rs.le b2.fr)) rxs) q2
def dTup (t : TDA) : TDE := fun δ S Q => t δ S fun xs S1 => xs.length ≤ sizeLine ∧ Q (.tup xs) S1
def dLst (t : TDA) : TDE := fun δ S Q => t δ S fun xs S1 => xs.length ≤ sizeLine ∧ ∀ p, S1 p = none → Q (.ref p) (up S1 p (.lst xs))
theorem new_tup {K : Kx} {H : Hp} {S : Sto} {p : Addr} {vs : List V} {ds : List D} (rs : RS K H S) (np : H p = none) (r : RDs K H S vs ds) : Bh K H S (upd H p (.tup vs)) S ∧ RD K (upd H p (.tup vs)) S (.ref p) (.tup ds) := by
  obtain ⟨a, b, c⟩ := rs.laid (o := .tup vs) np
  exact ⟨⟨b, a⟩, .of_tup upd_same (r.le c)⟩
theorem new_fl {K : Kx} {H : Hp} {S : Sto} {p : Addr} {vs : List V} {ds : List D} (rs : RS K H S) (np : H p = none) (r : RDs K H S vs ds) : Bh K H S (upd H p (.lst vs)) S ∧ RD K (upd H p (.lst vs)) S (.ref p) (.fl ds) := by
  obtain ⟨a, b, c⟩ := rs.laid (o := .lst vs) np
  exact ⟨⟨b, a⟩, .of_fl (.inl ⟨.inl upd_same, rs.free np, rs.nhid np⟩) (r.le c)⟩
theorem new_lst {K : Kx} {H : Hp} {S : Sto} {p : Addr} {vs : List V} {ds : List D} (rs : RS K H S) (np : H p = none) (r : RDs K H S vs ds) : Bh K H S (upd H p (.lst vs)) (up S p (.lst ds)) := by
  obtain ⟨a, b⟩ := rs.new (o := .lst vs) (m := .lst ds) np fun c => ⟨vs, upd_same, r.le c⟩
  exact ⟨b, a⟩
/-- a list that nobody will change any more -/
def dLf (t : TDA) : TDE := fun δ S Q => t δ S fun xs S1 => xs.length ≤ sizeLine ∧ Q (.fl xs) S1
theorem de_lf (h : PA X es (lA X.K t)) : PE X (.List es pos) (lE X.K (dLf t)) :=
  PE.wk (pe_lst h) fun σ H Q ⟨N, δ, S, Q', re, rs, q, k⟩ => by
    refine ⟨N, δ, S, _, re, rs, q, fun xs S1 vs H1 b1 rx q1 => ?_⟩
    refine ⟨by rw [rx.length]; exact q1.1, fun p np => ?_⟩
    obtain ⟨b2, r2⟩ := new_fl b1.rs np rx
    exact k _ S1 _ _ (b1.trans b2) r2 q1.2
theorem de_tup {x1} (h : PA X es (lA X.K t)) : PE X (.Tuple es x1 pos) (lE X.K (dTup t)) :=
  PE.wk (pe_tup h) fun σ H Q ⟨N, δ, S, Q', re, rs, q, k⟩ => by
    refine ⟨N, δ, S, _, re, rs, q, fun xs S1 vs H1 b1 rx q1 => ?_⟩
    refine ⟨by rw [rx.length]; exact q1.1, fun p np => ?_⟩
    obtain ⟨b2, r2⟩ := new_tup b1.rs np rx
    exact k _ S1 _ _ (b1.trans b2) r2 q1.2
theorem de_lst (h : PA X es (lA X.K t)) : PE X (.List es pos) (lE X.K (dLst t)) :=
  PE.wk (pe_lst h) fun σ H Q ⟨N, δ, S, Q', re, rs, q, k⟩ => by
    refine ⟨N, δ, S, _, re, rs, q, fun xs S1 vs H1 b1 rx q1 => ?_⟩
    refine ⟨by rw [rx.length]; exact q1.1, fun p np => ?_⟩
    exact k _ _ _ _ (b1.trans (new_lst b1.rs np rx)) (.of _) (q1.2 p (b1.rs.free np))
end

/-! ### statements -/
section
variable {X : Cx} {st : Stmt} {rest : List Stmt} {t u : TDS} {e : Expr} {te : TDE} {pos : Pos}
def dNext : TDS := fun D δ S => D.nx δ S
def dSeq (t u : TDS) : TDS := fun D δ S => t { D with nx := u D } δ S
theorem dss_nil : PSs X [] (lS X.K dNext) := PSs.wk pss_nil fun D σ H ⟨N, δ, S, D', re, rs, q, l⟩ => l.nx δ S σ H (.refl rs) re q
theorem dss_cons (h1 : PS X st (lS X.K t)) (h2 : PSs X rest (lS X.K u)) : PSs X (st :: rest) (lS X.K (dSeq t u)) :=
  PSs.wk (pss_cons h1 h2) fun D σ H ⟨N, δ, S, D', re, rs, q, l⟩ => by
    refine ⟨N, δ, S, _, re, rs, q, fun δ' S' σ' H' b r q' => ?_, l.rt, l.bk, l.ct⟩
    exact ⟨N, δ', S', D', r, b.rs, q', l.from b⟩
theorem dss_one (h1 : PS X st (lS X.K t)) : PSs X [st] (lS X.K t) := pss_one h1
def dBreak : TDS := fun D δ S => D.bk δ S
def dCont : TDS := fun D δ S => D.ct δ S
theorem ds_pass : PS X (.Pass pos) (lS X.K dNext) := PS.wk ps_pass fun D σ H ⟨N, δ, S, D', re, rs, q, l⟩ => l.nx δ S σ H (.refl rs) re q
theorem ds_break : PS X (.Break pos) (lS X.K dBreak) := PS.wk ps_break fun D σ H ⟨N, δ, S, D', re, rs, q, l⟩ => l.bk δ S σ H (.refl rs) re q
theorem ds_continue : PS X (.Continue pos) (lS X.K dCont) := PS.wk ps_continue fun D σ H ⟨N, δ, S, D', re, rs, q, l⟩ => l.ct δ S σ H (.refl rs) re q
def dDrop (te : TDE) : TDS := fun D δ S => te δ S fun _ S1 => D.nx δ S1
theorem ds_expr (he : PE X e (lE X.K te)) (hs : swapsWith e none pos.line X.env = pure false := by rfl) : PS X (.Expr e pos) (lS X.K (dDrop te)) :=
  PS.wk (ps_expr he hs) fun D σ H ⟨N, δ, S, D', re, rs, q, l⟩ => ⟨N, δ, S, _, re, rs, q, fun d S1 v H1 b1 _ q1 => l.nx δ S1 σ H1 b1 (re.le (rs.le b1.fr)) q1⟩
def dRet (te : TDE) : TDS := fun D δ S => te δ S D.rt
theorem ds_ret (he : PE X e (lE X.K te)) : PS X (.Return (some e) pos) (lS X.K (dRet te)) :=
  PS.wk (ps_ret he) fun D σ H ⟨N, δ, S, D', re, rs, q, l⟩ => ⟨N, δ, S, _, re, rs, q, fun d S1 v H1 b1 r1 q1 => l.rt d S1 v H1 b1 r1 q1⟩
def dRetN : TDS := fun D _ S => D.rt .non S
theorem ds_retN : PS X (.Return none pos) (lS X.K dRetN) := PS.wk ps_retN fun D σ H ⟨N, δ, S, D', re, rs, q, l⟩ => l.rt _ S _ H (.refl rs) (.of _) q
def dIfS (c : TDT) (t u : TDS) : TDS := fun D δ S => c δ S fun b S1 => if b = true then t D δ S1 else u D δ S1
theorem ds_if {c : Expr} {a b : List Stmt} {tc : TDT} (hc : PT X c (lT X.K tc)) (ha : PSs X a (lS X.K t)) (hb : PSs X b (lS X.K u)) : PS X (.If c a b pos) (lS X.K (dIfS tc t u)) :=
  PS.wk (ps_if hc ha hb) fun D σ H ⟨N, δ, S, D', re, rs, q, l⟩ => by
    refine ⟨N, δ, S, _, re, rs, q, fun i S1 H1 b1 q1 => ?_⟩
    cases i with
    | true => rw [if_pos rfl] at q1 ⊢; exact ⟨N, δ, S1, D', re.le (rs.le b1.fr), b1.rs, q1, l.from b1⟩
    | false => rw [if_neg Bool.false_ne_true] at q1 ⊢; exact ⟨N, δ, S1, D', re.le (rs.le b1.fr), b1.rs, q1, l.from b1⟩
def dNever : TDS := fun _ _ _ => False
theorem ds_never : PS X st (lS X.K dNever) := PS.wk ps_never fun _ _ _ ⟨_, _, _, _, _, _, q, _⟩ => q
theorem dss_never {sts : List Stmt} : PSs X sts (lS X.K dNever) := PSs.wk pss_never fun _ _ _ ⟨_, _, _, _, _, _, q, _⟩ => q
/-! targets -/
def gdName (i : Nat) : TDG := fun d δ S Q => Q (δ.set i (some d)) S
theorem dg_name (i : Nat) {x : Str} (hN : X.N.Nodup) (hi : X.N[i]? = some x := by rfl) (hx : Loc X.env.scope x := by first | exact Or.inl rfl | exact Or.inr rfl) (hf : X.fn x = true ∨ X.env.scope.names.lookup x = some .local := by first | exact .inl rfl | exact .inr rfl | assumption) : PG X (.Name x pos) (lG X.K (gdName i)) :=
  PG.wk (pg_name hN hi hx hf) fun v σ H Q ⟨N, d, δ, S, Q', rd, re, rs, q, k⟩ => k _ S _ H (.refl rs) (re.set rd i) q
def gdNil : TDGs := fun ds δ S Q => ds = [] ∧ Q δ S
def gdCons (t : TDG) (u : TDGs) : TDGs := fun ds δ S Q => ∃ d r, ds = d :: r ∧ t d δ S fun δ' S' => u r δ' S' Q
theorem dgs_nil : PGs X [] (lGs X.K gdNil) := PGs.wk pgs_nil fun v σ H Q ⟨N, d, δ, S, Q', rd, re, rs, q, k⟩ => by
  obtain ⟨rfl, q⟩ := q
  exact ⟨rd.inv_nil, k _ S _ H (.refl rs) re q⟩
theorem dgs_cons {e : Expr} {es : List Expr} {t : TDG} {u : TDGs} (h1 : PG X e (lG X.K t)) (h2 : PGs X es (lGs X.K u))
    (hs : (assignEach (e :: es) X.env).map (·.2) = assign e X.env :: (assignEach es X.env).map (·.2) := by rfl) : PGs X (e :: es) (lGs X.K (gdCons t u)) :=
  PGs.wk (pgs_cons h1 h2 hs) fun vs σ H Q ⟨N, ds, δ, S, Q', rd, re, rs, q, k⟩ => by
    obtain ⟨d, r, rfl, q⟩ := q
    obtain ⟨v, ws, rfl, r1, r2⟩ := rd.inv_cons
    refine ⟨v, ws, rfl, N, d, δ, S, _, r1, re, rs, q, fun δ' S' σ' H' b r' q' => ?_⟩
    exact ⟨N, r, δ', S', Q', r2.le (rs.le b.fr), r', b.rs, q', fun δ2 S2 σ2 H2 b2 => k δ2 S2 σ2 H2 (b.trans b2)⟩
def gdTup (n : Nat) (t : TDGs) : TDG := fun d δ S Q => ∃ ds, d = .tup ds ∧ ds.length = n ∧ t ds δ S Q
theorem dg_tup {es : List Expr} {k : Nat} {t : TDGs} {n : Nat} (hc : X.calm = true) (h : PGs X es (lGs X.K t))
    (hn : (assignEach es X.env).length = n := by rfl) (hst : (assignEach es X.env).findIdx? (·.1) = none := by rfl) : PG X (.Tuple es k pos) (lG X.K (gdTup n t)) :=
  PG.wk (pg_tup hc h hn hst) fun v σ H Q ⟨N, d, δ, S, Q', rd, re, rs, q, k⟩ => by
    obtain ⟨ds, rfl, hl, q⟩ := q
    obtain ⟨a, vs, rfl, sq, rv⟩ := rd.tup_
    exact ⟨a, vs, rfl, .of sq, by rw [rv.length, hl], N, ds, δ, S, Q', rv, re, rs, q, k⟩
def dAsg (te : TDE) (g : TDG) : TDS := fun D δ S => te δ S fun x S1 => g x δ S1 D.nx
theorem lift_asg {K : PySem.W.Frag} {te : TDE} {g : TDG} {D : Ends} {σ : L2.St} {H : Hp} (h : lS K (dAsg te g) D σ H) : tAsg (lE K te) (lG K g) D σ H := by
  obtain ⟨N, δ, S, D', re, rs, q, l⟩ := h
  refine ⟨N, δ, S, _, re, rs, q, fun d S1 v H1 b1 r1 q1 => ?_⟩
  exact ⟨N, d, δ, S1, _, r1, re.le (rs.le b1.fr), b1.rs, q1, fun δ' S' σ' H' b2 => l.nx δ' S' σ' H' (b1.trans b2)⟩
theorem ds_asg {tg e : Expr} {te : TDE} {g : TDG} (he : PE X e (lE X.K te)) (hg : PG X tg (lG X.K g)) (hs : swapsWithSole [tg] e pos.line X.env = pure false := by rfl) (hw : swappedStores [tg] e X.env = pure none := by rfl)
    (h1 : (assignEach [tg] X.env).map (·.2) = [assign tg X.env] := by rfl) : PS X (.Assign [tg] e pos) (lS X.K (dAsg te g)) :=
  PS.wk (ps_asg he hg hs hw h1) fun _ _ _ h => lift_asg h
theorem ds_set (i : Nat) {x : Str} {e : Expr} {te : TDE} {pos' : Pos} (hN : X.N.Nodup) (he : PE X e (lE X.K te)) (hi : X.N[i]? = some x := by rfl) (hx : Loc X.env.scope x := by first | exact Or.inl rfl | exact Or.inr rfl) (hs : swapsWith e (some (.Name x pos')) pos.line X.env = pure false := by rfl) (hf : X.fn x = true ∨ X.env.scope.names.lookup x = some .local := by first | exact .inl rfl | exact .inr rfl | assumption) :
    PS X (.Assign [.Name x pos'] e pos) (lS X.K (dAsg te (gdName i))) :=
  PS.wk (ps_set hN hi hx he hs hf) fun D σ H ⟨N, δ, S, D', re, rs, q, l⟩ => ⟨N, δ, S, _, re, rs, q, fun d S1 v H1 b1 r1 q1 => l.nx _ S1 _ H1 b1 ((re.le (rs.le b1.fr)).set r1 i) q1⟩
def dPar (i j : Nat) (ta : TDA) : TDS := fun D δ S => ta δ S fun ds S1 => ∃ d e, ds = [d, e] ∧ D.nx ((δ.set i (some d)).set j (some e)) S1
theorem ds_par (i j : Nat) {x y : Str} {a b : Expr} {ta : TDA} {px py pt : Pos} {kt k2 pt2} (hc : X.calm = true) (hN : X.N.Nodup) (ha : PA X [a, b] (lA X.K ta)) (hi : X.N[i]? = some x := by rfl) (hj : X.N[j]? = some y := by rfl) (hij : i ≠ j := by decide)
    (hx : X.env.scope.names.lookup x = some .local := by rfl) (hy : X.env.scope.names.lookup y = some .local := by rfl)
    (hw : swappedStores [.Tuple [.Name x px, .Name y py] kt pt] (.Tuple [a, b] k2 pt2) X.env = pure (some [x, y]) := by rfl)
    (hs : swapsWithSole [.Tuple [.Name x px, .Name y py] kt pt] (.Tuple [a, b] k2 pt2) pos.line X.env = pure false := by rfl) :
    PS X (.Assign [.Tuple [.Name x px, .Name y py] kt pt] (.Tuple [a, b] k2 pt2) pos) (lS X.K (dPar i j ta)) :=
  PS.wk (ps_par hc hN hi hj hij hx hy ha hw hs) fun D σ H ⟨N, δ, S, D', re, rs, q, l⟩ => by
    refine ⟨N, δ, S, _, re, rs, q, fun ds S1 vs H1 b1 r1 q1 => ?_⟩
    obtain ⟨d, e, rfl, q1⟩ := q1
    obtain ⟨v, ws, rfl, ra, rb⟩ := r1.inv_cons
    obtain ⟨w, ws', rfl, rb, rc⟩ := rb.inv_cons
    rw [rc.inv_nil]
    exact ⟨v, w, rfl, l.nx _ S1 _ H1 b1 (((re.le (rs.le b1.fr)).set ra i).set rb j) q1⟩
/-! while -/
def dWhile (c : TDT) (tb : TDS) : TDS := fun D δ S => ∃ W : Nat → DSt → Sto → Prop, (∃ m, W m δ S) ∧ ∀ m δ S, W m δ S →
  c δ S fun b S1 => if b = true then tb { D with nx := fun δ' S' => ∃ m', m' < m ∧ W m' δ' S', ct := fun δ' S' => ∃ m', m' < m ∧ W m' δ' S', bk := D.nx } δ S1 else D.nx δ S1
theorem ds_while {c : Expr} {body : List Stmt} {tc : TDT} {tb : TDS} (hp : PassesOwn (model X.prog X.w) X.A X.env X.xe) (hc : PT X c (lT X.K tc)) (hb : PSs X body (lS X.K tb)) : PS X (.While c body [] pos) (lS X.K (dWhile tc tb)) :=
  PS.wk (ps_while hp hc hb) fun D σ H ⟨N, δ, S, D', re, rs, q, l⟩ => by
    obtain ⟨W, ⟨m, w0⟩, turn⟩ := q
    refine ⟨fun n σ1 H1 => ∃ δ1 S1, W n δ1 S1 ∧ RE ⟨X.K, N⟩ H1 S1 σ1 δ1 ∧ Bh ⟨X.K, N⟩ H S H1 S1, ⟨m, δ, S, w0, re, .refl rs⟩, ?_⟩
    rintro n σ1 H1 ⟨δ1, S1, w1, re1, b1⟩
    refine ⟨N, δ1, S1, _, re1, b1.rs, turn n δ1 S1 w1, fun i S2 H2 b2 q2 => ?_⟩
    have b12 := b1.trans b2
    have re2 := re1.le (b1.rs.le b2.fr)
    cases i with
    | false =>
      rw [if_neg Bool.false_ne_true] at q2
      exact iteF (l.nx δ1 S2 σ1 H2 b12 re2 q2)
    | true =>
      rw [if_pos rfl] at q2
      refine iteT ⟨fun σ' H' => ∃ m' δ' S', m' < n ∧ W m' δ' S' ∧ RE ⟨X.K, N⟩ H' S' σ' δ' ∧ Bh ⟨X.K, N⟩ H S H' S', fun σ' H' ⟨m', δ', S', h1, h2, h3, h4⟩ => ⟨m', h1, δ', S', h2, h3, h4⟩, ?_⟩
      refine ⟨N, δ1, S2, _, re2, b2.rs, q2, ⟨?_, ?_, ?_, ?_⟩⟩
      · rintro δ' S' σ' H' b3 r3 ⟨m', h1, h2⟩
        exact ⟨m', δ', S', h1, h2, r3, b12.trans b3⟩
      · intro d S' v H' b3 r3 q3
        exact l.rt d S' v H' (b12.trans b3) r3 q3
      · intro δ' S' σ' H' b3 r3 q3
        exact l.nx δ' S' σ' H' (b12.trans b3) r3 q3
      · rintro δ' S' σ' H' b3 r3 ⟨m', h1, h2⟩
        exact ⟨m', δ', S', h1, h2, r3, b12.trans b3⟩
end
end DL

/-! Data layer, third part: defs and their calls, loops, comprehensions. -/
namespace DL
open PySem L2 PyProof.Rows

/-! ### a def's promise, kept where no repr is under way -/
structure FnG (P : Program) (w : World) (K : PySem.W.Frag) (mg : Str → Option Value) (base : Heap) (CX : CXT) (k : Nat) (f : Addr) (fd : FuncData) (ps : List Str) (sp : Sp) : Prop where
  len : ∀ vs H Q E, sp vs H Q E → vs.length = ps.length
  run : ∀ (A : Around) (outer : List Env) (s : Shared) (H : Hp) (args : Args) (us : List Value) (vs : List V) (Q : VK) (E : XK), Room k A → A.guards = some [] →
    Env0 P w K mg base A outer s H → BindsTo s fd args (ps.zip us) → Vals vs us → sp vs H Q E → codeAny (model P w) A (.call (.ref f) args) (CR CX outer P w H s Q E) s
/-- room, and no guard -/
structure Rg (k : Nat) (A : Around) : Prop where
  r : Room k A
  g : A.guards = some []
theorem Rg.mono {j k : Nat} {A : Around} (r : Rg k A) (h : j ≤ k) : Rg j A := ⟨r.r.mono h, r.g⟩
section
variable {X : Cx} {CX : CXT} {k : Nat} {f C : Addr} {fd : FuncData} {ps : List Str} {sp : Sp} {E : XK}
/-- the value f called with values -/
def CallG (X : Cx) (f : Addr) (sp : Sp) (E : XK) (dv : List V) : Prop := ∀ (pins : List (Addr × Obj)) (σ : L2.St) (H : Hp) (s : Shared) (Q : VK) (us : List Value) (vs : List V), Inv X pins σ H s → Vals vs us → sp (vs ++ dv) H Q E →
  wpAny (model X.prog X.w) X.A (call (.ref f) us) (EP X pins σ Q) X.xe s
theorem FnG.call {dv : List V} {ds : List Value} (F : FnG X.prog X.w X.K X.mg X.base CX k f fd ps sp) (hr : Rg k X.A) (hb : Binds X.K fd ps ds) (hd : Vals dv ds) (hx : Passes CX X E) : CallG X f sp E dv := by
  intro pins σ H s Q us vs I rv h
  have rr : Vals (vs ++ dv) (us ++ ds) := rv.append hd
  have hl : (us ++ ds).length = ps.length := rr.length.symm.trans (F.len _ _ _ _ h)
  apply wpAny_call
  apply codeAny_mono (F.run X.A X.stack s H ⟨us, []⟩ (us ++ ds) (vs ++ dv) Q E hr.r hr.g I.env0 (hb s us I.kIn hl) rr h)
  intro res s' hq
  match res, hq with
  | .error e, hq => exact hx pins σ H s e s' I hq
  | .ok (.ret u), hq => exact I.after hq
  | .ok .next, hq => exact hq.elim
  | .ok .brk, hq => exact hq.elim
  | .ok .cont, hq => exact hq.elim
variable {x m : Str} {p pos apos : Pos} {e o : Expr} {es : List Expr} {ta : TE} {t : TA} {dv : List V}
/-- f(e, ..) of a def of the module -/
theorem pg_call (G : CallG X f sp E dv) (hg : Gl X x) (hm : X.mg x = some (.ref f)) (hk : PySem.W.keepIn X.K (.ref f) = true) (ha : PA X (e :: es) t) (hdb : (x == ("__debug__" : Str)) = false := by decide)
    (he : starEach (e :: es) X.env = (false, eval e X.env) :: starEach es X.env := by rfl) (hpl : (backTo pos (starEach es X.env)).any (·.1) = false := by rfl) : PE X (.Call (.Name x p) (e :: es) [] pos) (tCall sp dv E t) := by
  constructor
  intro pins s σ H Q I h
  apply wpAny_Call_Name_kw
  apply ld_glob I hg hm _ hdb
  apply PySem.W.callWith_K (h₀ := X.base) I.ok.mod.kin hk _ he hpl
  apply thn (ha.run pos pins s σ H _ I h)
  rintro us s1 ⟨vs, H1, I1, rv, q⟩
  exact ⟨I1.kIn, G pins σ H1 s1 Q us vs I1 rv q⟩
theorem pg_call0 (G : CallG X f sp E dv) (hg : Gl X x) (hm : X.mg x = some (.ref f)) (hk : PySem.W.keepIn X.K (.ref f) = true) (hdb : (x == ("__debug__" : Str)) = false := by decide) : PE X (.Call (.Name x p) [] [] pos) (tCall sp dv E tNil) := by
  constructor
  intro pins s σ H Q I h
  apply wpAny_Call_Name_kw
  apply ld_glob I hg hm _ hdb
  apply PySem.W.callWith_K0 I.kIn hk
  exact G pins σ H s Q [] [] I .nil h
/-- with keywords -/
def CallGK (X : Cx) (f : Addr) (sp : Sp) (E : XK) (ks : List Str) (gV : List V → List V → List V) : Prop := ∀ (pins : List (Addr × Obj)) (σ : L2.St) (H : Hp) (s : Shared) (Q : VK) (us ws : List Value) (vs zs : List V), Inv X pins σ H s → Vals vs us → Vals zs ws → sp (gV vs zs) H Q E →
  wpAny (model X.prog X.w) X.A (call (.ref f) us (ks.zip ws)) (EP X pins σ Q) X.xe s
theorem FnG.callK {ks : List Str} {g : List Value → List Value → List Value} {gV : List V → List V → List V} (F : FnG X.prog X.w X.K X.mg X.base CX k f fd ps sp) (hr : Rg k X.A) (hb : KBinds X.K fd ps ks g gV) (hx : Passes CX X E) : CallGK X f sp E ks gV := by
  intro pins σ H s Q us ws vs zs I rv rz h
  have rr := hb.rel rv rz
  have hl : (g us ws).length = ps.length := rr.length.symm.trans (F.len _ _ _ _ h)
  apply wpAny_call
  apply codeAny_mono (F.run X.A X.stack s H ⟨us, ks.zip ws⟩ (g us ws) (gV vs zs) Q E hr.r hr.g I.env0 (hb.to s us ws I.kIn hl) rr h)
  intro res s' hq
  match res, hq with
  | .error e, hq => exact hx pins σ H s e s' I hq
  | .ok (.ret u), hq => exact I.after hq
  | .ok .next, hq => exact hq.elim
  | .ok .brk, hq => exact hq.elim
  | .ok .cont, hq => exact hq.elim
theorem pg_callK {ks : List Str} {gV : List V → List V → List V} {kws : List Keyword} {tk : TA} (G : CallGK X f sp E ks gV) (hg : Gl X x) (hm : X.mg x = some (.ref f)) (hk : PySem.W.keepIn X.K (.ref f) = true)
    (ha : PA X (e :: es) t) (hkw : PK X kws tk) (hall : (backToKw pos (keywordEach kws X.env)).all (·.1.isSome) = true := by rfl) (hks : (backToKw pos (keywordEach kws X.env)).filterMap (·.1) = ks := by rfl) (hdb : (x == ("__debug__" : Str)) = false := by decide)
    (he : starEach (e :: es) X.env = (false, eval e X.env) :: starEach es X.env := by rfl) (hpl : ((backTo pos (starEach (e :: es) X.env)).any (·.1) || (backToKw pos (keywordEach kws X.env)).any (·.1.isNone)) = false := by rfl) :
    PE X (.Call (.Name x p) (e :: es) kws pos) (tCallK sp gV E t tk) := by
  constructor
  intro pins s σ H Q I h
  apply wpAny_Call_Name_kw
  apply ld_glob I hg hm _ hdb
  apply PySem.W.callWith_KW (h₀ := X.base) I.ok.mod.kin hk hall _ hpl he
  apply thn (ha.run pos pins s σ H _ I h)
  rintro us s1 ⟨vs, H1, I1, rv, q⟩
  apply thn (hkw.run pos pins s1 σ H1 _ I1 q)
  rintro ws s2 ⟨zs, H2, I2, rz, q2⟩
  rw [hks]
  exact ⟨I2.kIn, G pins σ H2 s2 Q us ws vs zs I2 rv rz q2⟩
theorem pg_callK0 {ks : List Str} {gV : List V → List V → List V} {kws : List Keyword} {tk : TA} (G : CallGK X f sp E ks gV) (hg : Gl X x) (hm : X.mg x = some (.ref f)) (hk : PySem.W.keepIn X.K (.ref f) = true)
    (hkw : PK X kws tk) (hall : (backToKw pos (keywordEach kws X.env)).all (·.1.isSome) = true := by rfl) (hks : (backToKw pos (keywordEach kws X.env)).filterMap (·.1) = ks := by rfl) (hdb : (x == ("__debug__" : Str)) = false := by decide)
    (hpl : ((backTo pos (starEach [] X.env)).any (·.1) || (backToKw pos (keywordEach kws X.env)).any (·.1.isNone)) = false := by rfl) :
    PE X (.Call (.Name x p) [] kws pos) (tCallK sp gV E tNil tk) := by
  constructor
  intro pins s σ H Q I h
  apply wpAny_Call_Name_kw
  apply ld_glob I hg hm _ hdb
  apply PySem.W.callWith_KW0 (h₀ := X.base) I.ok.mod.kin hk hall _ hpl
  apply thn (hkw.run pos pins s σ H _ I h)
  rintro ws s2 ⟨zs, H2, I2, rz, q2⟩
  rw [hks]
  exact ⟨I2.kIn, G pins σ H2 s2 Q [] ws [] zs I2 .nil rz q2⟩
end
/-- a def by its body -/
theorem fnG_of {CX : CXT} {P : Program} {w : World} {K : PySem.W.Frag} {mg : Str → Option Value} {base : Heap} {k : Nat} {x qual : Str} {st : Stmt} {f : Addr} {fd : FuncData} {N ps : List Str} {sp : Sp} (F : Fun K x qual st f fd) (S : FnScope N ps (defScope st))
    (len : ∀ vs H Q E, sp vs H Q E → vs.length = ps.length)
    (hbody : ∀ (cdv : Value) (A : Around) (outer : List Env) (s : Shared) (H : Hp) (vs : List V) (Q : VK) (E : XK), PySem.W.codeIn K cdv qual = true → Rg k (A.deeper (envOfC qual (defScope st) s.heap.objs.size f cdv)) → sp vs H Q E →
      ∃ t, PSs (cxOf CX P w K mg base N qual (defScope st) f cdv A outer s H E) (defBody st) t ∧ t { nx := fun _ H' => Q .non H', rt := Q } (L2.start N vs) H) : FnG P w K mg base CX (k + 1) f fd ps sp := by
  obtain ⟨oc, od, kV, doc, pm, an, cdv, ct, osl, rfl, lk, hcd⟩ := F.ex
  refine ⟨len, ?_⟩
  intro A outer s H args us vs Q E hr hg e0 hb rv hsp
  have hl := len _ _ _ _ hsp
  have KX : K.In s.heap := e0.mod.kin.keeps fun b o e => (e0.bs b o e).1
  have lim : s.heap.NoLimit := e0.mod.nolimit.keeps fun b o e => (e0.bs b o e).1
  have kinds : ∀ y ∈ ps.zip us, (defScope st).names.lookup y.1 = some .local ∨ ((defScope st).names.lookup y.1 = some .cell ∧ ((cellsFrom (s.heap.objs.size + 1) (defScope st).names []).lookup y.1).isSome = true) := by
    rintro ⟨n, v⟩ hy
    have hn := (List.of_mem_zip hy).1
    exact (S.par n hn).elim Or.inl fun q => Or.inr ⟨q, PySem.W.cellsFrom_some _ _ _ (.inl q)⟩
  apply codeAny_call_function hr.depth (KX _ _ lk) rfl S.co S.gen rfl (PySem.W.codeRec_of KX hcd)
  apply hb
  apply wpAny_newFunctionEnv_cells S.kind kinds
  intro env he s1 xc
  subst he
  refine ⟨lim.keeps xc.toInCall.keep, codeAny_func ?_⟩
  obtain ⟨t, ht, hq⟩ := hbody cdv A outer s H vs Q E hcd ⟨hr.deeper _, hg⟩ hsp
  have I : Inv (cxOf CX P w K mg base N qual (defScope st) f cdv A outer s H E) [] (L2.start N vs) H s1 := inv_start S hr.hd e0 hl rv xc
  apply wpAny_mono (ht.run [] s1 (L2.start N vs) H _ I hq) _ fun _ _ z => z
  intro fl s' hs
  match fl, hs with
  | .ret u, ⟨v, σ', H', J, rv, q⟩ => exact ⟨v, H', J.os, J.bare, J.base, J.hok, rv, q⟩
  | .next, ⟨σ', H', J, q⟩ => exact ⟨V.non, H', J.os, J.bare, J.base, J.hok, rfl, q⟩
  | .brk, ⟨_, _, _, q⟩ => exact q.elim
  | .cont, ⟨_, _, _, q⟩ => exact q.elim

/-! ### promises over data -/
/-- an exception: its class, its attributes, the store -/
abbrev XD := Value → List (Str × D) → Sto → Prop
abbrev SpD := List D → Sto → KD → XD → Prop
def X0 : XD := fun _ _ _ => False
section
variable (K : PySem.W.Frag)
/-- how an exception's attributes lie -/
def XAt (K : Kx) (H' : Hp) (S' : Sto) (fs : List (Str × D)) (dd : Option Addr) : Prop := (fs = [] ∧ dd = none) ∨ ∃ dx gs, dd = some dx ∧ H' dx = some (.xd gs) ∧ gs.map (·.1) = fs.map (·.1) ∧ RDs K H' S' (gs.map (·.2)) (fs.map (·.2))
def lSp (sp : SpD) : Sp := fun vs H Q E => ∃ N ds S Q' E', RDs ⟨K, N⟩ H S vs ds ∧ RS ⟨K, N⟩ H S ∧ sp ds S Q' E' ∧ (∀ d S' v H', Bh ⟨K, N⟩ H S H' S' → RD ⟨K, N⟩ H' S' v d → Q' d S' → Q v H') ∧
  ∀ c fs S' dd H', Bh ⟨K, N⟩ H S H' S' → XAt ⟨K, N⟩ H' S' fs dd → E' c fs S' → E c dd H'
end
abbrev FnD (P : Program) (w : World) (K : PySem.W.Frag) (mg : Str → Option Value) (base : Heap) (CX : CXT) (k : Nat) (f : Addr) (fd : FuncData) (ps : List Str) (sp : SpD) : Prop := FnG P w K mg base CX k f fd ps (lSp K sp)
/-- the names' values at the entry -/
def startD (N : List Str) (ds : List D) : DSt := ds.map some ++ List.replicate (N.length - ds.length) none
theorem re_start {K : Kx} {H : Hp} {S : Sto} {N : List Str} {vs : List V} {ds : List D} (r : RDs K H S vs ds) : RE K H S (L2.start N vs) (startD N ds) := by
  have hl := r.length
  refine ⟨by simp [L2.start, startD, hl], fun i d e => ?_⟩
  unfold startD at e
  by_cases hi : i < ds.length
  · rw [List.getElem?_append_left (by simpa using hi), List.getElem?_map] at e
    cases q : ds[i]? with
    | none => rw [q] at e; cases e
    | some d' =>
      rw [q] at e
      cases e
      obtain ⟨v, hv, rv⟩ := r.get q
      refine ⟨v, ?_, rv⟩
      unfold L2.start
      rw [List.getElem?_append_left (by simp; omega), List.getElem?_map, hv]
      rfl
  · rw [List.getElem?_append_right (by simpa using hi), List.getElem?_replicate] at e
    split at e <;> cases e
/-- a value may be seen as another one, over a smaller store -/
def VW (d : D) (S' : Sto) (d1 : D) (S1 : Sto) : Prop := Sub S1 S' ∧ ∀ K H v, RS K H S' → RD K H S' v d → RD K H S1 v d1
theorem VW.refl (d : D) (S : Sto) : VW d S d S := ⟨.refl, fun _ _ _ _ h => h⟩
theorem VW.sub {d : D} {S S1 : Sto} (h : Sub S1 S) : VW d S d S1 := ⟨h, fun _ _ _ _ r => r.le h.le⟩
/-- a list that is handed out is changed no more -/
theorem VW.fz {p : Addr} {ds : List D} {S S1 : Sto} (h : Sub S1 S) (e : S p = some (.lst ds)) (n : S1 p = none) : VW (.ref p) S (.fl ds) S1 := by
  refine ⟨h, fun K H v rs r => ?_⟩
  rw [r.at_]
  obtain ⟨vs, h1, h2⟩ := rs.ob p _ e
  exact .of_fl (.inl ⟨.inl h1, n, rs.kn e⟩) (h2.le h.le)
/-- what a body is to reach -/
def bodyE (Q : KD) : DEnds where
  nx := fun _ S' => ∃ S1, Sub S1 S' ∧ Q .non S1
  rt := fun d S' => ∃ d1 S1, VW d S' d1 S1 ∧ Q d1 S1
section
variable {P : Program} {w : World} {K : PySem.W.Frag} {mg : Str → Option Value} {base : Heap} {CX : CXT} {k : Nat} {x qual : Str} {st : Stmt} {f : Addr} {fd : FuncData} {N ps : List Str} {sp : SpD}
/-- a def that lets nothing out -/
theorem okD (F : Fun K x qual st f fd) (S : FnScope N ps (defScope st)) (len : ∀ ds S Q E, sp ds S Q E → ds.length = ps.length)
    (hbody : ∀ (cdv : Value) (A : Around) (outer : List Env) (s : Shared) (H : Hp) (E : XK) (ds : List D) (S : Sto) (Q : KD) (E' : XD), PySem.W.codeIn K cdv qual = true → Rg k (A.deeper (envOfC qual (defScope st) s.heap.objs.size f cdv)) → sp ds S Q E' →
      ∃ t, PSs (cxOf CX P w K mg base N qual (defScope st) f cdv A outer s H E).nox (defBody st) (lS K t) ∧ t (bodyE Q) (startD N ds) S) : FnD P w K mg base CX (k + 1) f fd ps sp := by
  refine fnG_of F S (fun vs H Q E => ?_) fun cdv A outer s H vs Q E hcd hr h => ?_
  · rintro ⟨N, ds, S, Q', E', r, rs, q, _⟩
    exact r.length.trans (len _ _ _ _ q)
  · obtain ⟨N', ds, S, Q', E', r, rs, q, k1, k2⟩ := h
    obtain ⟨t, ht, hq⟩ := hbody cdv A outer s H E ds S Q' E' hcd hr q
    refine ⟨_, ht.nox, N', startD N ds, S, bodyE Q', re_start r, rs, hq, ⟨?_, ?_, fun _ _ _ _ _ _ z => z.elim, fun _ _ _ _ _ _ z => z.elim⟩⟩
    · rintro δ' S' σ' H' b re ⟨S1, su, q1⟩
      exact k1 .non S1 .non H' ⟨b.fr.sub su, b.rs.sub su⟩ (.of _) q1
    · rintro d S' v H' b rv ⟨d1, S1, ⟨su, vw⟩, q1⟩
      exact k1 d1 S1 v H' ⟨b.fr.sub su, b.rs.sub su⟩ (vw _ _ _ b.rs rv) q1
end

/-! ### calls over data -/
section
variable {X : Cx} {CX : CXT} {k : Nat} {f C : Addr} {fd : FuncData} {ps : List Str} {sp : SpD}
def dCall (sp : SpD) (dv : List D) (E : XD) (t : TDA) : TDE := fun δ S Q => t δ S fun ds S1 => sp (ds ++ dv) S1 Q E
/-- an exception of the callee, lifted -/
def lX (K : PySem.W.Frag) (E : XD) : XK := fun c dd H' => ∃ N fs S', RS ⟨K, N⟩ H' S' ∧ XAt ⟨K, N⟩ H' S' fs dd ∧ E c fs S'
theorem lX0 {K : PySem.W.Frag} : lX K X0 = E0 := by
  funext c dd H'
  apply propext
  constructor
  · rintro ⟨_, _, _, _, _, h⟩; exact h
  · intro h; exact h.elim
theorem lift_sp {K : PySem.W.Frag} {N : Addr → Prop} {sp : SpD} {E : XD} {ds : List D} {S : Sto} {Q' : KD} {vs : List V} {H : Hp} {Q : VK} (r : RDs ⟨K, N⟩ H S vs ds) (rs : RS ⟨K, N⟩ H S) (q : sp ds S Q' E) (kk : ∀ d S' v H', Bh ⟨K, N⟩ H S H' S' → RD ⟨K, N⟩ H' S' v d → Q' d S' → Q v H') : lSp K sp vs H Q (lX K E) :=
  ⟨N, ds, S, Q', E, r, rs, q, kk, fun c fs S' dd H' b e h => ⟨N, fs, S', b.rs, e, h⟩⟩
variable {x m : Str} {p pos apos : Pos} {e o : Expr} {es : List Expr} {ta : TDE} {t : TDA}
theorem de_call (F : FnD X.prog X.w X.K X.mg X.base CX0 k f fd ps sp) (hr : Rg k X.A) (hb : Binds X.K fd ps []) (hg : Gl X x) (hm : X.mg x = some (.ref f)) (hk : PySem.W.keepIn X.K (.ref f) = true) (ha : PA X (e :: es) (lA X.K t)) (hdb : (x == ("__debug__" : Str)) = false := by decide)
    (he : starEach (e :: es) X.env = (false, eval e X.env) :: starEach es X.env := by rfl) (hpl : (backTo pos (starEach es X.env)).any (·.1) = false := by rfl) : PE X (.Call (.Name x p) (e :: es) [] pos) (lE X.K (dCall sp [] X0 t)) := by
  refine PE.wk (pg_call (F.call hr hb .nil pass0) hg hm hk ha hdb he hpl) fun σ H Q h => ?_
  obtain ⟨N, δ, S, Q', re, rs, q, kk⟩ := h
  refine ⟨N, δ, S, _, re, rs, q, fun ds S1 vs H1 b1 r1 q1 => ?_⟩
  rw [List.append_nil] at q1 ⊢
  rw [← lX0 (K := X.K)]
  exact lift_sp r1 b1.rs q1 fun d S' v H' b2 => kk d S' v H' (b1.trans b2)
/-- with defaults -/
theorem de_callD {dv : List V} {dd : List D} {us : List Value} (F : FnD X.prog X.w X.K X.mg X.base CX0 k f fd ps sp) (hr : Rg k X.A) (hb : Binds X.K fd ps us) (hd : Vals dv us) (hdd : ∀ N H S, RDs ⟨X.K, N⟩ H S dv dd) (hg : Gl X x) (hm : X.mg x = some (.ref f)) (hk : PySem.W.keepIn X.K (.ref f) = true) (ha : PA X (e :: es) (lA X.K t)) (hdb : (x == ("__debug__" : Str)) = false := by decide)
    (he : starEach (e :: es) X.env = (false, eval e X.env) :: starEach es X.env := by rfl) (hpl : (backTo pos (starEach es X.env)).any (·.1) = false := by rfl) : PE X (.Call (.Name x p) (e :: es) [] pos) (lE X.K (dCall sp dd X0 t)) := by
  refine PE.wk (pg_call (F.call hr hb hd pass0) hg hm hk ha hdb he hpl) fun σ H Q h => ?_
  obtain ⟨N, δ, S, Q', re, rs, q, kk⟩ := h
  refine ⟨N, δ, S, _, re, rs, q, fun ds S1 vs H1 b1 r1 q1 => ?_⟩
  rw [← lX0 (K := X.K)]
  exact lift_sp (r1.append (hdd _ _ _)) b1.rs q1 fun d S' v H' b2 => kk d S' v H' (b1.trans b2)
theorem de_call0 (F : FnD X.prog X.w X.K X.mg X.base CX0 k f fd ps sp) (hr : Rg k X.A) (hb : Binds X.K fd ps []) (hg : Gl X x) (hm : X.mg x = some (.ref f)) (hk : PySem.W.keepIn X.K (.ref f) = true) (hdb : (x == ("__debug__" : Str)) = false := by decide) : PE X (.Call (.Name x p) [] [] pos) (lE X.K (dCall sp [] X0 dNil)) := by
  refine PE.wk (pg_call0 (F.call hr hb .nil pass0) hg hm hk hdb) fun σ H Q h => ?_
  obtain ⟨N, δ, S, Q', re, rs, q, kk⟩ := h
  show lSp X.K sp ([] ++ []) H Q E0
  rw [← lX0 (K := X.K)]
  exact lift_sp .nil rs q kk
/-- keywords: how they are put in order, for values and for data -/
structure PutK (gV : List V → List V → List V) (gD : List D → List D → List D) : Prop where
  to : ∀ {K : Kx} {H : Hp} {S : Sto} {vs zs : List V} {ds es : List D}, RDs K H S vs ds → RDs K H S zs es → RDs K H S (gV vs zs) (gD ds es)
def dCallK (sp : SpD) (gD : List D → List D → List D) (E : XD) (t tk : TDA) : TDE := fun δ S Q => t δ S fun ds S1 => tk δ S1 fun es S2 => sp (gD ds es) S2 Q E
theorem dk_nil : PK X [] (lA X.K dNil) := ⟨fun pos pins s σ H Q I ⟨N, δ, S, Q', re, rs, q, k⟩ => pk_nil.run pos pins s σ H Q I (k [] S [] H (.refl rs) .nil q)⟩
theorem dk_cons {nm : Option Str} {kpos : Pos} {kws : List Keyword} {te : TDE} (ha : PE X e (lE X.K te)) (hr : PK X kws (lA X.K t)) : PK X (⟨nm, e, kpos⟩ :: kws) (lA X.K (dCons te t)) :=
  ⟨fun pos pins s σ H Q I ⟨N, δ, S, Q', re, rs, q, k⟩ => (pk_cons ha hr).run pos pins s σ H Q I (by
    refine ⟨N, δ, S, _, re, rs, q, fun x S1 v H1 b1 rx q1 => ?_⟩
    refine ⟨N, δ, S1, _, re.le (rs.le b1.fr), b1.rs, q1, fun xs S2 vs H2 b2 rxs q2 => ?_⟩
    exact k (x :: xs) S2 (v :: vs) H2 (b1.trans b2) (.cons (rx.le (b1.rs.le b2.fr)) rxs) q2)⟩
theorem de_callK {ks : List Str} {g : List Value → List Value → List Value} {gV : List V → List V → List V} {gD : List D → List D → List D} {kws : List Keyword} {tk : TDA} (F : FnD X.prog X.w X.K X.mg X.base CX0 k f fd ps sp) (hr : Rg k X.A) (hb : KBinds X.K fd ps ks g gV) (hd : PutK gV gD)
    (hg : Gl X x) (hm : X.mg x = some (.ref f)) (hk : PySem.W.keepIn X.K (.ref f) = true) (ha : PA X (e :: es) (lA X.K t)) (hkw : PK X kws (lA X.K tk)) (hall : (backToKw pos (keywordEach kws X.env)).all (·.1.isSome) = true := by rfl) (hks : (backToKw pos (keywordEach kws X.env)).filterMap (·.1) = ks := by rfl) (hdb : (x == ("__debug__" : Str)) = false := by decide)
    (he : starEach (e :: es) X.env = (false, eval e X.env) :: starEach es X.env := by rfl) (hpl : ((backTo pos (starEach (e :: es) X.env)).any (·.1) || (backToKw pos (keywordEach kws X.env)).any (·.1.isNone)) = false := by rfl) :
    PE X (.Call (.Name x p) (e :: es) kws pos) (lE X.K (dCallK sp gD X0 t tk)) := by
  refine PE.wk (pg_callK (F.callK hr hb pass0) hg hm hk ha hkw hall hks hdb he hpl) fun σ H Q h => ?_
  obtain ⟨N, δ, S, Q', re, rs, q, kk⟩ := h
  refine ⟨N, δ, S, _, re, rs, q, fun ds S1 vs H1 b1 r1 q1 => ?_⟩
  refine ⟨N, δ, S1, _, re.le (rs.le b1.fr), b1.rs, q1, fun es S2 zs H2 b2 r2 q2 => ?_⟩
  rw [← lX0 (K := X.K)]
  exact lift_sp (hd.to (r1.le (b1.rs.le b2.fr)) r2) b2.rs q2 fun d S' v H' b3 => kk d S' v H' ((b1.trans b2).trans b3)
theorem de_callK0 {ks : List Str} {g : List Value → List Value → List Value} {gV : List V → List V → List V} {gD : List D → List D → List D} {kws : List Keyword} {tk : TDA} (F : FnD X.prog X.w X.K X.mg X.base CX0 k f fd ps sp) (hr : Rg k X.A) (hb : KBinds X.K fd ps ks g gV) (hd : PutK gV gD)
    (hg : Gl X x) (hm : X.mg x = some (.ref f)) (hk : PySem.W.keepIn X.K (.ref f) = true) (hkw : PK X kws (lA X.K tk)) (hall : (backToKw pos (keywordEach kws X.env)).all (·.1.isSome) = true := by rfl) (hks : (backToKw pos (keywordEach kws X.env)).filterMap (·.1) = ks := by rfl) (hdb : (x == ("__debug__" : Str)) = false := by decide)
    (hpl : ((backTo pos (starEach [] X.env)).any (·.1) || (backToKw pos (keywordEach kws X.env)).any (·.1.isNone)) = false := by rfl) :
    PE X (.Call (.Name x p) [] kws pos) (lE X.K (dCallK sp gD X0 dNil tk)) := by
  refine PE.wk (pg_callK0 (F.callK hr hb pass0) hg hm hk hkw hall hks hdb hpl) fun σ H Q h => ?_
  obtain ⟨N, δ, S, Q', re, rs, q, kk⟩ := h
  refine ⟨N, δ, S, _, re, rs, q, fun es S2 zs H2 b2 r2 q2 => ?_⟩
  rw [← lX0 (K := X.K)]
  exact lift_sp (hd.to .nil r2) b2.rs q2 fun d S' v H' b3 => kk d S' v H' (b2.trans b3)
/-- built-ins by name -/
def dCB (r : RDL) (t : TDA) : TDE := fun δ S Q => t δ S fun ds S1 => r ds S1 Q
theorem lift_cb {K : PySem.W.Frag} {r : RDL} {t : TDA} {σ : L2.St} {H : Hp} {Q : VK} (h : lE K (dCB r t) σ H Q) : tCB (lL K r) (lA K t) σ H Q := by
  obtain ⟨N, δ, S, Q', re, rs, q, kk⟩ := h
  exact ⟨N, δ, S, _, re, rs, q, fun ds S1 vs H1 b1 r1 q1 => ⟨N, ds, S1, Q', r1, b1.rs, q1, fun d S' w H' b2 => kk d S' w H' (b1.trans b2)⟩⟩
theorem de_callB {id : String} {r : RDL} (hc : CallR X (.builtin id) (lL X.K r)) (hg : Gl X x) (hm : X.mg x = none) (ha : PA X (e :: es) (lA X.K t)) (hv : bootBuiltins x = some (.builtin id) := by first | decide +kernel) (hn : x ≠ "__name__" := by decide) (hdb : (x == ("__debug__" : Str)) = false := by decide)
    (he : starEach (e :: es) X.env = (false, eval e X.env) :: starEach es X.env := by rfl) (hpl : (backTo pos (starEach es X.env)).any (·.1) = false := by rfl) : PE X (.Call (.Name x p) (e :: es) [] pos) (lE X.K (dCB r t)) :=
  PE.wk (pe_callB hc hg hm hv ha hn hdb he hpl) fun _ _ _ h => lift_cb h
theorem de_callTy {T : String} {r : RDL} (hc : CallR X (.type T) (lL X.K r)) (hg : Gl X x) (hm : X.mg x = none) (ha : PA X (e :: es) (lA X.K t)) (hv : bootBuiltins x = some (.type T) := by first | decide +kernel) (hn : x ≠ "__name__" := by decide) (hdb : (x == ("__debug__" : Str)) = false := by decide)
    (he : starEach (e :: es) X.env = (false, eval e X.env) :: starEach es X.env := by rfl) (hpl : (backTo pos (starEach es X.env)).any (·.1) = false := by rfl) : PE X (.Call (.Name x p) (e :: es) [] pos) (lE X.K (dCB r t)) :=
  PE.wk (pe_callTy hc hg hm hv ha hn hdb he hpl) fun _ _ _ h => lift_cb h
end

/-! ### what is walked -/
/-- at turn i, over a store: an item, or the end -/
abbrev ItD := Nat → Sto → Option (Option D)
abbrev TDI := DSt → Sto → (ItD → Sto → Prop) → Prop
/-- the walk of data, seen below -/
def ItRel (K : Kx) (H0 : Hp) (S0 : Sto) (J : ItD) (Jv : It) : Prop := ∀ (M : Addr → Prop) i H S, Bh ⟨K.k, M⟩ H0 S0 H S → TupLe K H0 S0 ⟨K.k, M⟩ H S →
  (J i S = some none → Jv.stop i H) ∧ ∀ d, J i S = some (some d) → Jv.go i H ∧ ∀ x H', Jv.yld i H x H' → Bh ⟨K.k, M⟩ H S H' S ∧ RD ⟨K.k, M⟩ H' S x d
def lI (K : PySem.W.Frag) (t : TDI) : TI := fun σ H R => ∃ N δ S R', RE ⟨K, N⟩ H S σ δ ∧ RS ⟨K, N⟩ H S ∧ t δ S R' ∧ ∀ J S' Jv H', Bh ⟨K, N⟩ H S H' S' → ItRel ⟨K, N⟩ H' S' J Jv → R' J S' → R Jv H'
def seqI (ds : List D) : ItD := fun i _ => some ds[i]?
def listI (a : Addr) : ItD := fun i S => match S a with
  | some (.lst xs) => some xs[i]?
  | _ => none
section
variable {X : Cx} {tg iter e : Expr} {te : TDE} {pos p : Pos}
theorem PI.wk {t t' : TI} (h : PI X tg e t) (k : ∀ σ H R, t' σ H R → t σ H R) : PI X tg e t' := ⟨fun pins s σ H Q I q => h.run pins s σ H Q I (k σ H Q q)⟩
/-- a tuple's items, a frozen list's, a list's as it stands -/
def iSeq (te : TDE) : TDI := fun δ S R => te δ S fun x S1 => (∃ ds, x = .tup ds ∧ R (seqI ds) S1) 
theorem rel_tup {K : Kx} {H0 : Hp} {S0 : Sto} {a : Addr} {vs : List V} {ds : List D} (rs : RS K H0 S0) (h : ∀ H, (∀ xs, H0 a = some (.tup xs) → H a = some (.tup xs)) → SqT K.k H a vs) (r : RDs K H0 S0 vs ds) : ItRel K H0 S0 (seqI ds) (Itt K.k a) := by
  intro M i H S b le
  have h' := h H fun xs e => le.t _ _ e
  have r' := r.le le
  refine ⟨fun e => ?_, fun d e => ?_⟩
  · have e' : ds[i]? = none := Option.some.inj e
    exact ⟨vs, h', by rw [r.length]; exact List.getElem?_eq_none_iff.mp e'⟩
  · have e' : ds[i]? = some d := Option.some.inj e
    obtain ⟨v, hv, rv⟩ := r'.get e'
    refine ⟨⟨vs, v, h', hv⟩, fun x H' y => ?_⟩
    obtain ⟨rfl, y⟩ := y
    have q := y vs h'
    rw [hv] at q
    cases q
    exact ⟨.refl b.rs, rv⟩
theorem rel_fl {K : Kx} {H0 : Hp} {S0 : Sto} {a : Addr} {vs : List V} {ds : List D} (rs : RS K H0 S0) (h : Fz K H0 S0 a vs) (r : RDs K H0 S0 vs ds) : ItRel K H0 S0 (seqI ds) (Itl K.k a) := by
  intro M i H S b le
  have h' := (le.l _ _ h).sq
  have r' := r.le le
  refine ⟨fun e => ?_, fun d e => ?_⟩
  · have e' : ds[i]? = none := Option.some.inj e
    exact ⟨vs, h', by rw [r.length]; exact List.getElem?_eq_none_iff.mp e'⟩
  · have e' : ds[i]? = some d := Option.some.inj e
    obtain ⟨v, hv, rv⟩ := r'.get e'
    refine ⟨⟨vs, v, h', hv⟩, fun x H' y => ?_⟩
    obtain ⟨rfl, y⟩ := y
    have q := y vs h'
    rw [hv] at q
    cases q
    exact ⟨.refl b.rs, rv⟩
theorem rel_lst {K : Kx} {H0 : Hp} {S0 : Sto} {a : Addr} : ItRel K H0 S0 (listI a) (Itl K.k a) := by
  intro M i H S b le
  unfold listI
  cases e0 : S a with
  | none => exact ⟨fun e => by simp at e, fun d e => by simp at e⟩
  | some o =>
    cases o with
    | lst xs =>
      obtain ⟨vs, h1, h2⟩ := b.rs.ob a _ e0
      have h' : SqL K.k H a vs := .of h1
      refine ⟨fun e => ?_, fun d e => ?_⟩
      · have e' : xs[i]? = none := Option.some.inj e
        exact ⟨vs, h', by rw [h2.length]; exact List.getElem?_eq_none_iff.mp e'⟩
      · have e' : xs[i]? = some d := Option.some.inj e
        obtain ⟨v, hv, rv⟩ := h2.get e'
        refine ⟨⟨vs, v, h', hv⟩, fun x H' y => ?_⟩
        obtain ⟨rfl, y⟩ := y
        have q := y vs h'
        rw [hv] at q
        cases q
        exact ⟨.refl b.rs, rv⟩
    | _ => exact ⟨fun e => by simp at e, fun d e => by simp at e⟩
/-- a tuple is walked -/
def iTupD (te : TDE) : TDI := fun δ S R => te δ S fun x S1 => ∃ ds, (x = .tup ds ∨ x = .wt ds) ∧ R (seqI ds) S1
theorem di_tup (he : PE X e (lE X.K te)) : PI X tg e (lI X.K (iTupD te)) :=
  PI.wk (pi_tup he) fun σ H R ⟨N, δ, S, R', re, rs, q, kk⟩ => by
    refine ⟨N, δ, S, _, re, rs, q, fun x S1 v H1 b1 rv q1 => ?_⟩
    obtain ⟨ds, (rfl | rfl), q1⟩ := q1
    · obtain ⟨a, vs, rfl, sq, r⟩ := rv.tup_
      exact ⟨a, rfl, ⟨vs, .of sq⟩, kk _ S1 _ H1 b1 (rel_tup b1.rs (fun H f => .of (f _ sq)) r) q1⟩
    · obtain ⟨a, vs, rfl, sq, r⟩ := rv.wt_
      exact ⟨a, rfl, ⟨vs, .inr sq⟩, kk _ S1 _ H1 b1 (rel_tup b1.rs (fun H f => .inr sq) r) q1⟩
/-- a list is walked: a frozen one, one as it stands, one that is frozen by being walked -/
def iLstD (te : TDE) : TDI := fun δ S R => te δ S fun x S1 => (∃ ds, x = .fl ds ∧ R (seqI ds) S1) ∨ ∃ a ds, x = .ref a ∧ S1 a = some (.lst ds) ∧ (R (listI a) S1 ∨ R (seqI ds) (del S1 a))
theorem di_lst (he : PE X e (lE X.K te)) : PI X tg e (lI X.K (iLstD te)) :=
  PI.wk (pi_list he) fun σ H R ⟨N, δ, S, R', re, rs, q, kk⟩ => by
    refine ⟨N, δ, S, _, re, rs, q, fun x S1 v H1 b1 rv q1 => ?_⟩
    rcases q1 with ⟨ds, rfl, q1⟩ | ⟨a, ds, rfl, e, q1⟩
    · obtain ⟨a, vs, rfl, fz, r⟩ := rv.fl_
      exact ⟨a, rfl, ⟨vs, fz.sq⟩, kk _ S1 _ H1 b1 (rel_fl b1.rs fz r) q1⟩
    · have := rv.at_
      subst this
      obtain ⟨vs, h1, h2⟩ := b1.rs.ob a _ e
      refine ⟨a, rfl, ⟨vs, .of h1⟩, ?_⟩
      rcases q1 with q1 | q1
      · exact kk _ S1 _ H1 b1 rel_lst q1
      · have su : Sub (del S1 a) S1 := fun b o z => by
          by_cases hb : b = a
          · subst hb; rw [del_same] at z; cases z
          · rw [del_ne hb] at z; exact z
        have b2 : Bh ⟨X.K, N⟩ H S H1 (del S1 a) := ⟨b1.fr.sub su, b1.rs.sub su⟩
        exact kk _ _ _ H1 b2 (rel_fl b2.rs (.inl ⟨.inl h1, del_same, b1.rs.kn e⟩) (h2.le su.le)) q1
def rangeI (lo : Int) (n : Nat) : ItD := fun i _ => some (if i < n then some (.int (lo + i)) else none)
theorem rel_range {K : Kx} {H0 : Hp} {S0 : Sto} {lo : Int} {n : Nat} : ItRel K H0 S0 (rangeI lo n) (Itr lo n) := by
  intro M i H S b le
  unfold rangeI
  refine ⟨fun e => ?_, fun d e => ?_⟩
  · show n ≤ i
    by_cases h : i < n
    · rw [if_pos h] at e; cases e
    · omega
  · by_cases h : i < n
    · rw [if_pos h] at e
      cases e
      refine ⟨h, fun x H' y => ?_⟩
      obtain ⟨rfl, rfl⟩ := y
      exact ⟨.refl b.rs, .of _⟩
    · rw [if_neg h] at e; cases e
def iRange1 (t : TDA) : TDI := fun δ S R => t δ S fun ds S1 => ∃ j : Int, ds = [.int j] ∧ -(2 ^ 62) ≤ j ∧ j < 2 ^ 62 ∧ R (rangeI 0 j.toNat) S1
theorem RDs.one {K : Kx} {H : Hp} {S : Sto} {vs : List V} {u : V} (r : RDs K H S vs [.at u]) : vs = [u] := RDs.atoms (us := [u]) r
theorem RDs.two {K : Kx} {H : Hp} {S : Sto} {vs : List V} {u w : V} (r : RDs K H S vs [.at u, .at w]) : vs = [u, w] := RDs.atoms (us := [u, w]) r
theorem di_range1 {a : Expr} {ta : TDA} (hg : Gl X "range") (hm : X.mg "range" = none) (ha : PA X [a] (lA X.K ta)) (hs : starEach [a] X.env = [(false, eval a X.env)] := by rfl) : PI X tg (.Call (.Name "range" p) [a] [] pos) (lI X.K (iRange1 ta)) :=
  PI.wk (pi_range1 hg hm ha hs) fun σ H R ⟨N, δ, S, R', re, rs, q, kk⟩ => by
    refine ⟨N, δ, S, _, re, rs, q, fun ds S1 vs H1 b1 rv q1 => ?_⟩
    obtain ⟨j, rfl, h1, h2, q1⟩ := q1
    exact ⟨j, rv.one, h1, h2, kk _ S1 _ H1 b1 rel_range q1⟩
def iRange2 (t : TDA) : TDI := fun δ S R => t δ S fun ds S1 => ∃ i j : Int, ds = [.int i, .int j] ∧ (-(2 ^ 62) ≤ i ∧ i < 2 ^ 62 ∧ -(2 ^ 62) ≤ j ∧ j < 2 ^ 62) ∧ R (rangeI i (j - i).toNat) S1
theorem di_range2 {a b : Expr} {ta : TDA} (hg : Gl X "range") (hm : X.mg "range" = none) (ha : PA X [a, b] (lA X.K ta)) (hs : starEach [a, b] X.env = [(false, eval a X.env), (false, eval b X.env)] := by rfl) (hs2 : starEach [b] X.env = [(false, eval b X.env)] := by rfl) :
    PI X tg (.Call (.Name "range" p) [a, b] [] pos) (lI X.K (iRange2 ta)) :=
  PI.wk (pi_range2 hg hm ha hs hs2) fun σ H R ⟨N, δ, S, R', re, rs, q, kk⟩ => by
    refine ⟨N, δ, S, _, re, rs, q, fun ds S1 vs H1 b1 rv q1 => ?_⟩
    obtain ⟨i, j, rfl, h1, q1⟩ := q1
    exact ⟨i, j, rv.two, h1, kk _ S1 _ H1 b1 rel_range q1⟩
end

/-! ### for, comprehensions -/
section
variable {X : Cx}
def dFor (wi : TDI) (g : TDG) (tb : TDS) : TDS := fun D δ S => wi δ S fun J S1 => ∃ (W : Nat → DSt → Sto → Prop) (n : Nat), W 0 δ S1 ∧ ∀ i δ S, W i δ S → ∃ r, J i S = some r ∧ (r = none → D.nx δ S) ∧
  ∀ x, r = some x → i < n ∧ g x δ S fun δ2 S2 => tb { D with nx := W (i + 1), ct := W (i + 1), bk := D.nx } δ2 S2
theorem ds_for {tg iter : Expr} {body : List Stmt} {wi : TDI} {g : TDG} {tb : TDS} {pos : Pos} (hp : PassesOwn (model X.prog X.w) X.A X.env X.xe) (hc : X.calm = true) (hi : PI X tg iter (lI X.K wi)) (hg : PG X tg (lG X.K g)) (hb : PSs X body (lS X.K tb))
    (hs : ∀ x, foldedSetIterable iter X.env x = pure x := by intro _; rfl) : PS X (.For tg iter body [] pos) (lS X.K (dFor wi g tb)) :=
  PS.wk (ps_for hp hc hi hg hb hs) fun D σ H ⟨N, δ, S, D', re, rs, q, l⟩ => by
    refine ⟨N, δ, S, _, re, rs, q, fun J S1 Jv H1 b1 rel q1 => ?_⟩
    obtain ⟨W, n, w0, turn⟩ := q1
    refine ⟨fun i m σ2 H2 => ∃ δ2 S2, m = n - i ∧ W i δ2 S2 ∧ RE ⟨X.K, N⟩ H2 S2 σ2 δ2 ∧ Bh ⟨X.K, N⟩ H1 S1 H2 S2, ⟨n, δ, S1, rfl, w0, re.le (rs.le b1.fr), .refl b1.rs⟩, ?_⟩
    rintro i m σ2 H2 ⟨δ2, S2, rfl, w2, re2, b2⟩
    obtain ⟨r, hr, hn, hgo⟩ := turn i δ2 S2 w2
    obtain ⟨r1, r2⟩ := rel N i H2 S2 b2 (b1.rs.le b2.fr)
    cases r with
    | none => exact .inl ⟨r1 hr, l.nx _ _ _ _ (b1.trans b2) re2 (hn rfl)⟩
    | some x =>
      obtain ⟨hlt, hgx⟩ := hgo x rfl
      obtain ⟨go, yl⟩ := r2 x hr
      refine .inr ⟨go, fun σ' H' => ∃ δ' S', W (i + 1) δ' S' ∧ RE ⟨X.K, N⟩ H' S' σ' δ' ∧ Bh ⟨X.K, N⟩ H1 S1 H' S', fun σ' H' ⟨δ', S', h1, h2, h3⟩ => ⟨n - (i + 1), by omega, δ', S', rfl, h1, h2, h3⟩, fun v H3 y => ?_⟩
      obtain ⟨b3, rv⟩ := yl v H3 y
      have b13 := b2.trans b3
      refine ⟨N, x, δ2, S2, _, rv, re2.le (b2.rs.le b3.fr), b3.rs, hgx, fun δ4 S4 σ4 H4 b4 re4 q4 => ?_⟩
      have b14 := b13.trans b4
      refine ⟨N, δ4, S4, _, re4, b4.rs, q4, ⟨?_, ?_, ?_, ?_⟩⟩
      · intro δ5 S5 σ5 H5 b5 re5 w5; exact ⟨δ5, S5, w5, re5, b14.trans b5⟩
      · intro d S5 v5 H5 b5 r5 w5; exact l.rt _ _ _ _ (b1.trans (b14.trans b5)) r5 w5
      · intro δ5 S5 σ5 H5 b5 re5 w5; exact l.nx _ _ _ _ (b1.trans (b14.trans b5)) re5 w5
      · intro δ5 S5 σ5 H5 b5 re5 w5; exact ⟨δ5, S5, w5, re5, b14.trans b5⟩
/-- over items that stand: Pv by the turn -/
theorem for_seq {ds : List D} {J : ItD} {g : TDG} {tb : TDS} {D : DEnds} {δ : DSt} {S : Sto} (Pv : Nat → DSt → Sto → Prop) (h0 : Pv 0 δ S) (hJ : ∀ i δ S, Pv i δ S → J i S = some ds[i]?)
    (hs : ∀ i x δ S, ds[i]? = some x → Pv i δ S → g x δ S fun δ2 S2 => tb { D with nx := Pv (i + 1), ct := Pv (i + 1), bk := D.nx } δ2 S2) (hd : ∀ i δ S, ds.length ≤ i → Pv i δ S → D.nx δ S) :
    ∃ (W : Nat → DSt → Sto → Prop) (n : Nat), W 0 δ S ∧ ∀ i δ S, W i δ S → ∃ r, J i S = some r ∧ (r = none → D.nx δ S) ∧
      ∀ x, r = some x → i < n ∧ g x δ S fun δ2 S2 => tb { D with nx := W (i + 1), ct := W (i + 1), bk := D.nx } δ2 S2 := by
  refine ⟨Pv, ds.length, h0, fun i δ S p => ⟨ds[i]?, hJ i δ S p, fun e => hd i δ S (List.getElem?_eq_none_iff.mp e) p, fun x e => ⟨(List.getElem?_eq_some_iff.mp e).1, hs i x δ S e p⟩⟩⟩
theorem for_rng {lo : Int} {n : Nat} {g : TDG} {tb : TDS} {D : DEnds} {δ : DSt} {S : Sto} (Pv : Nat → DSt → Sto → Prop) (h0 : Pv 0 δ S)
    (hs : ∀ i δ S, i < n → Pv i δ S → g (.int (lo + i)) δ S fun δ2 S2 => tb { D with nx := Pv (i + 1), ct := Pv (i + 1), bk := D.nx } δ2 S2) (hd : ∀ i δ S, n ≤ i → Pv i δ S → D.nx δ S) :
    ∃ (W : Nat → DSt → Sto → Prop) (m : Nat), W 0 δ S ∧ ∀ i δ S, W i δ S → ∃ r, (rangeI lo n) i S = some r ∧ (r = none → D.nx δ S) ∧
      ∀ x, r = some x → i < m ∧ g x δ S fun δ2 S2 => tb { D with nx := W (i + 1), ct := W (i + 1), bk := D.nx } δ2 S2 := by
  refine ⟨Pv, n, h0, fun i δ S p => ?_⟩
  unfold rangeI
  by_cases h : i < n
  · rw [if_pos h]
    exact ⟨_, rfl, (fun e => nomatch e), fun x e => by cases e; exact ⟨h, hs i δ S h p⟩⟩
  · rw [if_neg h]
    exact ⟨_, rfl, (fun _ => hd i δ S (by omega) p), fun x e => nomatch e⟩
/-- the own names of a block are forgotten -/
def wipeD (δ : DSt) : List Nat → DSt
  | [] => δ
  | v :: vs => (wipeD δ vs).set v none
theorem re_wipe {K : Kx} {H : Hp} {S : Sto} {σ : L2.St} {δ : DSt} (r : RE K H S σ δ) : ∀ vs, RE K H S (wipe σ vs) (wipeD δ vs)
  | [] => r
  | v :: vs => by
    obtain ⟨h1, h2⟩ := re_wipe r vs
    refine ⟨by simp [wipe, wipeD, h1], fun i d e => ?_⟩
    unfold wipeD at e
    by_cases hi : v = i
    · subst hi
      by_cases hl : v < (wipeD δ vs).length
      · rw [List.getElem?_set_self hl] at e; cases e
      · rw [List.getElem?_eq_none (by simp; omega)] at e; cases e
    · rw [List.getElem?_set_ne hi] at e
      unfold wipe
      rw [List.getElem?_set_ne hi]
      exact h2 i d e
theorem wipe_set {σ : L2.St} {i : Nat} {o : Option V} : ∀ {vs : List Nat}, i ∈ vs → wipe (σ.set i o) vs = wipe σ vs
  | v :: vs, h => by
    unfold wipe
    by_cases e : i ∈ vs
    · rw [wipe_set e]
    · have e' : i = v := (List.mem_cons.mp h).resolve_right e
      subst e'
      have : ∀ (ws : List Nat), i ∉ ws → wipe (σ.set i o) ws = (wipe σ ws).set i o := by
        intro ws
        induction ws with
        | nil => intro _; rfl
        | cons w ws ih =>
          intro hw
          have h1 : i ≠ w := fun z => hw (z ▸ List.mem_cons_self)
          have h2 : i ∉ ws := fun z => hw (List.mem_cons_of_mem _ z)
          unfold wipe
          rw [ih h2, List.set_comm _ _ h1]
      rw [this vs e, List.set_set]
theorem wipe_wipe (σ : L2.St) : ∀ vs : List Nat, wipe (wipe σ vs) vs = wipe σ vs
  | [] => rfl
  | v :: vs => by
    have h : wipe ((wipe σ vs).set v none) (v :: vs) = wipe (wipe σ vs) (v :: vs) := wipe_set List.mem_cons_self
    show wipe ((wipe σ vs).set v none) (v :: vs) = (wipe σ vs).set v none
    rw [h]
    show (wipe (wipe σ vs) vs).set v none = _
    rw [wipe_wipe σ vs]
/-- a block's target: below, over data; the other names stay -/
def TgC (K : Kx) (vs : List Nat) (gv : TG) (g : TDG) : Prop := ∀ (v : V) (d : DL.D) (σ : L2.St) (δ : DSt) (H : Hp) (S : Sto) (Q : DSt → Sto → Prop) (R : L2.St → Hp → Prop), RD K H S v d → RE K H S σ δ → RS K H S → g d δ S Q →
  (∀ σ' H' δ' S', wipe σ' vs = wipe σ vs → Bh K H S H' S' → RE K H' S' σ' δ' → Q δ' S' → R σ' H') → gv v σ H R
def TgCs (K : Kx) (vs : List Nat) (gv : TGs) (g : TDGs) : Prop := ∀ (us : List V) (ds : List DL.D) (σ : L2.St) (δ : DSt) (H : Hp) (S : Sto) (Q : DSt → Sto → Prop) (R : L2.St → Hp → Prop), RDs K H S us ds → RE K H S σ δ → RS K H S → g ds δ S Q →
  (∀ σ' H' δ' S', wipe σ' vs = wipe σ vs → Bh K H S H' S' → RE K H' S' σ' δ' → Q δ' S' → R σ' H') → gv us σ H R
theorem tg_name {K : Kx} {vs : List Nat} {i : Nat} (h : i ∈ vs) : TgC K vs (gName i) (gdName i) := fun v d σ δ H S Q R rd re rs q k => k _ _ _ S (wipe_set h) (.refl rs) (re.set rd i) q
theorem tgs_nil {K : Kx} {vs : List Nat} : TgCs K vs gNil gdNil := fun us ds σ δ H S Q R rd re rs q k => by
  obtain ⟨rfl, q⟩ := q
  exact ⟨rd.inv_nil, k _ _ δ S rfl (.refl rs) re q⟩
/-- a name, then others -/
theorem tgs_cons {K : Kx} {vs : List Nat} {i : Nat} {gv : TGs} {g : TDGs} (h : i ∈ vs) (k : TgCs K vs gv g) : TgCs K vs (gCons (gName i) gv) (gdCons (gdName i) g) := fun us ds σ δ H S Q R rd re rs q kk => by
  obtain ⟨d, r, rfl, q⟩ := q
  obtain ⟨v, ws, rfl, r1, r2⟩ := rd.inv_cons
  exact ⟨v, ws, rfl, k ws r (σ.set i (some v)) (δ.set i (some d)) H S Q R r2 (re.set r1 i) rs q fun σ' H' δ' S' e => kk σ' H' δ' S' (e.trans (wipe_set h))⟩
theorem tg_tup {Kf : PySem.W.Frag} {N : Addr → Prop} {vs : List Nat} {n : Nat} {gv : TGs} {g : TDGs} (k : TgCs ⟨Kf, N⟩ vs gv g) : TgC ⟨Kf, N⟩ vs (gTup Kf n gv) (gdTup n g) := fun v d σ δ H S Q R rd re rs q kk => by
  obtain ⟨ds, rfl, hl, q⟩ := q
  obtain ⟨a, us, rfl, sq, rv⟩ := rd.tup_
  exact ⟨a, us, rfl, .of sq, by rw [rv.length, hl], k us ds σ δ H S Q R rv re rs q kk⟩
/-- [e for x in .. if ..]: W by the turn, what is made so far, the store; nobody will change the new list -/
def dLc (wi : TDI) (g : TDG) (tt : TDT) (te : TDE) (vs : List Nat) : TDE := fun δ S Q => wi δ S fun J S1 => ∃ (W : Nat → List DL.D → Sto → Prop) (n : Nat), W 0 [] S1 ∧ ∀ i acc S2, W i acc S2 → ∃ r, J i S2 = some r ∧
  (r = none → Q (.fl acc) S2) ∧
  ∀ x, r = some x → i < n ∧ acc.length < sizeLine ∧ g x (wipeD δ vs) S2 fun δ2 S3 => tt δ2 S3 fun b S4 =>
    if b = true then te δ2 S4 fun y S5 => W (i + 1) (acc ++ [y]) S5 else W (i + 1) acc S4
theorem lift_lc {K : PySem.W.Frag} {wi : TDI} {gv : TG} {g : TDG} {tt : TDT} {te : TDE} (own : List (Str × Nat)) (hgd : ∀ N, TgC ⟨K, N⟩ (own.map (·.2)) gv g) {σ : L2.St} {H : Hp} {Q : VK} (h : lE K (dLc wi g tt te (own.map (·.2))) σ H Q) : tLc (lI K wi) gv (lT K tt) (lE K te) (own.map (·.2)) σ H Q := by
  obtain ⟨N, δ, S, Q', re, rs, q, kk⟩ := h
  refine ⟨N, δ, S, _, re, rs, q, fun J S1 Jv H1 b1 rel q1 A hA => ?_⟩
  obtain ⟨W, n, w0, turn⟩ := q1
  have re1 := re.le (rs.le b1.fr)
  have nA := b1.rs.nhid hA
  have sA := b1.rs.free hA
  obtain ⟨M, hM⟩ : ∃ M : Addr → Prop, M = fun a => N a ∨ a = A := ⟨_, rfl⟩
  -- the new list is hidden while it is made
  obtain ⟨rsA, frA, leA⟩ := b1.rs.laid (o := .lst []) hA
  have leM : ∀ {H2 : Hp} {S2 : Sto}, TupLe ⟨K, M⟩ H2 S2 ⟨K, N⟩ H2 S2 := fun {H2 S2} => ⟨fun a xs z => z, fun _ _ z => z, fun a xs z => z.elim (fun ⟨z1, z2, z3⟩ => .inl ⟨z1, z2, fun hn => z3 (by rw [hM]; exact .inl hn)⟩) .inr⟩
  have leN : TupLe ⟨K, N⟩ H1 S1 ⟨K, M⟩ (upd H1 A (.lst [])) S1 := by
    refine ⟨leA.t, fun _ _ z => z, fun a xs z => ?_⟩
    rcases z with ⟨z1, z2, z3⟩ | z
    · have ne : a ≠ A := fun e => by subst e; rcases z1 with z1 | ⟨o, z1⟩ <;> (rw [hA] at z1; cases z1)
      refine .inl ⟨?_, z2, fun hm => ?_⟩
      · rcases z1 with z1 | ⟨o, z1⟩
        · exact .inl (by rw [upd_ne ne]; exact z1)
        · exact .inr ⟨o, by rw [upd_ne ne]; exact z1⟩
      · rw [hM] at hm; exact hm.elim z3 ne
    · exact .inr z
  have bM : Bh ⟨K, M⟩ H1 S1 (upd H1 A (.lst [])) S1 := by
    refine ⟨frA, fun a o e => ?_, fun a ha => ?_, fun a ha => ?_⟩
    · have ne : a ≠ A := fun z => by subst z; rw [sA] at e; cases e
      exact (b1.rs.ob a o e).le leN (upd_ne ne)
    · rw [hM] at ha
      rcases ha with ha | ha
      · exact hid_upd b1.rs.hid a ha
      · exact ⟨_, by rw [ha]; exact upd_same⟩
    · rw [hM] at ha
      rcases ha with ha | ha
      · exact b1.rs.hidS a ha
      · rw [ha]; exact sA
  -- what a turn leaves: seen without the new list
  have toN : ∀ {H2 : Hp} {S2 : Sto}, Bh ⟨K, M⟩ H1 S1 H2 S2 → Bh ⟨K, N⟩ H1 S1 H2 S2 := fun {H2 S2} b => ⟨b.fr, fun a o e => (b.rs.ob a o e).le leM rfl, fun a ha => b.rs.hid a (by show M a; rw [hM]; exact .inl ha), fun a ha => b.rs.hidS a (by show M a; rw [hM]; exact .inl ha)⟩
  have reM : RE ⟨K, M⟩ (upd H1 A (.lst [])) S1 σ δ := re1.le leN
  refine ⟨fun i m H2 => ∃ acc S2 vs, m = n - i ∧ W i acc S2 ∧ (Bh ⟨K, M⟩ H1 S1 H2 S2 ∧ TupLe ⟨K, N⟩ H1 S1 ⟨K, M⟩ H2 S2) ∧ RE ⟨K, M⟩ H2 S2 σ δ ∧ H2 A = some (.lst vs) ∧ S2 A = none ∧ RDs ⟨K, M⟩ H2 S2 vs acc, ⟨n, [], S1, [], rfl, w0, ⟨bM, leN⟩, reM, upd_same, sA, .nil⟩, ?_⟩
  rintro i m H2 ⟨acc, S2, us, rfl, w2, ⟨b2, l2⟩, re2, hA2, sA2, ra⟩
  obtain ⟨r, hr, hn, hgo⟩ := turn i acc S2 w2
  obtain ⟨r1, r2⟩ := rel M i H2 S2 b2 l2
  cases r with
  | none =>
    refine .inl ⟨r1 hr, ?_⟩
    exact kk _ S2 _ H2 (b1.trans (toN b2)) (.of_fl (.inl ⟨.inl hA2, sA2, nA⟩) (ra.le leM)) (hn rfl)
  | some x =>
    obtain ⟨hlt, hsz, hgx⟩ := hgo x rfl
    obtain ⟨go, yl⟩ := r2 x hr
    refine .inr ⟨go, fun H' => ∃ acc' S' vs', W (i + 1) acc' S' ∧ (Bh ⟨K, M⟩ H1 S1 H' S' ∧ TupLe ⟨K, N⟩ H1 S1 ⟨K, M⟩ H' S') ∧ RE ⟨K, M⟩ H' S' σ δ ∧ H' A = some (.lst vs') ∧ S' A = none ∧ RDs ⟨K, M⟩ H' S' vs' acc', fun H' ⟨a', S', v', h1, h2, h3, h4, h5, h6⟩ => ⟨n - (i + 1), by omega, a', S', v', rfl, h1, h2, h3, h4, h5, h6⟩, fun v H3 y => ?_⟩
    obtain ⟨b3, rv⟩ := yl v H3 y
    have le3 := b2.rs.le b3.fr
    have fin : ∀ {H' : Hp} {S' : Sto}, Bh ⟨K, M⟩ H2 S2 H' S' → H' A = some (.lst us) ∧ S' A = none := fun {H' S'} b => b.fr A _ hA2 sA2
    -- a turn that adds nothing
    have skip : ∀ {H' : Hp} {S' : Sto}, Bh ⟨K, M⟩ H2 S2 H' S' → W (i + 1) acc S' → ∃ acc' S' vs', W (i + 1) acc' S' ∧ (Bh ⟨K, M⟩ H1 S1 H' S' ∧ TupLe ⟨K, N⟩ H1 S1 ⟨K, M⟩ H' S') ∧ RE ⟨K, M⟩ H' S' σ δ ∧ H' A = some (.lst vs') ∧ S' A = none ∧ RDs ⟨K, M⟩ H' S' vs' acc' := fun {H' S'} b w =>
      have le := b2.rs.le b.fr
      ⟨acc, S', us, w, ⟨b2.trans b, l2.trans le⟩, re2.le le, (fin b).1, (fin b).2, ra.le le⟩
    refine hgd M v x (wipe σ (own.map (·.2))) (wipeD δ (own.map (·.2))) H3 S2 _ _ rv (re_wipe (re2.le le3) _) b3.rs hgx fun σ4 H4 δ4 S4 e4 b4 re4 q4 => ?_
    refine ⟨e4.trans (wipe_wipe _ _), ?_⟩
    have b24 := b3.trans b4
    refine ⟨M, δ4, S4, _, re4, b4.rs, q4, fun c S5 H5 b5 q5 => ?_⟩
    have b25 := b24.trans b5
    cases c with
    | false =>
      rw [if_neg Bool.false_ne_true] at q5
      exact iteF (skip b25 q5)
    | true =>
      rw [if_pos rfl] at q5
      refine iteT ⟨M, δ4, S5, _, re4.le (b4.rs.le b5.fr), b5.rs, q5, fun y S6 u H6 b6 r6 q6 => ?_⟩
      have b26 := b25.trans b6
      obtain ⟨hA6, sA6⟩ := fin b26
      have le6 := b2.rs.le b26.fr
      refine ⟨us, hA6, by rw [ra.length]; exact hsz, ?_⟩
      have le7 : TupLe ⟨K, M⟩ H6 S6 ⟨K, M⟩ (upd H6 A (.lst (us ++ [u]))) S6 := by
        refine ⟨fun a xs z => ?_, fun _ _ z => z, fun a xs z => ?_⟩
        · rw [upd_ne (ne_of z hA6 (by intro w; cases w))]; exact z
        · rcases z with ⟨z1, z2, z3⟩ | z
          · have ne : a ≠ A := fun e => z3 (by show M a; rw [hM]; exact .inr e)
            refine .inl ⟨?_, z2, z3⟩
            rcases z1 with z1 | ⟨o, z1⟩
            · exact .inl (by rw [upd_ne ne]; exact z1)
            · exact .inr ⟨o, by rw [upd_ne ne]; exact z1⟩
          · exact .inr z
      have bb := b2.trans b26
      refine ⟨acc ++ [y], S6, us ++ [u], q6, ⟨⟨fun a o e n => ?_, fun a o e => ?_, fun a ha => hid_upd bb.rs.hid a ha, bb.rs.hidS⟩, (l2.trans le6).trans le7⟩, (re2.le le6).le le7, upd_same, sA6, ((ra.le le6).append (.cons r6 .nil)).le le7⟩
      · obtain ⟨z1, z2⟩ := bb.fr a o e n
        exact ⟨by rw [upd_ne (ne_of_none e hA)]; exact z1, z2⟩
      · have ne : a ≠ A := fun z => by subst z; rw [sA6] at e; cases e
        exact (bb.rs.ob a o e).le le7 (upd_ne ne)
theorem de_lc {elt tg iter : Expr} {ifs : List Expr} {scope : Scope} {pos : Pos} {wi : TDI} {gv : TG} {g : TDG} {tt : TDT} {te : TDE} (own : List (Str × Nat)) (hc : X.calm = true) (hN : X.N.Nodup) (hi : PI X tg iter (lI X.K wi)) (ok : BlkOk X.N X.env.scope scope own)
    (hg : ∀ (s : Shared) (H : Hp) (C : Addr) (cl : List (Str × Addr)) (fp : List Addr), PG (X.blk s H scope (compEnvC scope cl C X.env) fp) tg gv) (hgd : ∀ N, TgC ⟨X.K, N⟩ (own.map (·.2)) gv g) (ht : ∀ (s : Shared) (H : Hp) (C : Addr) (cl : List (Str × Addr)) (fp : List Addr), PTs (X.blk s H scope (compEnvC scope cl C X.env) fp) ifs (lT X.K tt))
    (he : ∀ (s : Shared) (H : Hp) (C : Addr) (cl : List (Str × Addr)) (fp : List Addr), PE (X.blk s H scope (compEnvC scope cl C X.env) fp) elt (lE X.K te)) (hs : ∀ x, foldedSetIterable iter X.env x = pure x := by intro _; rfl) :
    PE X (.ListComp elt [⟨tg, iter, ifs, 0⟩] scope pos) (lE X.K (dLc wi g tt te (own.map (·.2)))) := PE.wk (pe_lc hc hN hi ok hg ht he hs) fun σ H Q h => lift_lc own hgd h
/-- name = [..] -/
theorem ds_setLc (i : Nat) {y : Str} {py spos : Pos} {elt tg iter : Expr} {ifs : List Expr} {scope : Scope} {pos : Pos} {wi : TDI} {gv : TG} {g : TDG} {tt : TDT} {te : TDE} (own : List (Str × Nat)) (hc : X.calm = true) (hN : X.N.Nodup) (hi : PI X tg iter (lI X.K wi)) (ok : BlkOk X.N X.env.scope scope own)
    (hg : ∀ (s : Shared) (H : Hp) (C : Addr) (cl : List (Str × Addr)) (fp : List Addr), PG (X.blk s H scope (compEnvC scope cl C X.env) fp) tg gv) (hgd : ∀ N, TgC ⟨X.K, N⟩ (own.map (·.2)) gv g) (ht : ∀ (s : Shared) (H : Hp) (C : Addr) (cl : List (Str × Addr)) (fp : List Addr), PTs (X.blk s H scope (compEnvC scope cl C X.env) fp) ifs (lT X.K tt))
    (he : ∀ (s : Shared) (H : Hp) (C : Addr) (cl : List (Str × Addr)) (fp : List Addr), PE (X.blk s H scope (compEnvC scope cl C X.env) fp) elt (lE X.K te)) (hs : ∀ x, foldedSetIterable iter X.env x = pure x := by intro _; rfl)
    (hy : X.N[i]? = some y := by rfl) (hyl : X.env.scope.names.lookup y = some .local := by rfl) (hsw : swapsWith (.ListComp elt [⟨tg, iter, ifs, 0⟩] scope pos) (some (.Name y py)) spos.line X.env = pure true := by exact sw_true rfl rfl rfl (by decide +kernel)) :
    PS X (.Assign [.Name y py] (.ListComp elt [⟨tg, iter, ifs, 0⟩] scope pos) spos) (lS X.K (dAsg (dLc wi g tt te (own.map (·.2))) (gdName i))) :=
  PS.wk (ps_setLc hc hN hy hyl hsw hi ok hg ht he hs) fun D σ H ⟨N, δ, S, D', re, rs, q, l⟩ => lift_lc own hgd ⟨N, δ, S, _, re, rs, q, fun d S1 v H1 b1 r1 q1 => l.nx _ S1 _ H1 b1 ((re.le (rs.le b1.fr)).set r1 i) q1⟩
def dYes : TDT := fun _ S Q => Q true S
theorem dts_nil : PTs X [] (lT X.K dYes) := ⟨fun pins s σ H Q I ⟨N, δ, S, Q', re, rs, q, k⟩ => pts_nil.run pins s σ H Q I (k _ S H (.refl rs) q)⟩
end
end DL

/-! Data layer, fourth part: operators, comparisons, subscripts, built-ins over data. -/
namespace DL
open PySem L2 PyProof.Rows

theorem ofString_inj {a b : String} : (Str.ofString a = Str.ofString b) ↔ a = b := by
  constructor
  · intro h
    rw [Str.ofString_eq_toList, Str.ofString_eq_toList] at h
    have h1 : a.toList.map Char.toNat = b.toList.map Char.toNat := by
      have := congrArg Str.cps h
      simpa using this
    have h2 : ∀ (l m : List Char), l.map Char.toNat = m.map Char.toNat → l = m := by
      intro l
      induction l with
      | nil => intro m e; cases m with
        | nil => rfl
        | cons _ _ => simp at e
      | cons x xs ih => intro m e; cases m with
        | nil => simp at e
        | cons y ys =>
          simp only [List.map_cons, List.cons.injEq] at e
          rw [ih ys e.2, Char.ext (UInt32.toNat_inj.mp e.1)]
    exact String.ext (h2 _ _ h1)
  · intro h; rw [h]

/-! ### lists, whatever way they stand -/
/-- the items of a list: a frozen one, or one of the store -/
def lsOf (S : Sto) : D → Option (List D)
  | .fl xs => some xs
  | .at (.ref a) => match S a with
    | some (.lst xs) => some xs
    | _ => none
  | _ => none
/-- of a list or a tuple -/
def sqOf (S : Sto) : D → Option (List D)
  | .tup xs => some xs
  | .wt xs => some xs
  | d => lsOf S d
section
variable {K : Kx} {H H' : Hp} {S S' : Sto}
theorem ls_sq {v : V} {d : D} {xs : List D} (rs : RS K H S) (r : RD K H S v d) (h : lsOf S d = some xs) : ∃ a vs, v = .ref a ∧ SqL K.k H a vs ∧ RDs K H S vs xs := by
  unfold lsOf at h
  split at h
  · cases h
    obtain ⟨a, vs, rfl, fz, rv⟩ := r.fl_
    exact ⟨a, vs, rfl, fz.sq, rv⟩
  · rename_i a
    split at h
    · rename_i ys e
      cases h
      obtain ⟨vs, h1, h2⟩ := rs.ob a _ e
      exact ⟨a, vs, r.at_, .of h1, h2⟩
    · cases h
  · cases h
theorem sq_sq {v : V} {d : D} {xs : List D} (rs : RS K H S) (r : RD K H S v d) (h : sqOf S d = some xs) : ∃ a vs, v = .ref a ∧ (SqL K.k H a vs ∨ SqT K.k H a vs) ∧ RDs K H S vs xs := by
  cases d with
  | tup ds =>
    cases h
    obtain ⟨a, vs, rfl, t, rv⟩ := r.tup_
    exact ⟨a, vs, rfl, .inr (.of t), rv⟩
  | wt ds =>
    cases h
    obtain ⟨a, vs, rfl, t, rv⟩ := r.wt_
    exact ⟨a, vs, rfl, .inr (.inr t), rv⟩
  | «at» u =>
    obtain ⟨a, vs, e, q, rv⟩ := ls_sq rs r (show lsOf S (.at u) = some xs from h)
    exact ⟨a, vs, e, .inl q, rv⟩
  | fl ds =>
    obtain ⟨a, vs, e, q, rv⟩ := ls_sq rs r (show lsOf S (.fl ds) = some xs from h)
    exact ⟨a, vs, e, .inl q, rv⟩
end

/-! ### data as such -/
mutual
def toPy : D → PyData
  | .at .non => .none
  | .at (.bl b) => .bool b
  | .at (.int i) => .int i
  | .at (.str s) => .str s
  | .at _ => .dict []
  | .tup l => .tuple (toPys l)
  | .wt l => .tuple (toPys l)
  | .fl l => .list (toPys l)
def toPys : List D → List PyData
  | [] => []
  | d :: ds => toPy d :: toPys ds
end
mutual
/-- data without anything that may change -/
def pur : D → Bool
  | .at .non => true
  | .at (.bl _) => true
  | .at (.int _) => true
  | .at (.str _) => true
  | .at _ => false
  | .tup l => purs l
  | .wt l => purs l
  | .fl l => purs l
def purs : List D → Bool
  | [] => true
  | d :: ds => pur d && purs ds
end
theorem toPys_map : ∀ ds : List D, toPys ds = ds.map toPy
  | [] => by unfold toPys; rfl
  | d :: ds => by unfold toPys; rw [toPys_map ds]; rfl
theorem purs_all : ∀ ds : List D, purs ds = ds.all pur
  | [] => by unfold purs; rfl
  | d :: ds => by unfold purs; rw [purs_all ds]; rfl
section
variable {K : Kx} {H H' : Hp} {S S' : Sto}
mutual
theorem dp_of : ∀ {v : V} {d : D}, RD K H S v d → pur d = true → Dp K.k H v (toPy d)
  | v, .at u, r, p => by
    have e := r.at_
    subst e
    cases v with
    | non => unfold toPy; exact .non
    | bl b => unfold toPy; exact .bl b
    | int i => unfold toPy; exact .int i
    | str s => unfold toPy; exact .str s
    | byt _ => unfold pur at p; cases p
    | flt _ => unfold pur at p; cases p
    | ref _ => unfold pur at p; cases p
    | ty _ => unfold pur at p; cases p
  | v, .tup ds, r, p => by
    obtain ⟨a, vs, rfl, t, rv⟩ := r.tup_
    unfold pur at p
    unfold toPy
    exact .tup (.of t) (dps_of rv p)
  | v, .wt ds, r, p => by
    obtain ⟨a, vs, rfl, t, rv⟩ := r.wt_
    unfold pur at p
    unfold toPy
    exact .tup (.inr t) (dps_of rv p)
  | v, .fl ds, r, p => by
    obtain ⟨a, vs, rfl, t, rv⟩ := r.fl_
    unfold pur at p
    unfold toPy
    exact .lst t.sq (dps_of rv p)
theorem dps_of : ∀ {vs : List V} {ds : List D}, RDs K H S vs ds → purs ds = true → DpAll K.k H vs (toPys ds)
  | vs, [], r, p => by rw [r.inv_nil]; unfold toPys; exact .nil
  | vs, d :: ds, r, p => by
    obtain ⟨v, ws, rfl, r1, r2⟩ := r.inv_cons
    unfold purs at p
    rw [Bool.and_eq_true] at p
    unfold toPys
    exact .cons (dp_of r1 p.1) (dps_of r2 p.2)
end
end
/-- a list of the store, as it stands -/
def rsv (S : Sto) : D → D
  | .at (.ref a) => match S a with
    | some (.lst xs) => .fl xs
    | _ => .at (.ref a)
  | d => d
theorem dp_rsv {K : Kx} {H : Hp} {S : Sto} {v : V} {d : D} (rs : RS K H S) (r : RD K H S v d) (p : pur (rsv S d) = true) : Dp K.k H v (toPy (rsv S d)) := by
  unfold rsv at p ⊢
  split
  · rename_i a
    split
    · rename_i xs e
      dsimp only at p
      rw [e] at p
      obtain ⟨vs, h1, h2⟩ := rs.ob a _ e
      rw [r.at_]
      unfold pur at p
      unfold toPy
      exact .lst (.of h1) (dps_of h2 p)
    · rename_i hn
      dsimp only at p
      split at p
      · rename_i xs e; exact absurd e (hn xs)
      · unfold pur at p; cases p
  · rename_i hn
    split at p
    · exact absurd rfl (hn _)
    · exact dp_of r p
/-- fit to be compared -/
def cmpOk (d : D) : Bool := pur d && SeqAt.shaped (toPy d)

/-! ### arithmetic -/
section
variable {X : Cx}
abbrev iN := Int
def addD (mu : Bool) : RD2 := fun x y S Q => match x, y with
  | .at (.int i), .at (.int j) => Q (.int (i + j)) S
  | .at (.str a), .at (.str b) => a.length + b.length ≤ sizeLine ∧ Q (.str (a ++ b)) S
  | .tup xs, .tup ys => xs.length + ys.length ≤ sizeLine ∧ Q (.tup (xs ++ ys)) S
  | x, y => ∃ xs ys, lsOf S x = some xs ∧ lsOf S y = some ys ∧ xs.length + ys.length ≤ sizeLine ∧ (if mu = true then ∀ p, S p = none → Q (.ref p) (up S p (.lst (xs ++ ys))) else Q (.fl (xs ++ ys)) S)
theorem op_catS : OpR X (binaryOp .Add) (fun x y H Q => ∃ l b xs zs, x = .ref l ∧ y = .ref b ∧ SqL X.K H l xs ∧ SqL X.K H b zs ∧ xs.length + zs.length ≤ sizeLine ∧ ∀ p, H p = none → Q (.ref p) (upd H p (.lst (xs ++ zs)))) := by
  intro pins s σ H x y v u Q I rx ry h
  obtain ⟨l, b, xs, zs, rfl, rfl, hl, hb, hz, q⟩ := h
  cases rx
  cases ry
  obtain ⟨its, r1, pl1, z1⟩ := I.list hl
  obtain ⟨its2, r2, pl2, z2⟩ := I.list hb
  have l1 := r1.length
  have l2 := r2.length
  obtain ⟨⟨cls, dd, data, sl⟩, n, ho, hc, hd, hs⟩ := pl1
  obtain ⟨⟨cls2, dd2, data2, sl2⟩, n2, ho2, hc2, hd2, hs2⟩ := pl2
  simp only at hc hd hs hc2 hd2 hs2
  subst hc hd hs hc2 hd2 hs2
  have lay := list_addW l b its.toArray its2.toArray n n2 none none sl sl2 (by rw [List.size_toArray, List.size_toArray]; omega)
  refine concat_meets ⟨_, ho, rfl⟩ ⟨_, ho2, rfl⟩ noFill_list_add seq_list_add PySem.F.slot_list_add PySem.F.entry_list_add (PySem.F.args_list_add_2 _ _) lay ⟨ho, ho2, ?_⟩
  have e : its.toArray ++ its2.toArray = (its ++ its2).toArray := by simp
  rw [e]
  exact ⟨.ref _, _, I.lnew (t' := s.toks) (r1.append r2) (by rw [List.length_append]; omega), rfl, q _ I.fresh⟩
theorem od_add (mu : Bool) : OpR X (binaryOp .Add) (l2 X.K (addD mu)) := by
  intro pins s σ H v u vv uu Q I rv ru h
  obtain ⟨N, x, y, S, Q', rx, ry, rs, q, k⟩ := h
  have lists : ∀ {xs ys : List D}, lsOf S x = some xs → lsOf S y = some ys → xs.length + ys.length ≤ sizeLine → (if mu = true then ∀ p, S p = none → Q' (.ref p) (up S p (.lst (xs ++ ys))) else Q' (.fl (xs ++ ys)) S) → wpAny (model X.prog X.w) X.A (binaryOp .Add vv uu) (EP X pins σ Q) X.xe s := by
    intro xs ys h1 h2 hz q
    obtain ⟨a, vs, rfl, sa, ra⟩ := ls_sq rs rx h1
    obtain ⟨b, ws, rfl, sb, rb⟩ := ls_sq rs ry h2
    refine op_catS pins s σ H _ _ _ _ Q I rv ru ⟨a, b, vs, ws, rfl, rfl, sa, sb, by rw [ra.length, rb.length]; exact hz, fun p np => ?_⟩
    cases mu with
    | true =>
      rw [if_pos rfl] at q
      exact k _ _ _ _ (new_lst rs np (ra.append rb)) (.of _) (q p (rs.free np))
    | false =>
      obtain ⟨b1, r1⟩ := new_fl rs np (ra.append rb)
      rw [if_neg Bool.false_ne_true] at q
      exact k _ _ _ _ b1 r1 q
  unfold addD at q
  split at q
  · rename_i i j
    exact op_add pins s σ H _ _ _ _ Q I rv ru ⟨i, j, rx.at_, ry.at_, k _ S _ H (.refl rs) (.of _) q⟩
  · rename_i a b
    exact op_add_str pins s σ H _ _ _ _ Q I rv ru ⟨a, b, rx.at_, ry.at_, q.1, k _ S _ H (.refl rs) (.of _) q.2⟩
  · rename_i xs ys
    obtain ⟨a, vs, rfl, ta, ra⟩ := rx.tup_
    obtain ⟨b, ws, rfl, tb, rb⟩ := ry.tup_
    refine op_catA pins s σ H _ _ _ _ Q I rv ru ⟨a, b, vs, ws, rfl, rfl, .of ta, .of tb, by rw [ra.length, rb.length]; exact q.1, fun e => ?_, fun e e2 => ?_, fun e e2 p np => ?_⟩
    · subst e
      have : xs = [] := by
        have := ra.length
        exact List.eq_nil_of_length_eq_zero this.symm
      subst this
      exact k _ S _ H (.refl rs) (.of_tup tb rb) (by simpa using q.2)
    · subst e2
      have : ys = [] := List.eq_nil_of_length_eq_zero rb.length.symm
      subst this
      exact k _ S _ H (.refl rs) (.of_tup ta ra) (by simpa using q.2)
    · obtain ⟨b1, r1⟩ := new_tup rs np (ra.append rb)
      exact k _ S _ _ b1 r1 q.2
  · obtain ⟨xs, ys, h1, h2, hz, q⟩ := q
    exact lists h1 h2 hz q
/-- two ints -/
def intD (C : Int → Int → Prop) (g : Int → Int → V) : RD2 := fun x y S Q => match x, y with
  | .at (.int i), .at (.int j) => C i j ∧ Q (.at (g i j)) S
  | _, _ => False
theorem od_int {f : Value → Value → Sem Value} {C : Int → Int → Prop} {g : Int → Int → V} (h : OpR X f (rI C g)) : OpR X f (l2 X.K (intD C g)) := by
  intro pins s σ H v u vv uu Q I rv ru h'
  obtain ⟨N, x, y, S, Q', rx, ry, rs, q, k⟩ := h'
  unfold intD at q
  split at q
  · rename_i i j
    exact h pins s σ H _ _ _ _ Q I rv ru ⟨i, j, rx.at_, ry.at_, q.1, k _ S _ H (.refl rs) (.of _) q.2⟩
  · exact q.elim
theorem od_sub : OpR X (binaryOp .Sub) (l2 X.K (intD (fun _ _ => True) fun i j => .int (i - j))) := od_int fun pins s σ H x y v u Q I rv ru ⟨i, j, e1, e2, _, q⟩ => op_sub pins s σ H x y v u Q I rv ru ⟨i, j, e1, e2, q⟩
theorem od_mul : OpR X (binaryOp .Mult) (l2 X.K (intD CMul fun i j => .int (i * j))) := od_int op_mul
theorem od_fdiv : OpR X (binaryOp .FloorDiv) (l2 X.K (intD CDiv fun i j => .int (i / j))) := od_int op_fdiv
theorem od_mod : OpR X (binaryOp .Mod) (l2 X.K (intD (fun _ j => 0 < j) fun i j => .int (i % j))) := od_int op_mod
theorem od_pow : OpR X (binaryOp .Pow) (l2 X.K (intD CPow fun i j => .int (i ^ j.toNat))) := od_int op_pow
def negD : RD1 := fun x S Q => match x with
  | .at (.int i) => Q (.int (-i)) S
  | _ => False
theorem ud_neg : UnR X (unaryOp .USub) (l1 X.K negD) := by
  intro pins s σ H v vv Q I rv h'
  obtain ⟨N, x, S, Q', rx, rs, q, k⟩ := h'
  unfold negD at q
  split at q
  · rename_i i
    exact un_neg pins s σ H _ _ Q I rv ⟨i, rx.at_, k _ S _ H (.refl rs) (.of _) q⟩
  · exact q.elim

/-! ### comparisons -/
/-- two ints, or two texts -/
def ltD : RD2 := fun x y S Q => match x, y with
  | .at (.int i), .at (.int j) => Q (.bl (decide (i < j))) S
  | .at (.str a), .at (.str b) => Q (.bl (decide (a.cps.toList < b.cps.toList))) S
  | _, _ => False
theorem od_lt : OpR X (compareOp .Lt) (l2 X.K ltD) := by
  intro pins s σ H v u vv uu Q I rv ru h'
  obtain ⟨N, x, y, S, Q', rx, ry, rs, q, k⟩ := h'
  unfold ltD at q
  split at q
  · rename_i i j
    exact op_lt pins s σ H _ _ _ _ Q I rv ru ⟨i, j, rx.at_, ry.at_, k _ S _ H (.refl rs) (.of _) q⟩
  · rename_i a b
    exact op_lt_str pins s σ H _ _ _ _ Q I rv ru ⟨a, b, rx.at_, ry.at_, k _ S _ H (.refl rs) (.of _) q⟩
  · exact q.elim
theorem od_le : OpR X (compareOp .LtE) (l2 X.K (intD (fun _ _ => True) fun i j => .bl (decide (i ≤ j)))) := od_int fun pins s σ H x y v u Q I rv ru ⟨i, j, e1, e2, _, q⟩ => op_le pins s σ H x y v u Q I rv ru ⟨i, j, e1, e2, q⟩
theorem od_gt : OpR X (compareOp .Gt) (l2 X.K (intD (fun _ _ => True) fun i j => .bl (decide (j < i)))) := od_int fun pins s σ H x y v u Q I rv ru ⟨i, j, e1, e2, _, q⟩ => op_gt pins s σ H x y v u Q I rv ru ⟨i, j, e1, e2, q⟩
theorem od_ge : OpR X (compareOp .GtE) (l2 X.K (intD (fun _ _ => True) fun i j => .bl (decide (j ≤ i)))) := od_int fun pins s σ H x y v u Q I rv ru ⟨i, j, e1, e2, _, q⟩ => op_ge pins s σ H x y v u Q I rv ru ⟨i, j, e1, e2, q⟩
/-- == of data -/
def eqD (neg : Bool) : RD2 := fun x y S Q => match x, y with
  | .at (.int i), .at (.int j) => Q (.bl (xor neg (decide (i = j)))) S
  | .at (.str a), .at (.str b) => Q (.bl (xor neg (decide (a = b)))) S
  | .at .non, .at .non => Q (.bl (xor neg true)) S
  | .at (.str _), .at (.int _) => Q (.bl (xor neg false)) S
  | .at (.int _), .at (.str _) => Q (.bl (xor neg false)) S
  | .at (.str _), .at .non => Q (.bl (xor neg false)) S
  | .at .non, .at (.str _) => Q (.bl (xor neg false)) S
  | .at (.int _), .at .non => Q (.bl (xor neg false)) S
  | .at .non, .at (.int _) => Q (.bl (xor neg false)) S
  | .at (.bl a), .at (.bl b) => Q (.bl (xor neg (decide (a = b)))) S
  | x, y => cmpOk (rsv S x) = true ∧ cmpOk (rsv S y) = true ∧ Q (.bl (xor neg (PyData.eqv (toPy (rsv S x)) (toPy (rsv S y))))) S
theorem eq_scal {neg : Bool} {f : Value → Value → Sem Value} {r : R2} (h : OpR X f r) (hr : ∀ x y H Q, scal x y = true → Q (.bl (xor neg (decide (x = y)))) H → r x y H Q) {pins : List (Addr × Obj)} {s : Shared} {σ : L2.St} {H : Hp} {x y : V} {v u : Value} {Q : VK} (I : Inv X pins σ H s) (rv : RelV x v) (ru : RelV y u) (hs : scal x y = true)
    (q : Q (.bl (xor neg (decide (x = y)))) H) : wpAny (model X.prog X.w) X.A (f v u) (EP X pins σ Q) X.xe s := h pins s σ H x y v u Q I rv ru (hr x y H Q hs q)
theorem od_eqG {neg : Bool} {f : Value → Value → Sem Value} {r r' : R2} (h : OpR X f r) (hr : ∀ x y H Q, scal x y = true → Q (.bl (xor neg (decide (x = y)))) H → r x y H Q)
    (h' : OpR X f r') (hr' : ∀ x y H Q d e, Dp X.K H x d → Dp X.K H y e → SeqAt.shaped d = true → SeqAt.shaped e = true → Q (.bl (xor neg (PyData.eqv d e))) H → r' x y H Q) : OpR X f (l2 X.K (eqD neg)) := by
  intro pins s σ H v u vv uu Q I rv ru hh
  obtain ⟨N, x, y, S, Q', rx, ry, rs, q, k⟩ := hh
  have fin : ∀ {v' u' : V}, RD ⟨X.K, N⟩ H S v (.at v') → RD ⟨X.K, N⟩ H S u (.at u') → scal v' u' = true → Q' (.bl (xor neg (decide (v' = u')))) S → wpAny (model X.prog X.w) X.A (f vv uu) (EP X pins σ Q) X.xe s := by
    intro v' u' e1 e2 hs q
    have := e1.at_; subst this
    have := e2.at_; subst this
    exact eq_scal h hr I rv ru hs (k _ S _ H (.refl rs) (.of _) q)
  unfold eqD at q
  split at q
  all_goals first
    | exact fin rx ry rfl (by simpa using q)
    | skip
  obtain ⟨q1, q2, q3⟩ := q
  unfold cmpOk at q1 q2
  rw [Bool.and_eq_true] at q1 q2
  exact h' pins s σ H v u vv uu Q I rv ru (hr' _ _ _ _ _ _ (dp_rsv rs rx q1.1) (dp_rsv rs ry q2.1) q1.2 q2.2 (k _ S _ H (.refl rs) (.of _) q3))
theorem od_eq (hr : Rg k X.A) : OpR X (compareOp .Eq) (l2 X.K (eqD false)) :=
  od_eqG op_eq (fun x y H Q h q => ⟨h, by simpa using q⟩) (op_eqD hr.r.units) fun x y H Q d e hd he sd se q => ⟨d, e, hd, he, sd, se, by simpa using q⟩
theorem od_ne (hr : Rg k X.A) : OpR X (compareOp .NotEq) (l2 X.K (eqD true)) :=
  od_eqG op_ne (fun x y H Q h q => ⟨h, by simpa using q⟩) (op_neD hr.r.units) fun x y H Q d e hd he sd se q => ⟨d, e, hd, he, sd, se, by simpa using q⟩
def isnD (neg : Bool) : RD2 := fun x y S Q => y = .non ∧ Q (.bl (xor neg (decide (x = .non)))) S
theorem non_iff {K : Kx} {H : Hp} {S : Sto} {v : V} {x : D} (r : RD K H S v x) : decide (v = .non) = decide (x = .non) := by
  cases x with
  | «at» u => rw [r.at_]; simp [D.non]
  | tup l => obtain ⟨a, vs, rfl, _⟩ := r.tup_; simp [D.non]
  | wt l => obtain ⟨a, vs, rfl, _⟩ := r.wt_; simp [D.non]
  | fl l => obtain ⟨a, vs, rfl, _⟩ := r.fl_; simp [D.non]
theorem od_is : OpR X (compareOp .Is) (l2 X.K (isnD false)) := by
  intro pins s σ H v u vv uu Q I rv ru hh
  obtain ⟨N, x, y, S, Q', rx, ry, rs, ⟨rfl, q⟩, k⟩ := hh
  refine op_isN pins s σ H v u vv uu Q I rv ru ⟨ry.at_, ?_⟩
  rw [non_iff rx]
  exact k _ S _ H (.refl rs) (.of _) (by simpa using q)
theorem od_isnot : OpR X (compareOp .IsNot) (l2 X.K (isnD true)) := by
  intro pins s σ H v u vv uu Q I rv ru hh
  obtain ⟨N, x, y, S, Q', rx, ry, rs, ⟨rfl, q⟩, k⟩ := hh
  refine op_notN pins s σ H v u vv uu Q I rv ru ⟨ry.at_, ?_⟩
  rw [non_iff rx]
  exact k _ S _ H (.refl rs) (.of _) (by simpa using q)

/-! ### in -/
/-- x in y: among flat things; among data; a key of a dict; a sign of a text -/
def keyD : D → Option Key
  | .at (.int i) => some (.inl i)
  | .at (.str s) => some (.inr s)
  | _ => none
def keysD : List D → Option (List Key)
  | [] => some []
  | d :: ds => match keyD d, keysD ds with
    | some k, some ks => some (k :: ks)
    | _, _ => none
theorem keyD_eq {d : D} {k : Key} (h : keyD d = some k) : d = .at (kV k) := by
  unfold keyD at h
  split at h
  · cases h; rfl
  · cases h; rfl
  · cases h
theorem keysD_eq : ∀ {ds : List D} {ks : List Key}, keysD ds = some ks → ds = (ks.map kV).map D.at
  | [], ks, h => by unfold keysD at h; cases h; rfl
  | d :: ds, ks, h => by
    unfold keysD at h
    split at h
    · rename_i k ks' e1 e2
      cases h
      rw [keyD_eq e1, keysD_eq e2]
      rfl
    · cases h
variable {κ : Type} [DecidableEq κ]
def valD (kvs : List (κ × D)) (k : κ) : Option D := (kvs.find? fun kv => decide (kv.1 = k)).map (·.2)
def putD (kvs : List (κ × D)) (k : κ) (v : D) : List (κ × D) := if (kvs.any fun kv => decide (kv.1 = k)) then kvs.map fun kv => if kv.1 = k then (kv.1, v) else kv else kvs ++ [(k, v)]
theorem rel_val {K : Kx} {H : Hp} {S : Sto} : ∀ {ks : List (κ × V)} {kvs : List (κ × D)}, ks.map (·.1) = kvs.map (·.1) → RDs K H S (ks.map (·.2)) (kvs.map (·.2)) → ∀ k, (valD kvs k = none → valV ks k = none) ∧ ∀ d, valD kvs k = some d → ∃ v, valV ks k = some v ∧ RD K H S v d
  | [], [], _, _, k => ⟨fun _ => rfl, fun d e => by simp [valD] at e⟩
  | [], _ :: _, e, _, _ => by simp at e
  | _ :: _, [], e, _, _ => by simp at e
  | a :: ks, b :: kvs, e, r, k => by
    simp only [List.map_cons, List.cons.injEq] at e
    obtain ⟨r1, r2⟩ := RDs.of_cons (v := a.2) (d := b.2) r
    have ih := rel_val e.2 r2 k
    by_cases h : b.1 = k
    · have h' : a.1 = k := e.1.trans h
      refine ⟨fun z => ?_, fun d z => ?_⟩
      · simp [valD, List.find?_cons, h] at z
      · have : d = b.2 := by simpa [valD, List.find?_cons, h] using z.symm
        subst this
        exact ⟨a.2, by simp [valV, List.find?_cons, h'], r1⟩
    · have h' : ¬ a.1 = k := fun z => h (e.1.symm.trans z)
      have e1 : valD (b :: kvs) k = valD kvs k := by simp [valD, List.find?_cons, h]
      have e2 : valV (a :: ks) k = valV ks k := valV_neg h'
      rw [e1, e2]
      exact ih
theorem rel_put {K : Kx} {H : Hp} {S : Sto} {ks : List (κ × V)} {kvs : List (κ × D)} {v : V} {d : D} (e : ks.map (·.1) = kvs.map (·.1)) (r : RDs K H S (ks.map (·.2)) (kvs.map (·.2))) (k : κ) (rv : RD K H S v d) :
    (putK ks k v).map (·.1) = (putD kvs k d).map (·.1) ∧ RDs K H S ((putK ks k v).map (·.2)) ((putD kvs k d).map (·.2)) := by
  have any : ∀ (as : List (κ × V)) (bs : List (κ × D)), as.map (·.1) = bs.map (·.1) → (as.any fun kv => decide (kv.1 = k)) = bs.any fun kv => decide (kv.1 = k) := by
    intro as
    induction as with
    | nil => intro bs h; cases bs with
      | nil => rfl
      | cons _ _ => simp at h
    | cons a as ih => intro bs h; cases bs with
      | nil => simp at h
      | cons b bs =>
        simp only [List.map_cons, List.cons.injEq] at h
        simp only [List.any_cons, h.1, ih bs h.2]
  have rep : ∀ (as : List (κ × V)) (bs : List (κ × D)), as.map (·.1) = bs.map (·.1) → RDs K H S (as.map (·.2)) (bs.map (·.2)) → (as.map fun kv => if kv.1 = k then (kv.1, v) else kv).map (·.1) = (bs.map fun kv => if kv.1 = k then (kv.1, d) else kv).map (·.1) ∧
      RDs K H S ((as.map fun kv => if kv.1 = k then (kv.1, v) else kv).map (·.2)) ((bs.map fun kv => if kv.1 = k then (kv.1, d) else kv).map (·.2)) := by
    intro as
    induction as with
    | nil => intro bs h _; cases bs with
      | nil => exact ⟨rfl, .nil⟩
      | cons _ _ => simp at h
    | cons a as ih => intro bs h h2; cases bs with
      | nil => simp at h
      | cons b bs =>
        simp only [List.map_cons, List.cons.injEq] at h
        obtain ⟨r1, r2⟩ := RDs.of_cons (v := a.2) (d := b.2) h2
        obtain ⟨i1, i2⟩ := ih bs h.2 r2
        by_cases hk : b.1 = k
        · have hk' : a.1 = k := h.1.trans hk
          simp only [List.map_cons, hk, hk', if_pos]
          exact ⟨by rw [i1], .cons rv i2⟩
        · have hk' : ¬ a.1 = k := fun z => hk (h.1.symm.trans z)
          simp only [List.map_cons, if_neg hk, if_neg hk']
          exact ⟨by rw [h.1, i1], .cons r1 i2⟩
  unfold putK putD
  rw [any ks kvs e]
  split
  · exact rep ks kvs e r
  · rw [List.map_append, List.map_append, List.map_append, List.map_append]
    exact ⟨by rw [e]; rfl, r.append (.cons rv .nil)⟩
/-- a key of a dict of the store: what is there -/
def atD (S : Sto) (x y : D) : Option (Option D) := match y with
  | .at (.ref a) => match S a with
    | some (.dk kvs) => (keyD x).map (valD kvs)
    | some (.dt kvs) => match x with
      | .tup ds => (keysD ds).map (valD kvs)
      | _ => none
    | _ => none
  | _ => none
end
section
variable {X : Cx}
/-- the key is an own tuple of the heap -/
theorem at_get {K : Kx} {H : Hp} {S : Sto} {v u : V} {x y : D} {o : Option D} (rs : RS K H S) (rx : RD K H S v x) (ry : RD K H S u y) (h : atD S x y = some o) : ∃ a r, u = .ref a ∧ DGet H a v r ∧ (o = none → r = none) ∧ ∀ d, o = some d → ∃ w, r = some w ∧ RD K H S w d := by
  unfold atD at h
  split at h
  · rename_i a
    have eu := ry.at_
    subst eu
    split at h
    · rename_i kvs e
      obtain ⟨ks, h1, h2, h3⟩ := rs.ob a _ e
      obtain ⟨k, hk, rfl⟩ := Option.map_eq_some_iff.mp h
      have ex := keyD_eq hk
      subst ex
      have ev := rx.at_
      subst ev
      obtain ⟨g1, g2⟩ := rel_val h2 h3 k
      exact ⟨a, valV ks k, rfl, .k h1, g1, fun d e => g2 d e⟩
    · rename_i kvs e
      split at h
      · rename_i ds
        obtain ⟨ks, h1, h2, h3⟩ := rs.ob a _ e
        obtain ⟨k, hk, rfl⟩ := Option.map_eq_some_iff.mp h
        have ex := keysD_eq hk
        subst ex
        obtain ⟨b, vs, rfl, t, rv⟩ := rx.tup_
        have evs : vs = k.map kV := rv.atoms
        subst evs
        obtain ⟨g1, g2⟩ := rel_val h2 h3 k
        exact ⟨a, valV ks k, rfl, .t h1 t, g1, fun d e => g2 d e⟩
      · cases h
    · cases h
  · cases h
end
end DL

/-! Data layer, fifth part: in, subscripts, slices, methods, built-ins, sets shown sorted, repr. -/
namespace DL
open PySem L2 PyProof.Rows
section
variable {X : Cx}
/-! ### in -/
/-- x in y -/
def inD (neg : Bool) : RD2 := fun x y S Q => match y with
  | .at (.str z) => ∃ c : Nat, x = .str ⟨#[c]⟩ ∧ Q (.bl (xor neg (decide (c ∈ z.cps.toList)))) S
  | y => (∃ ys, sqOf S y = some ys ∧ cmpOk x = true ∧ cmpOk (.tup ys) = true ∧ cmpOk (.fl ys) = true ∧ Q (.bl (xor neg (ys.any fun z => PyData.eqv (toPy z) (toPy x)))) S) ∨
    ∃ o, atD S x y = some o ∧ Q (.bl (xor neg o.isSome)) S
/-- in, of a list or a tuple, by data -/
theorem dp_all {K : PySem.W.Frag} {H : Hp} {a : Addr} {vs : List V} {ds : List PyData} (h : SqL K H a vs ∨ SqT K H a vs) (r : DpAll K H vs ds) : Dp K H (.ref a) (.list ds) ∨ Dp K H (.ref a) (.tuple ds) := h.elim (fun h => .inl (.lst h r)) fun h => .inr (.tup h r)
theorem op_inDT (hu : X.A.units + 65 < cLine) : OpR X (compareOp .In) (fun x y H Q => ∃ d ds, Dp X.K H x d ∧ Dp X.K H y (.tuple ds) ∧ SeqAt.shaped d = true ∧ SeqAt.shaped (.tuple ds) = true ∧ Q (.bl (ds.any fun z => PyData.eqv z d)) H) := by
  intro pins s σ H x y v u Q I rx ry h
  obtain ⟨d, ds, hd, he, sd, se, q⟩ := h
  obtain ⟨as, r1⟩ := Dp.reads I d x v hd rx
  obtain ⟨bs, r2⟩ := Dp.reads I (.tuple ds) y u he ry
  exact SeqAt.in_tuple_reads r2 r1 (SeqAt.canLay_of_shaped se) (SeqAt.canLay_of_shaped sd) (room_in_shaped sd hu) ⟨.bl _, H, I, rfl, q⟩
theorem op_notInDT (hu : X.A.units + 65 < cLine) : OpR X (compareOp .NotIn) (fun x y H Q => ∃ d ds, Dp X.K H x d ∧ Dp X.K H y (.tuple ds) ∧ SeqAt.shaped d = true ∧ SeqAt.shaped (.tuple ds) = true ∧ Q (.bl (!ds.any fun z => PyData.eqv z d)) H) := by
  intro pins s σ H x y v u Q I rx ry h
  obtain ⟨d, ds, hd, he, sd, se, q⟩ := h
  obtain ⟨as, r1⟩ := Dp.reads I d x v hd rx
  obtain ⟨bs, r2⟩ := Dp.reads I (.tuple ds) y u he ry
  exact SeqAt.notIn_tuple_reads r2 r1 (SeqAt.canLay_of_shaped se) (SeqAt.canLay_of_shaped sd) (room_in_shaped sd hu) ⟨.bl _, H, I, rfl, q⟩

theorem dp_sq {K : Kx} {H : Hp} {S : Sto} {u : V} {y : D} {ys : List D} (rs : RS K H S) (ry : RD K H S u y) (h : sqOf S y = some ys) (c : cmpOk (.tup ys) = true) : Dp K.k H u (.list (toPys ys)) ∨ Dp K.k H u (.tuple (toPys ys)) := by
  obtain ⟨a, vs, rfl, sq, rv⟩ := sq_sq rs ry h
  unfold cmpOk at c
  rw [Bool.and_eq_true] at c
  have p : purs ys = true := by have := c.1; unfold pur at this; exact this
  exact dp_all sq (dps_of rv p)
theorem any_py (x : D) : ∀ ys : List D, (toPys ys).any (fun z => PyData.eqv z (toPy x)) = ys.any fun z => PyData.eqv (toPy z) (toPy x)
  | [] => by unfold toPys; rfl
  | y :: ys => by unfold toPys; rw [List.any_cons, List.any_cons, any_py x ys]
theorem od_inG {neg : Bool} {f : Value → Value → Sem Value}
    (h1 : OpR X f (fun x y H Q => ∃ (c : Nat) (z : Str), x = .str ⟨#[c]⟩ ∧ y = .str z ∧ Q (.bl (xor neg (decide (c ∈ z.cps.toList)))) H))
    (h2 : OpR X f (fun x y H Q => ∃ d ds, Dp X.K H x d ∧ Dp X.K H y (.list ds) ∧ SeqAt.shaped d = true ∧ SeqAt.shaped (.list ds) = true ∧ Q (.bl (xor neg (ds.any fun z => PyData.eqv z d))) H))
    (h3 : OpR X f (fun x y H Q => ∃ d ds, Dp X.K H x d ∧ Dp X.K H y (.tuple ds) ∧ SeqAt.shaped d = true ∧ SeqAt.shaped (.tuple ds) = true ∧ Q (.bl (xor neg (ds.any fun z => PyData.eqv z d))) H))
    (h4 : OpR X f (fun x y H Q => ∃ a o, y = .ref a ∧ DGet H a x o ∧ Q (.bl (xor neg o.isSome)) H)) : OpR X f (l2 X.K (inD neg)) := by
  intro pins s σ H v u vv uu Q I rv ru hh
  obtain ⟨N, x, y, S, Q', rx, ry, rs, q, k⟩ := hh
  unfold inD at q
  split at q
  · obtain ⟨c, rfl, q⟩ := q
    exact h1 pins s σ H _ _ _ _ Q I rv ru ⟨c, _, rx.at_, ry.at_, k _ S _ H (.refl rs) (.of _) q⟩
  · rcases q with ⟨ys, hy, cx, ct, cl, q⟩ | ⟨o, ho, q⟩
    · have cx' := cx
      unfold cmpOk at cx' cl
      rw [Bool.and_eq_true] at cx' cl
      have c2 := ct
      unfold cmpOk at c2
      rw [Bool.and_eq_true] at c2
      have px := dp_of rx cx'.1
      rw [← any_py] at q
      have e1 : toPy (.fl ys) = .list (toPys ys) := by conv => lhs; unfold toPy
      have e2 : toPy (.tup ys) = .tuple (toPys ys) := by conv => lhs; unfold toPy
      rw [e1] at cl
      rw [e2] at c2
      rcases dp_sq rs ry hy ct with py | py
      · exact h2 pins s σ H _ _ _ _ Q I rv ru ⟨_, _, px, py, cx'.2, cl.2, k _ S _ H (.refl rs) (.of _) q⟩
      · exact h3 pins s σ H _ _ _ _ Q I rv ru ⟨_, _, px, py, cx'.2, c2.2, k _ S _ H (.refl rs) (.of _) q⟩
    · obtain ⟨a, r, rfl, g, e1, e2⟩ := at_get rs rx ry ho
      have e : o.isSome = r.isSome := by
        cases o with
        | none => rw [e1 rfl]; rfl
        | some d => obtain ⟨w, rfl, _⟩ := e2 d rfl; rfl
      rw [e] at q
      exact h4 pins s σ H _ _ _ _ Q I rv ru ⟨a, r, rfl, g, k _ S _ H (.refl rs) (.of _) q⟩
variable {k : Nat}
theorem od_in (hr : Rg k X.A) : OpR X (compareOp .In) (l2 X.K (inD false)) := by
  have hu := hr.r.un
  refine od_inG (fun pins s σ H x y v u Q I rx ry ⟨c, z, e1, e2, q⟩ => op_in_sign pins s σ H x y v u Q I rx ry ⟨c, z, e1, e2, by simpa using q⟩)
    (fun pins s σ H x y v u Q I rx ry ⟨d, ds, e1, e2, e3, e4, q⟩ => op_inD (by omega) pins s σ H x y v u Q I rx ry ⟨d, ds, e1, e2, e3, e4, by simpa using q⟩)
    (fun pins s σ H x y v u Q I rx ry ⟨d, ds, e1, e2, e3, e4, q⟩ => op_inDT (by omega) pins s σ H x y v u Q I rx ry ⟨d, ds, e1, e2, e3, e4, by simpa using q⟩)
    (fun pins s σ H x y v u Q I rx ry ⟨a, o, e1, g, q⟩ => ?_)
  subst e1
  cases ry
  exact d_in (by omega) I g rx fun s' I' => ⟨.bl _, H, I', rfl, by simpa using q⟩
theorem od_notin (hr : Rg k X.A) : OpR X (compareOp .NotIn) (l2 X.K (inD true)) := by
  have hu := hr.r.un
  refine od_inG (fun pins s σ H x y v u Q I rx ry ⟨c, z, e1, e2, q⟩ => op_notIn_sign pins s σ H x y v u Q I rx ry ⟨c, z, e1, e2, by simpa using q⟩)
    (fun pins s σ H x y v u Q I rx ry ⟨d, ds, e1, e2, e3, e4, q⟩ => op_notInD (by omega) pins s σ H x y v u Q I rx ry ⟨d, ds, e1, e2, e3, e4, by simpa using q⟩)
    (fun pins s σ H x y v u Q I rx ry ⟨d, ds, e1, e2, e3, e4, q⟩ => op_notInDT (by omega) pins s σ H x y v u Q I rx ry ⟨d, ds, e1, e2, e3, e4, by simpa using q⟩)
    (fun pins s σ H x y v u Q I rx ry ⟨a, o, e1, g, q⟩ => ?_)
  subst e1
  cases ry
  exact d_notIn (by omega) I g rx fun s' I' => ⟨.bl _, H, I', rfl, by simpa using q⟩

/-! ### subscripts -/
def ixD : RD2 := fun x y S Q => (∃ xs i d, y = .int i ∧ sqOf S x = some xs ∧ atI xs i = some d ∧ Q d S) ∨ (∃ z i c, x = .str z ∧ y = .int i ∧ z.length ≤ sizeLine ∧ atI z.cps.toList i = some c ∧ Q (.str ⟨#[c]⟩) S) ∨ ∃ d, atD S y x = some (some d) ∧ Q d S
theorem atI_rd {K : Kx} {H : Hp} {S : Sto} {vs : List V} {ds : List D} {i : Int} {d : D} (r : RDs K H S vs ds) (h : atI ds i = some d) : ∃ v, atI vs i = some v ∧ RD K H S v d := by
  unfold atI at h ⊢
  rw [r.length]
  cases e : ixN ds.length i with
  | none => rw [e] at h; cases h
  | some j => rw [e] at h; exact r.get h
theorem ixr_dict (hu : X.A.units + 1 < cLine) : IxR X (fun x y H Q => ∃ a v, x = .ref a ∧ DGet H a y (some v) ∧ Q v H) := by
  intro value slice pins s σ H x y v u Q I rx ry h hs
  obtain ⟨a, w, rfl, g, q⟩ := h
  cases rx
  exact tail_any (dict_typeIs I g) PySem.F.slot_dict_getitem.lookup (d_getItem hu I g ry fun w' s' I' r' => ⟨w, H, I', r', q⟩) hs
theorem xd_ix (hr : Rg k X.A) : IxR X (l2 X.K ixD) := by
  intro value slice pins s σ H v u vv uu Q I rv ru hh hs
  obtain ⟨N, x, y, S, Q', rx, ry, rs, q, k⟩ := hh
  have hu := hr.r.un
  rcases q with ⟨xs, i, d, rfl, hx, he, q⟩ | ⟨z, i, c, rfl, rfl, hz, he, q⟩ | ⟨d, he, q⟩
  · obtain ⟨a, vs, rfl, sq, r⟩ := sq_sq rs rx hx
    obtain ⟨w, hw, rw'⟩ := atI_rd r he
    rcases sq with sq | sq
    · exact ix_list value slice pins s σ H _ _ _ _ Q I rv ru ⟨a, vs, i, w, rfl, ry.at_, sq, hw, k _ S _ H (.refl rs) rw' q⟩ hs
    · exact ix_tup value slice pins s σ H _ _ _ _ Q I rv ru ⟨a, vs, i, w, rfl, ry.at_, sq, hw, k _ S _ H (.refl rs) rw' q⟩ hs
  · exact ix_str value slice pins s σ H _ _ _ _ Q I rv ru ⟨z, i, c, rx.at_, ry.at_, hz, he, k _ S _ H (.refl rs) (.of _) q⟩ hs
  · obtain ⟨a, r, rfl, g, e1, e2⟩ := at_get rs ry rx he
    obtain ⟨w, rfl, rw'⟩ := e2 d rfl
    exact ixr_dict (by omega) value slice pins s σ H _ _ _ _ Q I rv ru ⟨a, w, rfl, g, k _ S _ H (.refl rs) rw' q⟩ hs

/-! ### slices -/
abbrev TDO := DSt → Sto → (Option Int → Sto → Prop) → Prop
def lO (K : PySem.W.Frag) (t : TDO) : TO := fun σ H Q => ∃ N δ S Q', RE ⟨K, N⟩ H S σ δ ∧ RS ⟨K, N⟩ H S ∧ t δ S Q' ∧ ∀ o S' H', Bh ⟨K, N⟩ H S H' S' → Q' o S' → Q o H'
theorem PO.wk {e : Option Expr} {t t' : TO} (h : PO X e t) (k : ∀ σ H Q, t' σ H Q → t σ H Q) : PO X e t' := ⟨fun pins s σ H Q I q => h.run pins s σ H Q I (k σ H Q q)⟩
def dNoPart : TDO := fun _ S Q => Q none S
def dPart (t : TDE) : TDO := fun δ S Q => t δ S fun x S1 => ∃ i : Int, x = .int i ∧ Q (some i) S1
theorem do_none : PO X none (lO X.K dNoPart) := PO.wk po_none fun σ H Q ⟨N, δ, S, Q', re, rs, q, k⟩ => k _ S H (.refl rs) q
theorem do_some {e : Expr} {te : TDE} (h : PE X e (lE X.K te)) : PO X (some e) (lO X.K (dPart te)) := PO.wk (po_some h) fun σ H Q ⟨N, δ, S, Q', re, rs, q, k⟩ => by
  refine ⟨N, δ, S, _, re, rs, q, fun x S1 v H1 b1 r1 q1 => ?_⟩
  obtain ⟨i, rfl, q1⟩ := q1
  exact ⟨i, r1.at_, k _ S1 H1 b1 q1⟩
abbrev RDS := D → Option Int → Option Int → Sto → KD → Prop
def cutD (xs : List D) (lo hi : Option Int) : List D := (xs.drop (HT.sIx xs.length 0 lo)).take (HT.sIx xs.length xs.length hi - HT.sIx xs.length 0 lo)
theorem rds_cut {K : Kx} {H : Hp} {S : Sto} {vs : List V} {ds : List D} (r : RDs K H S vs ds) (lo hi : Option Int) : RDs K H S (cutV vs lo hi) (cutD ds lo hi) := by
  unfold cutV cutD
  rw [r.length]
  exact (r.drop _).take _
def sliceD (mu : Bool) : RDS := fun x lo hi S Q => match x with
  | .at (.str z) => z.length ≤ sizeLine ∧ Q (.str (cutS z lo hi)) S
  | .tup xs => Q (.tup (cutD xs lo hi)) S
  | x => ∃ xs, lsOf S x = some xs ∧ (if mu = true then ∀ p, S p = none → Q (.ref p) (up S p (.lst (cutD xs lo hi))) else Q (.fl (cutD xs lo hi)) S)
def lSl (K : PySem.W.Frag) (r : RDS) : V → Option Int → Option Int → Hp → VK → Prop := fun v lo hi H Q => ∃ N x S Q', RD ⟨K, N⟩ H S v x ∧ RS ⟨K, N⟩ H S ∧ r x lo hi S Q' ∧ ∀ d S' w H', Bh ⟨K, N⟩ H S H' S' → RD ⟨K, N⟩ H' S' w d → Q' d S' → Q w H'
theorem cut_whole {α : Type} {xs : List α} {lo hi : Option Int} (h : HT.sIx xs.length 0 lo = 0 ∧ HT.sIx xs.length xs.length hi = xs.length) : (xs.drop (HT.sIx xs.length 0 lo)).take (HT.sIx xs.length xs.length hi - HT.sIx xs.length 0 lo) = xs := by
  rw [h.1, h.2]; simp
theorem xd_slice (mu : Bool) : SlR X (lSl X.K (sliceD mu)) := by
  intro pins s σ H v vv vl vu lo hi sl Q I rv hs pl pu hh
  obtain ⟨N, x, S, Q', rx, rs, q, k⟩ := hh
  have lists : ∀ {xs : List D}, lsOf S x = some xs → (if mu = true then ∀ p, S p = none → Q' (.ref p) (up S p (.lst (cutD xs lo hi))) else Q' (.fl (cutD xs lo hi)) S) → ∃ T id, typeLookup (.type T) "__getitem__" = pure (some (.builtin id)) ∧ s.TypeIs vv T ∧ wpAny (model X.prog X.w) X.A (getItem vv (.ref sl)) (EP X pins σ Q) X.xe s := by
    intro xs h1 q
    obtain ⟨a, vs, rfl, sa, ra⟩ := ls_sq rs rx h1
    refine sl_list pins s σ H _ vv vl vu lo hi sl Q I rv hs pl pu ⟨a, vs, rfl, sa, fun p np => ?_⟩
    cases mu with
    | true =>
      rw [if_pos rfl] at q
      exact k _ _ _ _ (new_lst rs np (rds_cut ra lo hi)) (.of _) (q p (rs.free np))
    | false =>
      rw [if_neg Bool.false_ne_true] at q
      obtain ⟨b1, r1⟩ := new_fl rs np (rds_cut ra lo hi)
      exact k _ _ _ _ b1 r1 q
  unfold sliceD at q
  split at q
  · rename_i z
    exact sl_str pins s σ H _ vv vl vu lo hi sl Q I rv hs pl pu ⟨z, rx.at_, q.1, k _ S _ H (.refl rs) (.of _) q.2⟩
  · rename_i xs
    obtain ⟨a, vs, rfl, t, r⟩ := rx.tup_
    refine sl_tupA pins s σ H _ vv vl vu lo hi sl Q I rv hs pl pu ⟨a, vs, rfl, .of t, fun hw => ?_, fun _ p np => ?_⟩
    · rw [r.length] at hw
      unfold cutD at q
      rw [cut_whole hw] at q
      exact k _ S _ H (.refl rs) (.of_tup t r) q
    · obtain ⟨b1, r1⟩ := new_tup rs np (rds_cut r lo hi)
      exact k _ S _ _ b1 r1 q
  · obtain ⟨xs, h1, q⟩ := q
    exact lists h1 q
def dSlice (r : RDS) (te : TDE) (tl th : TDO) : TDE := fun δ S Q => te δ S fun x S1 => tl δ S1 fun l S2 => th δ S2 fun u S3 => r x l u S3 Q
theorem de_slice {r : RDS} {e : Expr} {lo hi : Option Expr} {te : TDE} {tl th : TDO} {pos p2 : Pos} (ho : SlR X (lSl X.K r)) (he : PE X e (lE X.K te)) (hl : PO X lo (lO X.K tl)) (hu : PO X hi (lO X.K th)) : PE X (.Subscript e (.Slice lo hi none p2) pos) (lE X.K (dSlice r te tl th)) :=
  PE.wk (pe_slice ho he hl hu) fun σ H Q ⟨N, δ, S, Q', re, rs, q, k⟩ => by
    refine ⟨N, δ, S, _, re, rs, q, fun x S1 v H1 b1 rx q1 => ?_⟩
    refine ⟨N, δ, S1, _, re.le (rs.le b1.fr), b1.rs, q1, fun l S2 H2 b2 q2 => ?_⟩
    have b12 := b1.trans b2
    refine ⟨N, δ, S2, _, re.le (rs.le b12.fr), b2.rs, q2, fun u S3 H3 b3 q3 => ?_⟩
    exact ⟨N, x, S3, Q', (rx.le (b1.rs.le b2.fr)).le (b2.rs.le b3.fr), b3.rs, q3, fun d S' w H' b4 => k d S' w H' ((b12.trans b3).trans b4)⟩

/-! ### truth -/
def truD : D → Sto → (Bool → Sto → Prop) → Prop := fun x S Q => match x with
  | .at .non => Q false S
  | .at (.bl b) => Q b S
  | .at (.int i) => Q (i != 0) S
  | .at (.str y) => y.length ≤ sizeLine ∧ Q ((y.length : Int) != 0) S
  | x => (∃ xs, sqOf S x = some xs ∧ Q (!xs.isEmpty) S) ∨ ∃ a kvs, x = .ref a ∧ S a = some (.dk kvs) ∧ Q (!kvs.isEmpty) S
theorem emp_rd {K : Kx} {H : Hp} {S : Sto} {vs : List V} {ds : List D} (r : RDs K H S vs ds) : vs.isEmpty = ds.isEmpty := by
  have := r.length
  cases vs <;> cases ds <;> simp_all
theorem td_tru : TruR X (lTr X.K truD) := by
  intro pins s σ H v vv Q I rv hh
  obtain ⟨N, x, S, Q', rx, rs, q, k⟩ := hh
  unfold truD at q
  split at q
  · exact tru_ok pins s σ H v vv Q I rv ⟨false, by rw [rx.at_]; rfl, k _ S H (.refl rs) q⟩
  · rename_i b
    exact tru_ok pins s σ H v vv Q I rv ⟨b, by rw [rx.at_]; rfl, k _ S H (.refl rs) q⟩
  · rename_i i
    exact tru_ok pins s σ H v vv Q I rv ⟨i != 0, by rw [rx.at_]; rfl, k _ S H (.refl rs) q⟩
  · rename_i y
    exact tru_ok pins s σ H v vv Q I rv ⟨_, by rw [rx.at_]; exact ⟨q.1, rfl⟩, k _ S H (.refl rs) q.2⟩
  · rcases q with ⟨xs, h1, q⟩ | ⟨a, kvs, rfl, e, q⟩
    · obtain ⟨a, vs, rfl, sq, r⟩ := sq_sq rs rx h1
      rw [← emp_rd r] at q
      refine tru_ok pins s σ H _ vv Q I rv ⟨!vs.isEmpty, ?_, k _ S H (.refl rs) q⟩
      rcases sq with sq | sq
      · exact .inl ⟨vs, sq, rfl⟩
      · exact .inr (.inl ⟨vs, sq, rfl⟩)
    · obtain ⟨ks, h1, h2, h3⟩ := rs.ob a _ e
      have e1 : ks.isEmpty = kvs.isEmpty := by
        have := congrArg List.length h2
        cases ks <;> cases kvs <;> simp_all
      rw [← e1] at q
      exact tru_ok pins s σ H _ vv Q I rv ⟨!ks.isEmpty, by rw [rx.at_]; exact .inr (.inr ⟨ks, h1, rfl⟩), k _ S H (.refl rs) q⟩
end
end DL

/-! Data layer, sixth part: stores into things, methods, built-ins, repr, enumerate. -/
namespace DL
open PySem L2 PyProof.Rows
section
variable {X : Cx} {k : Nat}

/-! ### o[i] = v -/
/-- x, y, value: the store behind -/
def setD : D → D → D → Sto → (Sto → Prop) → Prop := fun x y v S Q => ∃ a, x = .ref a ∧ ((∃ xs i j, S a = some (.lst xs) ∧ y = .int i ∧ ixN xs.length i = some j ∧ Q (up S a (.lst (xs.set j v)))) ∨
  (∃ kvs κ, S a = some (.dk kvs) ∧ keyD y = some κ ∧ kvs.length < sizeLine ∧ Q (up S a (.dk (putD kvs κ v)))) ∨ ∃ kvs ds κ, S a = some (.dt kvs) ∧ y = .tup ds ∧ keysD ds = some κ ∧ kvs.length < sizeLine ∧ Q (up S a (.dt (putD kvs κ v))))
def lSet (K : PySem.W.Frag) : TSet := fun o i v H Q => ∃ N x y z S Q', RD ⟨K, N⟩ H S o x ∧ RD ⟨K, N⟩ H S i y ∧ RD ⟨K, N⟩ H S v z ∧ RS ⟨K, N⟩ H S ∧ setD x y z S Q' ∧ ∀ S' H', Bh ⟨K, N⟩ H S H' S' → Q' S' → Q H'
theorem pset_set (hr : Rg k X.A) : PSet X (lSet X.K) := by
  intro pins s σ H o i v ov iv u Q I ro ri rv hh
  obtain ⟨N, x, y, z, S, Q', rx, ry, rz, rs, q, kk⟩ := hh
  have hu := hr.r.un
  obtain ⟨a, rfl, q⟩ := q
  have eo := rx.at_
  subst eo
  rcases q with ⟨xs, n, j, e, rfl, hj, q⟩ | ⟨kvs, κ, e, hk, hl, q⟩ | ⟨kvs, ds, κ, e, rfl, hk, hl, q⟩
  · obtain ⟨vs, h1, h2⟩ := rs.ob a _ e
    have ei := ry.at_
    subst ei
    refine set_list pins s σ H _ _ v ov iv u Q I ro ri rv ⟨a, vs, n, j, rfl, rfl, h1, by rw [h2.length]; exact hj, ?_⟩
    obtain ⟨b1, b2⟩ := rs.write (o := .lst (vs.set j v)) (m' := .lst (xs.set j z)) e fun le => ⟨_, upd_same, (h2.set rz j).le le⟩
    exact kk _ _ ⟨b2, b1⟩ q
  · obtain ⟨ks, h1, h2, h3⟩ := rs.ob a _ e
    have ey := keyD_eq hk
    subst ey
    have ei := ry.at_
    subst ei
    have hll : ks.length = kvs.length := by simpa using congrArg List.length h2
    obtain ⟨p1, p2⟩ := rel_put h2 h3 κ rz
    obtain ⟨b1, b2⟩ := rs.write (o := .dK (putK ks κ v)) (m' := .dk (putD kvs κ z)) e fun le => ⟨_, upd_same, p1, p2.le le⟩
    refine set_dict (by omega) pins s σ H _ _ v ov iv u Q I ro ri rv ⟨a, _, rfl, .inl ⟨ks, κ, h1, rfl, by omega, rfl⟩, kk _ _ ⟨b2, b1⟩ q⟩
  · obtain ⟨ks, h1, h2, h3⟩ := rs.ob a _ e
    have ey := keysD_eq hk
    subst ey
    obtain ⟨b, vs, rfl, t, rv'⟩ := ry.tup_
    have evs : vs = κ.map kV := rv'.atoms
    subst evs
    have hll : ks.length = kvs.length := by simpa using congrArg List.length h2
    obtain ⟨p1, p2⟩ := rel_put h2 h3 κ rz
    obtain ⟨b1, b2⟩ := rs.write (o := .dT (putK ks κ v)) (m' := .dt (putD kvs κ z)) e fun le => ⟨_, upd_same, p1, p2.le le⟩
    refine set_dict (by omega) pins s σ H _ _ v ov iv u Q I ro ri rv ⟨a, _, rfl, .inr ⟨ks, κ, b, h1, rfl, t, by omega, rfl⟩, kk _ _ ⟨b2, b1⟩ q⟩
def gdSub (to ti : TDE) : TDG := fun d δ S Q => to δ S fun o S1 => ti δ S1 fun i S2 => setD o i d S2 fun S3 => Q δ S3
theorem dg_sub {o i : Expr} {to ti : TDE} {pos : Pos} (hr : Rg k X.A) (ho : PE X o (lE X.K to)) (hi : PE X i (lE X.K ti))
    (ha : ∀ v, assign (.Subscript o i pos) X.env v = (do
      let ov ← holding [v] (eval o X.env)
      let iv ← holding [v, ov] (eval i X.env)
      standAt pos
      holding [v, ov, iv] (setItem ov iv v)
      release [v, ov, iv] []) := by intro _; rfl) : PG X (.Subscript o i pos) (lG X.K (gdSub to ti)) :=
  PG.wk (pg_sub ho hi (pset_set hr) ha) fun v σ H Q ⟨N, d, δ, S, Q', rd, re, rs, q, kk⟩ => by
    refine ⟨N, δ, S, _, re, rs, q, fun x S1 ov H1 b1 rx q1 => ?_⟩
    refine ⟨N, δ, S1, _, re.le (rs.le b1.fr), b1.rs, q1, fun y S2 iv H2 b2 ry q2 => ?_⟩
    have b12 := b1.trans b2
    refine ⟨N, x, y, d, S2, _, rx.le (b1.rs.le b2.fr), ry, rd.le (rs.le b12.fr), b2.rs, q2, fun S' H' b3 q3 => ?_⟩
    have b13 := b12.trans b3
    exact kk δ S' σ H' b13 (re.le (rs.le b13.fr)) q3

/-! ### name op= e, o[i] op= e -/
def lIp (K : PySem.W.Frag) (r : RD2) : TIp := l2 K r
def addI : RD2 := intD (fun _ _ => True) fun i j => .int (i + j)
def subI : RD2 := intD (fun _ _ => True) fun i j => .int (i - j)
theorem pip_add : PIp X .Add (l2 X.K addI) := by
  intro pins s σ H v u vv uu Q I rv ru h'
  obtain ⟨N, x, y, S, Q', rx, ry, rs, q, k⟩ := h'
  unfold addI intD at q
  split at q
  · rename_i i j
    exact ip_add pins s σ H _ _ _ _ Q I rv ru ⟨i, j, rx.at_, ry.at_, k _ S _ H (.refl rs) (.of _) q.2⟩
  · exact q.elim
theorem pip_sub : PIp X .Sub (l2 X.K subI) := by
  intro pins s σ H v u vv uu Q I rv ru h'
  obtain ⟨N, x, y, S, Q', rx, ry, rs, q, k⟩ := h'
  unfold subI intD at q
  split at q
  · rename_i i j
    exact ip_sub pins s σ H _ _ _ _ Q I rv ru ⟨i, j, rx.at_, ry.at_, k _ S _ H (.refl rs) (.of _) q.2⟩
  · exact q.elim
def dAug (i : Nat) (te : TDE) (r : RD2) : TDS := fun D δ S => ∃ x, δ[i]? = some (some x) ∧ te δ S fun y S1 => r x y S1 fun z S2 => D.nx (δ.set i (some z)) S2
theorem ds_aug (i : Nat) {x : Str} {e : Expr} {te : TDE} {op : Operator} {r : RD2} {pos pos' : Pos} (hN : X.N.Nodup) (ho : PIp X op (l2 X.K r)) (he : PE X e (lE X.K te)) (hi : X.N[i]? = some x := by rfl) (hx : Loc X.env.scope x := by first | exact Or.inl rfl | exact Or.inr rfl) (hf : X.fn x = true ∨ X.env.scope.names.lookup x = some .local := by first | exact .inl rfl | exact .inr rfl | assumption) :
    PS X (.AugAssign (.Name x pos') op e pos) (lS X.K (dAug i te r)) :=
  PS.wk (ps_aug hN hi hx he ho hf) fun D σ H ⟨N, δ, S, D', re, rs, q, l⟩ => by
    obtain ⟨d, hd, q⟩ := q
    obtain ⟨v, hv, rv⟩ := re.2 i d hd
    refine ⟨v, hv, N, δ, S, _, re, rs, q, fun y S1 u H1 b1 ry q1 => ?_⟩
    refine ⟨N, d, y, S1, _, rv.le (rs.le b1.fr), ry, b1.rs, q1, fun z S2 w H2 b2 rz q2 => ?_⟩
    have b12 := b1.trans b2
    exact l.nx _ S2 _ H2 b12 ((re.le (rs.le b12.fr)).set rz i) q2

/-! ### methods -/
abbrev RDM := D → List D → Sto → KD → Prop
def lM (K : PySem.W.Frag) (r : RDM) : V → List V → Hp → VK → Prop := fun v vs H Q => ∃ N x xs S Q', RD ⟨K, N⟩ H S v x ∧ RDs ⟨K, N⟩ H S vs xs ∧ RS ⟨K, N⟩ H S ∧ r x xs S Q' ∧ ∀ d S' w H', Bh ⟨K, N⟩ H S H' S' → RD ⟨K, N⟩ H' S' w d → Q' d S' → Q w H'
/-- of that type -/
def tyD (S : Sto) (x : D) (T : String) : Prop := match x with
  | .at (.str _) => T = "str"
  | .at (.ref a) => match S a with
    | some (.lst _) => T = "list"
    | some (.dk _) => T = "dict"
    | some (.dt _) => T = "dict"
    | _ => False
  | .fl _ => T = "list"
  | _ => False
theorem ty_of {K : Kx} {H : Hp} {S : Sto} {v : V} {x : D} {T : String} (rs : RS K H S) (r : RD K H S v x) (h : tyD S x T) : tyV K.k T v H := by
  unfold tyD at h
  split at h
  · rw [r.at_]; exact h
  · rename_i a
    rw [r.at_]
    split at h
    · rename_i xs e
      obtain ⟨vs, h1, _⟩ := rs.ob a _ e
      exact .inl ⟨h, vs, .of h1⟩
    · rename_i kvs e
      obtain ⟨ks, h1, _⟩ := rs.ob a _ e
      exact .inr (.inr (.inl ⟨h, .inl ⟨ks, h1⟩⟩))
    · rename_i kvs e
      obtain ⟨ks, h1, _⟩ := rs.ob a _ e
      exact .inr (.inr (.inl ⟨h, .inr ⟨ks, h1⟩⟩))
    · exact h.elim
  · obtain ⟨a, vs, rfl, fz, _⟩ := r.fl_
    exact .inl ⟨h, vs, fz.sq⟩
  · exact h.elim
def dM0 (T : String) (r : RDM) (to : TDE) : TDE := fun δ S Q => to δ S fun x S1 => tyD S1 x T ∧ r x [] S1 Q
def dM (T : String) (r : RDM) (to : TDE) (t : TDA) : TDE := fun δ S Q => to δ S fun x S1 => tyD S1 x T ∧ t δ S1 fun xs S2 => r x xs S2 Q
variable {o e : Expr} {es : List Expr} {to : TDE} {t : TDA} {name : Str} {apos cpos : Pos} {T id : String} {r : RDM}
theorem de_m0 (pa : PlainAttrs T) (slot : Slot T name id) (hty : typeOf (.builtin id) = pure (.type "method_descriptor")) (hm : MtR X id (lM X.K r)) (ho : PE X o (lE X.K to))
    (hbase : attributeBase o name X.env (eval o X.env) = eval o X.env := by rfl) (hline : (apos.endLine == cpos.line) = true := by rfl) : PE X (.Call (.Attribute o name apos) [] [] cpos) (lE X.K (dM0 T r to)) :=
  PE.wk (pe_bm0 pa slot hty hm ho hbase hline) fun σ H Q ⟨N, δ, S, Q', re, rs, q, kk⟩ => by
    refine ⟨N, δ, S, _, re, rs, q, fun x S1 v H1 b1 rx q1 => ?_⟩
    exact ⟨ty_of b1.rs rx q1.1, N, x, [], S1, Q', rx, .nil, b1.rs, q1.2, fun d S' w H' b2 => kk d S' w H' (b1.trans b2)⟩
theorem de_m (pa : PlainAttrs T) (slot : Slot T name id) (hty : typeOf (.builtin id) = pure (.type "method_descriptor")) (hm : MtR X id (lM X.K r)) (ho : PE X o (lE X.K to)) (ha : PA X (e :: es) (lA X.K t))
    (hbase : attributeBase o name X.env (eval o X.env) = eval o X.env := by rfl)
    (hfew : ((backTo cpos (starEach (e :: es) X.env)).all (fun x => !x.1) && (backToKw cpos (keywordEach [] X.env)).all (fun x => x.1.isSome)
      && decide ((e :: es).length + ([] : List Keyword).length + (if ([] : List Keyword).isEmpty then 0 else 1) < 30)) = true := by rfl)
    (hline : (apos.endLine == cpos.line) = true := by rfl) (hs : starEach (e :: es) X.env = (false, eval e X.env) :: starEach es X.env := by rfl) (hplain : (backTo cpos (starEach es X.env)).any (·.1) = false := by rfl) :
    PE X (.Call (.Attribute o name apos) (e :: es) [] cpos) (lE X.K (dM T r to t)) :=
  PE.wk (pe_bm pa slot hty hm ho ha hbase hfew hline hs hplain) fun σ H Q ⟨N, δ, S, Q', re, rs, q, kk⟩ => by
    refine ⟨N, δ, S, _, re, rs, q, fun x S1 v H1 b1 rx q1 => ?_⟩
    refine ⟨ty_of b1.rs rx q1.1, N, δ, S1, _, re.le (rs.le b1.fr), b1.rs, q1.2, fun xs S2 vs H2 b2 rxs q2 => ?_⟩
    have b12 := b1.trans b2
    exact ⟨N, x, xs, S2, Q', rx.le (b1.rs.le b2.fr), rxs, b2.rs, q2, fun d S' w H' b3 => kk d S' w H' (b12.trans b3)⟩
/-- x.append(y) -/
def appD : RDM := fun x ys S Q => ∃ a xs y, x = .ref a ∧ ys = [y] ∧ S a = some (.lst xs) ∧ xs.length < sizeLine ∧ Q .non (up S a (.lst (xs ++ [y])))
theorem RDs.one' {K : Kx} {H : Hp} {S : Sto} {vs : List V} {d : D} (r : RDs K H S vs [d]) : ∃ v, vs = [v] ∧ RD K H S v d := by
  obtain ⟨v, ws, rfl, a, b⟩ := r.inv_cons
  rw [b.inv_nil]
  exact ⟨v, rfl, a⟩
theorem md_append : MtR X "list.append" (lM X.K appD) := by
  intro pins s σ H v vs vv us Q I rv rvs hh
  obtain ⟨N, x, ys, S, Q', rx, rxs, rs, ⟨a, xs, y, rfl, rfl, e, hz, q⟩, kk⟩ := hh
  obtain ⟨w, rfl, rw'⟩ := rxs.one'
  obtain ⟨ws, h1, h2⟩ := rs.ob a _ e
  obtain ⟨b1, b2⟩ := rs.write (o := .lst (ws ++ [w])) (m' := .lst (xs ++ [y])) e fun le => ⟨_, upd_same, (h2.append (.cons rw' .nil)).le le⟩
  exact mt_append pins s σ H v _ vv us Q I rv rvs ⟨a, ws, w, rx.at_, rfl, h1, by rw [h2.length]; exact hz, kk _ _ _ _ ⟨b2, b1⟩ (.of _) q⟩
/-- x.extend(y), lists -/
def extD : RDM := fun x ys S Q => ∃ a xs y zs, x = .ref a ∧ ys = [y] ∧ S a = some (.lst xs) ∧ lsOf S y = some zs ∧ y ≠ .ref a ∧ xs.length + zs.length ≤ sizeLine ∧ Q .non (up S a (.lst (xs ++ zs)))
theorem md_pop : MtR X "list.pop" (lM X.K fun x ys S Q => ∃ a xs y, x = .ref a ∧ ys = [] ∧ S a = some (.lst xs) ∧ xs[xs.length - 1]? = some y ∧ Q y (up S a (.lst xs.dropLast))) := by
  intro pins s σ H v vs vv us Q I rv rvs hh
  obtain ⟨N, x, ys, S, Q', rx, rxs, rs, ⟨a, xs, y, rfl, rfl, e, hy, q⟩, kk⟩ := hh
  have := rxs.inv_nil
  subst this
  obtain ⟨ws, h1, h2⟩ := rs.ob a _ e
  obtain ⟨w, hw, rw'⟩ := h2.get hy
  obtain ⟨b1, b2⟩ := rs.write (o := .lst ws.dropLast) (m' := .lst xs.dropLast) e fun le => ⟨_, upd_same, h2.dropLast.le le⟩
  exact mt_pop pins s σ H v _ vv us Q I rv rvs ⟨a, ws, w, rx.at_, rfl, h1, by rw [h2.length]; exact hw, kk _ _ _ _ ⟨b2, b1⟩ (rw'.le (rs.le b2)) q⟩
def popD : RDM := fun x ys S Q => ∃ a xs y, x = .ref a ∧ ys = [] ∧ S a = some (.lst xs) ∧ xs[xs.length - 1]? = some y ∧ Q y (up S a (.lst xs.dropLast))

/-! ### dict displays, get -/
def dDk : TDE := fun _ S Q => ∀ p, S p = none → Q (.ref p) (up S p (.dk []))
def dDt : TDE := fun _ S Q => ∀ p, S p = none → Q (.ref p) (up S p (.dt []))
theorem de_dk {pos : Pos} : PE X (.Dict [] [] pos) (lE X.K dDk) := PE.wk pe_dnewK fun σ H Q ⟨N, δ, S, Q', re, rs, q, kk⟩ p np => by
  obtain ⟨b1, b2⟩ := rs.new (o := .dK []) (m := .dk []) np fun le => ⟨[], upd_same, rfl, .nil⟩
  exact kk _ _ _ _ ⟨b2, b1⟩ (.of _) (q p (rs.free np))
theorem de_dt {pos : Pos} : PE X (.Dict [] [] pos) (lE X.K dDt) := PE.wk pe_dnewT fun σ H Q ⟨N, δ, S, Q', re, rs, q, kk⟩ p np => by
  obtain ⟨b1, b2⟩ := rs.new (o := .dT []) (m := .dt []) np fun le => ⟨[], upd_same, rfl, .nil⟩
  exact kk _ _ _ _ ⟨b2, b1⟩ (.of _) (q p (rs.free np))
def dGet1 (td ty : TDE) : TDE := fun δ S Q => td δ S fun x S1 => tyD S1 x "dict" ∧ ty δ S1 fun y S2 => ∃ o, atD S2 y x = some o ∧ Q (o.getD .non) S2
def dGet2 (td ty tx : TDE) : TDE := fun δ S Q => td δ S fun x S1 => tyD S1 x "dict" ∧ ty δ S1 fun y S2 => tx δ S2 fun z S3 => ∃ o, atD S3 y x = some o ∧ Q (o.getD z) S3
theorem isD_of {K : Kx} {H : Hp} {S : Sto} {v : V} {x : D} (rs : RS K H S) (r : RD K H S v x) (h : tyD S x "dict") : ∃ a, v = .ref a ∧ IsD H a := by
  unfold tyD at h
  split at h
  · exact absurd h (by decide)
  · rename_i a
    refine ⟨a, r.at_, ?_⟩
    split at h
    · exact absurd h (by decide)
    · rename_i kvs e
      obtain ⟨ks, h1, _⟩ := rs.ob a _ e
      exact .inl ⟨ks, .inl h1⟩
    · rename_i kvs e
      obtain ⟨ks, h1, _⟩ := rs.ob a _ e
      exact .inr ⟨ks, .inl h1⟩
    · exact h.elim
  · exact absurd h (by decide)
  · exact h.elim
theorem de_get1 {td ty : TDE} (hr : Rg k X.A) (ho : PE X o (lE X.K td)) (he : PE X e (lE X.K ty)) (m : M1 X o "get" apos e cpos) : PE X (.Call (.Attribute o "get" apos) [e] [] cpos) (lE X.K (dGet1 td ty)) :=
  PE.wk (pe_dget1 (by have := hr.r.un; omega) ho he m) fun σ H Q ⟨N, δ, S, Q', re, rs, q, kk⟩ => by
    refine ⟨N, δ, S, _, re, rs, q, fun x S1 v H1 b1 rx q1 => ?_⟩
    obtain ⟨a, rfl, hd⟩ := isD_of b1.rs rx q1.1
    refine ⟨a, rfl, hd, N, δ, S1, _, re.le (rs.le b1.fr), b1.rs, q1.2, fun y S2 u H2 b2 ry q2 => ?_⟩
    obtain ⟨o, ho, q2⟩ := q2
    have rx2 := rx.le (b1.rs.le b2.fr)
    obtain ⟨a', r, ea, g, e1, e2⟩ := at_get b2.rs ry rx2 ho
    cases ea
    refine ⟨r, g, ?_⟩
    cases o with
    | none => rw [e1 rfl]; exact kk _ S2 _ H2 (b1.trans b2) (.of _) q2
    | some d => obtain ⟨w, rfl, rw'⟩ := e2 d rfl; exact kk _ S2 _ H2 (b1.trans b2) rw' q2
theorem de_get2 {td ty tx : TDE} {f : Expr} (hr : Rg k X.A) (ho : PE X o (lE X.K td)) (he : PE X e (lE X.K ty)) (hf : PE X f (lE X.K tx)) (m : M2 X o "get" apos e f cpos) : PE X (.Call (.Attribute o "get" apos) [e, f] [] cpos) (lE X.K (dGet2 td ty tx)) :=
  PE.wk (pe_dget2 (by have := hr.r.un; omega) ho he hf m) fun σ H Q ⟨N, δ, S, Q', re, rs, q, kk⟩ => by
    refine ⟨N, δ, S, _, re, rs, q, fun x S1 v H1 b1 rx q1 => ?_⟩
    obtain ⟨a, rfl, hd⟩ := isD_of b1.rs rx q1.1
    refine ⟨a, rfl, hd, N, δ, S1, _, re.le (rs.le b1.fr), b1.rs, q1.2, fun y S2 u H2 b2 ry q2 => ?_⟩
    have b12 := b1.trans b2
    refine ⟨N, δ, S2, _, re.le (rs.le b12.fr), b2.rs, q2, fun z S3 w H3 b3 rz q3 => ?_⟩
    obtain ⟨o, ho, q3⟩ := q3
    have rx2 := (rx.le (b1.rs.le b2.fr)).le (b2.rs.le b3.fr)
    obtain ⟨a', r, ea, g, e1, e2⟩ := at_get b3.rs (ry.le (b2.rs.le b3.fr)) rx2 ho
    cases ea
    refine ⟨r, g, ?_⟩
    cases o with
    | none => rw [e1 rfl]; exact kk _ S3 _ H3 (b12.trans b3) rz q3
    | some d => obtain ⟨w, rfl, rw'⟩ := e2 d rfl; exact kk _ S3 _ H3 (b12.trans b3) rw' q3

/-! ### built-ins -/
/-- len -/
def lenD : RDL := fun ds S Q => ∃ x, ds = [x] ∧ match x with
  | .at (.str z) => z.length ≤ sizeLine ∧ Q (.int z.length) S
  | x => (∃ xs, sqOf S x = some xs ∧ Q (.int xs.length) S) ∨ (∃ a kvs, x = .ref a ∧ S a = some (.dk kvs) ∧ Q (.int kvs.length) S) ∨ ∃ a kvs, x = .ref a ∧ S a = some (.dt kvs) ∧ Q (.int kvs.length) S
theorem cd_len : CallR X (.builtin "len") (lL X.K lenD) := by
  intro pins s σ H vs us Q I r hh
  obtain ⟨N, ds, S, Q', rd, rs, ⟨x, rfl, q⟩, kk⟩ := hh
  obtain ⟨v, rfl, rx⟩ := rd.one'
  split at q
  · rename_i z
    have := rx.at_
    subst this
    exact call_len_str pins s σ H _ us Q I r ⟨z, rfl, q.1, kk _ S _ H (.refl rs) (.of _) q.2⟩
  · rcases q with ⟨xs, hx, q⟩ | ⟨a, kvs, rfl, e, q⟩ | ⟨a, kvs, rfl, e, q⟩
    · obtain ⟨a, ws, rfl, sq, rw'⟩ := sq_sq rs rx hx
      exact call_len_seq pins s σ H _ us Q I r ⟨a, ws, rfl, sq, kk _ S _ H (.refl rs) (by rw [rw'.length]; exact .of _) q⟩
    · obtain ⟨ks, h1, h2, h3⟩ := rs.ob a _ e
      have hl : ks.length = kvs.length := by simpa using congrArg List.length h2
      have := rx.at_
      subst this
      exact call_lenD pins s σ H _ us Q I r ⟨a, ks, rfl, h1, kk _ S _ H (.refl rs) (by rw [hl]; exact .of _) q⟩
    · obtain ⟨ks, h1, h2, h3⟩ := rs.ob a _ e
      have hl : ks.length = kvs.length := by simpa using congrArg List.length h2
      have := rx.at_
      subst this
      exact call_len_dT pins s σ H _ us Q I r ⟨a, ks, rfl, h1, kk _ S _ H (.refl rs) (by rw [hl]; exact .of _) q⟩
/-- list(x) -/
def lstD (mu : Bool) : RDL := fun ds S Q => ∃ x xs, ds = [x] ∧ sqOf S x = some xs ∧ (if mu = true then ∀ p, S p = none → Q (.ref p) (up S p (.lst xs)) else Q (.fl xs) S)
theorem cd_list (mu : Bool) : CallR X (.type "list") (lL X.K (lstD mu)) := by
  intro pins s σ H vs us Q I r hh
  obtain ⟨N, ds, S, Q', rd, rs, ⟨x, xs, rfl, hx, q⟩, kk⟩ := hh
  obtain ⟨v, rfl, rx⟩ := rd.one'
  obtain ⟨a, ws, rfl, sq, rw'⟩ := sq_sq rs rx hx
  refine call_list_of pins s σ H _ us Q I r ⟨a, ws, rfl, sq, fun p np => ?_⟩
  cases mu with
  | true =>
    rw [if_pos rfl] at q
    exact kk _ _ _ _ (new_lst rs np rw') (.of _) (q p (rs.free np))
  | false =>
    rw [if_neg Bool.false_ne_true] at q
    obtain ⟨b1, r1⟩ := new_fl rs np rw'
    exact kk _ _ _ _ b1 r1 q
/-- tuple(x) -/
def tplD : RDL := fun ds S Q => ∃ x, ds = [x] ∧ match x with
  | .tup xs => Q (.tup xs) S
  | x => ∃ xs, lsOf S x = some xs ∧ Q (.tup xs) S
theorem cd_tuple : CallR X (.type "tuple") (lL X.K tplD) := by
  intro pins s σ H vs us Q I r hh
  obtain ⟨N, ds, S, Q', rd, rs, ⟨x, rfl, q⟩, kk⟩ := hh
  obtain ⟨v, rfl, rx⟩ := rd.one'
  split at q
  · obtain ⟨a, ws, rfl, t, rw'⟩ := rx.tup_
    exact call_tuple_of pins s σ H _ us Q I r ⟨a, ws, rfl, .inr ⟨.of t, kk _ S _ H (.refl rs) (.of_tup t rw') q⟩⟩
  · obtain ⟨xs, hx, q⟩ := q
    obtain ⟨a, ws, rfl, sq, rw'⟩ := ls_sq rs rx hx
    refine call_tuple_of pins s σ H _ us Q I r ⟨a, ws, rfl, .inl ⟨sq, fun p np => ?_⟩⟩
    obtain ⟨b1, r1⟩ := new_tup rs np rw'
    exact kk _ _ _ _ b1 r1 q
/-- any, all of bools -/
def anyD : RDL := fun ds S Q => ∃ (x : D) (bs : List Bool), ds = [x] ∧ lsOf S x = some (bs.map D.bl) ∧ Q (.bl (bs.any _root_.id)) S
def allD : RDL := fun ds S Q => ∃ (x : D) (bs : List Bool), ds = [x] ∧ lsOf S x = some (bs.map D.bl) ∧ Q (.bl (bs.all _root_.id)) S
theorem cd_any (hc : X.calm = true) : CallR X (.builtin "any") (lL X.K anyD) := by
  intro pins s σ H vs us Q I r hh
  obtain ⟨N, ds, S, Q', rd, rs, ⟨x, bs, rfl, hx, q⟩, kk⟩ := hh
  obtain ⟨v, rfl, rx⟩ := rd.one'
  obtain ⟨a, ws, rfl, sq, rw'⟩ := ls_sq rs rx hx
  have e : ws = bs.map V.bl := RDs.atoms (us := bs.map V.bl) (by rw [List.map_map]; exact rw')
  subst e
  exact L2.cr_any hc pins s σ H _ us Q I r ⟨a, bs, rfl, sq, kk _ S _ H (.refl rs) (.of _) q⟩
theorem cd_all (hc : X.calm = true) : CallR X (.builtin "all") (lL X.K allD) := by
  intro pins s σ H vs us Q I r hh
  obtain ⟨N, ds, S, Q', rd, rs, ⟨x, bs, rfl, hx, q⟩, kk⟩ := hh
  obtain ⟨v, rfl, rx⟩ := rd.one'
  obtain ⟨a, ws, rfl, sq, rw'⟩ := ls_sq rs rx hx
  have e : ws = bs.map V.bl := RDs.atoms (us := bs.map V.bl) (by rw [List.map_map]; exact rw')
  subst e
  exact L2.cr_all hc pins s σ H _ us Q I r ⟨a, bs, rfl, sq, kk _ S _ H (.refl rs) (.of _) q⟩
def min2D : RDL := fun ds S Q => ∃ i j : Int, ds = [.int i, .int j] ∧ Q (.int (if j < i then j else i)) S
def max2D : RDL := fun ds S Q => ∃ i j : Int, ds = [.int i, .int j] ∧ Q (.int (if j > i then j else i)) S
theorem cd_min2 (hc : X.calm = true) : CallR X (.builtin "min") (lL X.K min2D) := by
  intro pins s σ H vs us Q I r hh
  obtain ⟨N, ds, S, Q', rd, rs, ⟨i, j, rfl, q⟩, kk⟩ := hh
  exact call_min2 hc pins s σ H _ us Q I r ⟨i, j, rd.two, kk _ S _ H (.refl rs) (.of _) q⟩
theorem cd_max2 (hc : X.calm = true) : CallR X (.builtin "max") (lL X.K max2D) := by
  intro pins s σ H vs us Q I r hh
  obtain ⟨N, ds, S, Q', rd, rs, ⟨i, j, rfl, q⟩, kk⟩ := hh
  exact call_max2 hc pins s σ H _ us Q I r ⟨i, j, rd.two, kk _ S _ H (.refl rs) (.of _) q⟩

/-! ### repr -/
/-- fit to be shown -/
def shOk (d : PyData) : Prop := d.showable = true ∧ d.depth ≤ 64 ∧ d.shown.length ≤ sizeLine ∧ d.hasDict = false
def repD : RDL := fun ds S Q => ∃ x, ds = [x] ∧ pur (rsv S x) = true ∧ shOk (toPy (rsv S x)) ∧ Q (.str (toPy (rsv S x)).shown) S
theorem cd_repr (hr : Rg k X.A) : CallR X (.builtin "repr") (lL X.K repD) := by
  intro pins s σ H vs us Q I r hh
  obtain ⟨N, ds, S, Q', rd, rs, ⟨x, rfl, hp, ⟨hs, hd, hl, hn⟩, q⟩, kk⟩ := hh
  obtain ⟨v, rfl, rx⟩ := rd.one'
  have dp := dp_rsv rs rx hp
  have fin : ∀ {u : Tok} {h' : Heap} {tk : Nat}, Inv X pins σ H { s with heap := h', toks := tk } → EP X pins σ Q (.str (toPy (rsv S x)).shown u) { s with heap := h', toks := tk } := fun {u h' tk} J => ⟨.str _, H, J, ⟨u, rfl⟩, kk _ S _ H (.refl rs) (.of _) q⟩
  obtain ⟨u, rfl, ru⟩ := Vals.one r
  generalize toPy (rsv S x) = d at dp hs hd hl hn fin
  have hu := hr.r.un
  have refs : ∀ {a : Addr}, u = .ref a → wpAny (model X.prog X.w) X.A (call (.builtin "repr") [u]) (EP X pins σ Q) X.xe s := by
    intro a e
    subst e
    obtain ⟨as, rr⟩ := Dp.reads I d v _ dp ru
    exact repr_of_reads' rr hs (fun z => by rw [hn] at z; cases z) hr.g (by omega) (fun _ _ e => e) (fun h' u tk hk => fin (I.kept hk)) hl
  cases d with
  | none =>
    cases dp; cases ru
    exact PySem.P.repr_of_none (fin (I.tok _))
  | bool b =>
    cases dp; cases ru
    exact PySem.P.repr_of_bool (by cases b <;> exact fin (I.tok _))
  | int i =>
    cases dp
    obtain ⟨t, rfl⟩ := ru
    exact PySem.P.repr_of_int (of_decide_eq_true hs) (fin (I.tok _))
  | str z =>
    cases dp
    obtain ⟨t, rfl⟩ := ru
    exact PySem.P.repr_of_str (fin (I.tok _)) hl
  | list xs =>
    cases dp
    cases ru
    exact refs rfl
  | tuple xs =>
    cases dp
    cases ru
    exact refs rfl
  | dict kvs => cases dp

end
end DL

/-! Data layer, seventh part: enumerate, zip, range with a step, turned lists, sorted. -/
namespace DL
open PySem L2 PyProof.Rows
section
variable {X : Cx} {k : Nat}

/-! ### enumerate, zip -/
theorem rel_ls {K : Kx} {H0 : Hp} {S0 : Sto} {v : V} {x : D} {ds : List D} (rs : RS K H0 S0) (r : RD K H0 S0 v x) (h : lsOf S0 x = some ds) : ∃ a vs, v = .ref a ∧ SqL K.k H0 a vs ∧ (x = .fl ds ∧ Fz K H0 S0 a vs ∧ RDs K H0 S0 vs ds ∨ x = .ref a ∧ S0 a = some (.lst ds)) := by
  unfold lsOf at h
  split at h
  · cases h
    obtain ⟨a, vs, rfl, fz, rv⟩ := r.fl_
    exact ⟨a, vs, rfl, fz.sq, .inl ⟨rfl, fz, rv⟩⟩
  · rename_i a
    split at h
    · rename_i ys e
      cases h
      obtain ⟨vs, h1, h2⟩ := rs.ob a _ e
      exact ⟨a, vs, r.at_, .of h1, .inr ⟨rfl, e⟩⟩
    · cases h
  · cases h
/-- a list that is walked while it stands: at each turn its items, a frozen one's without a look at the store -/
def lsI (x : D) (S : Sto) : Option (List D) := lsOf S x
theorem ls_at {K : Kx} {H0 H : Hp} {S0 S : Sto} {M : Addr → Prop} {a : Addr} {vs0 : List V} {x : D} {ds0 ds : List D} (b : Bh ⟨K.k, M⟩ H0 S0 H S) (le : TupLe K H0 S0 ⟨K.k, M⟩ H S)
    (h : x = .fl ds0 ∧ Fz K H0 S0 a vs0 ∧ RDs K H0 S0 vs0 ds0 ∨ x = .ref a ∧ S0 a = some (.lst ds0)) (e : lsOf S x = some ds) : ∃ vs, SqL K.k H a vs ∧ RDs ⟨K.k, M⟩ H S vs ds := by
  rcases h with ⟨rfl, fz, r⟩ | ⟨rfl, _⟩
  · cases e
    exact ⟨vs0, (le.l _ _ fz).sq, r.le le⟩
  · unfold lsOf at e
    dsimp only at e
    split at e
    · rename_i ys e'
      cases e
      obtain ⟨vs, h1, h2⟩ := b.rs.ob a _ e'
      exact ⟨vs, .of h1, h2⟩
    · cases e
/-- enumerate(x) -/
def enumI (x : D) : ItD := fun i S => (lsOf S x).map fun ds => ds[i]?.map fun d => .tup [.int i, d]
def iEnumD (t : TDA) : TDI := fun δ S R => t δ S fun xs S1 => ∃ x ds, xs = [x] ∧ lsOf S1 x = some ds ∧ R (enumI x) S1
theorem sql_uniq {K : PySem.W.Frag} {H : Hp} {pins : List (Addr × Obj)} {a : Addr} {xs ys : List V} (h : SqL K H a xs) (h' : SqL K H a ys) (u : ∀ zs, SqL K H a zs → zs = xs) : ys = xs := u _ h'
theorem di_enum {e : Expr} {ta : TDA} {p pos tpos : Pos} {elts : List Expr} {kk : Nat} (hg : Gl X "enumerate") (hm : X.mg "enumerate" = none) (ha : PA X [e] (lA X.K ta)) (hs : starEach [e] X.env = [(false, eval e X.env)] := by rfl) :
    PI X (.Tuple elts kk tpos) (.Call (.Name "enumerate" p) [e] [] pos) (lI X.K (iEnumD ta)) :=
  PI.wk (pi_enum hg hm ha hs) fun σ H R ⟨N, δ, S, R', re, rs, q, kk⟩ => by
    refine ⟨N, δ, S, _, re, rs, q, fun xs S1 vs H1 b1 rv q1 => ?_⟩
    obtain ⟨x, ds, rfl, hl, q1⟩ := q1
    obtain ⟨v, rfl, rx⟩ := rv.one'
    obtain ⟨a, ws, rfl, sq, w⟩ := rel_ls b1.rs rx hl
    refine ⟨a, ws, rfl, sq, kk _ S1 _ H1 b1 ?_ q1⟩
    intro M i H' S' b le
    unfold enumI
    refine ⟨fun ez => ?_, fun d ez => ?_⟩
    · obtain ⟨es, h1, h2⟩ := Option.map_eq_some_iff.mp ez
      obtain ⟨us, sq', r'⟩ := ls_at b le w h1
      exact ⟨us, sq', by rw [r'.length]; exact List.getElem?_eq_none_iff.mp (Option.map_eq_none_iff.mp h2)⟩
    · obtain ⟨es, h1, h2⟩ := Option.map_eq_some_iff.mp ez
      obtain ⟨y, h3, h4⟩ := Option.map_eq_some_iff.mp h2
      obtain ⟨us, sq', r'⟩ := ls_at b le w h1
      obtain ⟨u, hu, ru⟩ := r'.get h3
      refine ⟨⟨us, u, sq', hu⟩, fun z H2 yl => ?_⟩
      obtain ⟨T, z', rfl, hT, rfl, hz⟩ := yl
      have ez' : us[i]? = some z' := hz us sq'
      rw [hu] at ez'
      cases ez'
      subst h4
      obtain ⟨b2, r2⟩ := new_tup b.rs hT (.cons (d := D.int i) (.of (.int i)) (.cons ru .nil))
      exact ⟨b2, r2⟩
/-- zip(x, y) of lists -/
def zipI (x y : D) : ItD := fun i S => (lsOf S x).bind fun ds => (lsOf S y).map fun es => ds[i]?.bind fun d => es[i]?.map fun e => .tup [d, e]
def iZipD (t : TDA) : TDI := fun δ S R => t δ S fun xs S1 => ∃ x y ds es, xs = [x, y] ∧ ((lsOf S1 x = some ds ∧ lsOf S1 y = some es ∧ R (zipI x y) S1) ∨ (x = .tup ds ∧ y = .tup es ∧ R (zipI (.fl ds) (.fl es)) S1))
theorem RDs.two' {K : Kx} {H : Hp} {S : Sto} {vs : List V} {d e : D} (r : RDs K H S vs [d, e]) : ∃ v w, vs = [v, w] ∧ RD K H S v d ∧ RD K H S w e := by
  obtain ⟨v, ws, rfl, a, b⟩ := r.inv_cons
  obtain ⟨w, us, rfl, b, c⟩ := b.inv_cons
  rw [c.inv_nil]
  exact ⟨v, w, rfl, a, b⟩
theorem zip_step {K : Kx} {H : Hp} {S : Sto} {us ws : List V} {ds es : List D} {i : Nat} (r1 : RDs K H S us ds) (r2 : RDs K H S ws es) {d : D} (h : (ds[i]?.bind fun d => es[i]?.map fun e => D.tup [d, e]) = some d) : ∃ u w y z, us[i]? = some u ∧ ws[i]? = some w ∧ d = .tup [y, z] ∧ RD K H S u y ∧ RD K H S w z := by
  obtain ⟨y, h1, h2⟩ := Option.bind_eq_some_iff.mp h
  obtain ⟨z, h3, h4⟩ := Option.map_eq_some_iff.mp h2
  obtain ⟨u, hu, ru⟩ := r1.get h1
  obtain ⟨w, hw, rw'⟩ := r2.get h3
  exact ⟨u, w, y, z, hu, hw, h4.symm, ru, rw'⟩
theorem zip_end {K : Kx} {H : Hp} {S : Sto} {us ws : List V} {ds es : List D} {i : Nat} (r1 : RDs K H S us ds) (r2 : RDs K H S ws es) (h : (ds[i]?.bind fun d => es[i]?.map fun e => D.tup [d, e]) = none) : us.length ≤ i ∨ ws.length ≤ i := by
  rw [r1.length, r2.length]
  by_cases h1 : ds.length ≤ i
  · exact .inl h1
  · by_cases h2 : es.length ≤ i
    · exact .inr h2
    · rw [List.getElem?_eq_getElem (by omega), List.getElem?_eq_getElem (by omega)] at h
      cases h
theorem di_zip {e e2 : Expr} {ta : TDA} {p pos tpos : Pos} {elts : List Expr} {kk : Nat} (hg : Gl X "zip") (hm : X.mg "zip" = none) (ha : PA X [e, e2] (lA X.K ta))
    (hs : starEach [e, e2] X.env = (false, eval e X.env) :: starEach [e2] X.env := by rfl) (hpl : (backTo pos (starEach [e2] X.env)).any (·.1) = false := by rfl) :
    PI X (.Tuple elts kk tpos) (.Call (.Name "zip" p) [e, e2] [] pos) (lI X.K (iZipD ta)) :=
  PI.wk (RZ.pi_zipA hg hm ha hs hpl) fun σ H R ⟨N, δ, S, R', re, rs, q, kk⟩ => by
    refine ⟨N, δ, S, _, re, rs, q, fun xs S1 vs H1 b1 rv q1 => ?_⟩
    obtain ⟨x, y, ds, es, rfl, q1⟩ := q1
    obtain ⟨v, w, rfl, rx, ry⟩ := rv.two'
    rcases q1 with ⟨h1, h2, q1⟩ | ⟨rfl, rfl, q1⟩
    · obtain ⟨a, us, rfl, sq, wa⟩ := rel_ls b1.rs rx h1
      obtain ⟨b, ws, rfl, sq2, wb⟩ := rel_ls b1.rs ry h2
      refine ⟨a, b, us, ws, rfl, .inl ⟨sq, sq2, kk _ S1 _ H1 b1 ?_ q1⟩⟩
      intro M i H' S' bb le
      unfold zipI
      refine ⟨fun ez => ?_, fun d ez => ?_⟩
      · obtain ⟨ds', g1, ez⟩ := Option.bind_eq_some_iff.mp ez
        obtain ⟨es', g2, ez⟩ := Option.map_eq_some_iff.mp ez
        obtain ⟨u1, s1, r1⟩ := ls_at bb le wa g1
        obtain ⟨u2, s2, r2⟩ := ls_at bb le wb g2
        exact ⟨u1, u2, s1, s2, zip_end r1 r2 ez⟩
      · obtain ⟨ds', g1, ez⟩ := Option.bind_eq_some_iff.mp ez
        obtain ⟨es', g2, ez⟩ := Option.map_eq_some_iff.mp ez
        obtain ⟨u1, s1, r1⟩ := ls_at bb le wa g1
        obtain ⟨u2, s2, r2⟩ := ls_at bb le wb g2
        obtain ⟨y1, y2, z1, z2, h1, h2, rfl, k1, k2⟩ := zip_step r1 r2 ez
        refine ⟨⟨u1, u2, y1, y2, s1, s2, h1, h2⟩, fun z H2 yl => ?_⟩
        obtain ⟨T, c1, c2, rfl, hT, rfl, hz1, hz2⟩ := yl
        have e1 := hz1 u1 s1
        rw [h1] at e1
        cases e1
        have e2 := hz2 u2 s2
        rw [h2] at e2
        cases e2
        obtain ⟨b2, r2⟩ := new_tup bb.rs hT (.cons k1 (.cons k2 .nil))
        exact ⟨b2, r2⟩
    · obtain ⟨a, us, rfl, t1, wa⟩ := rx.tup_
      obtain ⟨b, ws, rfl, t2, wb⟩ := ry.tup_
      refine ⟨a, b, us, ws, rfl, .inr ⟨.of t1, .of t2, kk _ S1 _ H1 b1 ?_ q1⟩⟩
      intro M i H' S' bb le
      unfold zipI lsOf
      have r1 := wa.le le
      have r2 := wb.le le
      have s1 : SqT X.K H' a us := .of (le.t _ _ t1)
      have s2 : SqT X.K H' b ws := .of (le.t _ _ t2)
      refine ⟨fun ez => ?_, fun d ez => ?_⟩
      · exact ⟨us, ws, s1, s2, zip_end r1 r2 (Option.some.inj ez)⟩
      · obtain ⟨y1, y2, z1, z2, h1, h2, rfl, k1, k2⟩ := zip_step r1 r2 (Option.some.inj ez)
        refine ⟨⟨us, ws, y1, y2, s1, s2, h1, h2⟩, fun z H2 yl => ?_⟩
        obtain ⟨T, c1, c2, rfl, hT, rfl, hz1, hz2⟩ := yl
        have e1 := hz1 us s1
        rw [h1] at e1
        cases e1
        have e2 := hz2 ws s2
        rw [h2] at e2
        cases e2
        obtain ⟨b2, r2⟩ := new_tup bb.rs hT (.cons k1 (.cons k2 .nil))
        exact ⟨b2, r2⟩

/-! ### range with a step -/
def rangeCI (lo c : Int) (n : Nat) : ItD := fun i _ => some (if i < n then some (.int (lo + (i : Nat) * c)) else none)
def iRange3 (t : TDA) : TDI := fun δ S R => t δ S fun ds S1 => ∃ (i j c : Int) (n : Nat), ds = [.int i, .int j, .int c] ∧ RgC i j c n ∧ R (rangeCI i c n) S1
theorem RDs.three {K : Kx} {H : Hp} {S : Sto} {vs : List V} {u w z : V} (r : RDs K H S vs [.at u, .at w, .at z]) : vs = [u, w, z] := RDs.atoms (us := [u, w, z]) r
theorem di_range3 {tg a b c : Expr} {ta : TDA} {p pos : Pos} (hg : Gl X "range") (hm : X.mg "range" = none) (ha : PA X [a, b, c] (lA X.K ta))
    (hs : starEach [a, b, c] X.env = (false, eval a X.env) :: starEach [b, c] X.env := by rfl) (hpl : (backTo pos (starEach [b, c] X.env)).any (·.1) = false := by rfl) :
    PI X tg (.Call (.Name "range" p) [a, b, c] [] pos) (lI X.K (iRange3 ta)) :=
  PI.wk (pi_range3 hg hm ha hs hpl) fun σ H R ⟨N, δ, S, R', re, rs, q, kk⟩ => by
    refine ⟨N, δ, S, _, re, rs, q, fun ds S1 vs H1 b1 rv q1 => ?_⟩
    obtain ⟨i, j, c, n, rfl, hc, q1⟩ := q1
    refine ⟨i, j, c, n, rv.three, hc, kk _ S1 _ H1 b1 ?_ q1⟩
    intro M m H' S' bb le
    unfold rangeCI
    refine ⟨fun ez => ?_, fun d ez => ?_⟩
    · show n ≤ m
      by_cases h : m < n
      · rw [if_pos h] at ez; cases ez
      · omega
    · by_cases h : m < n
      · rw [if_pos h] at ez
        cases ez
        refine ⟨h, fun x H2 y => ?_⟩
        obtain ⟨rfl, rfl⟩ := y
        exact ⟨.refl bb.rs, .of _⟩
      · rw [if_neg h] at ez; cases ez

/-! ### x[::-1] -/
def revD (mu : Bool) (te : TDE) : TDE := fun δ S Q => te δ S fun x S1 => ∃ xs, lsOf S1 x = some xs ∧ (if mu = true then ∀ p, S1 p = none → Q (.ref p) (up S1 p (.lst xs.reverse)) else Q (.fl xs.reverse) S1)
theorem de_rev (mu : Bool) {e : Expr} {te : TDE} {k : Nat} {p1 p2 p3 pos : Pos} (he : PE X e (lE X.K te)) : PE X (.Subscript e (.Slice none none (some (.UnaryOp .USub (.Constant (.int 1) k p1) p2)) p3) pos) (lE X.K (revD mu te)) :=
  PE.wk (pe_revL he) fun σ H Q ⟨N, δ, S, Q', re, rs, q, kk⟩ => by
    refine ⟨N, δ, S, _, re, rs, q, fun x S1 v H1 b1 rx q1 => ?_⟩
    obtain ⟨xs, hl, q1⟩ := q1
    obtain ⟨a, vs, rfl, sq, r⟩ := ls_sq b1.rs rx hl
    refine ⟨a, vs, rfl, sq, fun p np => ?_⟩
    cases mu with
    | true =>
      rw [if_pos rfl] at q1
      exact kk _ _ _ _ (b1.trans (new_lst b1.rs np r.reverse)) (.of _) (q1 p (b1.rs.free np))
    | false =>
      rw [if_neg Bool.false_ne_true] at q1
      obtain ⟨b2, r2⟩ := new_fl b1.rs np r.reverse
      exact kk _ _ _ _ (b1.trans b2) r2 q1

/-! ### sorted -/
/-- of ints, or of fewer than 64 texts: a new list, nobody will change it -/
def srtD : RDL := fun ds S Q => ∃ x, ds = [x] ∧ ((∃ ns : List Int, lsOf S x = some (ns.map D.int) ∧ ∀ ns' : List Int, ns'.Perm ns → ns'.Pairwise (· ≤ ·) → Q (.fl (ns'.map D.int)) S) ∨
  ∃ ys : List Str, lsOf S x = some (ys.map D.str) ∧ ys.length < 64 ∧ ∀ zs : List Str, zs.Perm ys → sortedS zs = true → Q (.fl (zs.map D.str)) S)
theorem rds_ints {K : Kx} {H : Hp} {S : Sto} (ns : List Int) : RDs K H S (ns.map V.int) (ns.map D.int) := by
  have := RDs.of_atoms (K := K) (H := H) (S := S) (ns.map V.int)
  rw [List.map_map] at this
  exact this
theorem rds_strs {K : Kx} {H : Hp} {S : Sto} (ns : List Str) : RDs K H S (ns.map V.str) (ns.map D.str) := by
  have := RDs.of_atoms (K := K) (H := H) (S := S) (ns.map V.str)
  rw [List.map_map] at this
  exact this
theorem cd_sorted : CallR X (.builtin "sorted") (lL X.K srtD) := by
  intro pins s σ H vs us Q I r hh
  obtain ⟨N, ds, S, Q', rd, rs, ⟨x, rfl, q⟩, kk⟩ := hh
  obtain ⟨v, rfl, rx⟩ := rd.one'
  rcases q with ⟨ns, hl, q⟩ | ⟨ys, hl, h64, q⟩
  · obtain ⟨a, ws, rfl, sq, rw'⟩ := ls_sq rs rx hl
    have e : ws = ns.map V.int := RDs.atoms (us := ns.map V.int) (by rw [List.map_map]; exact rw')
    subst e
    refine cr_sortedI pins s σ H _ us Q I r ⟨a, ns, rfl, sq, fun ns' p h1 h2 np => ?_⟩
    obtain ⟨b1, r1⟩ := new_fl rs np (rds_ints ns')
    exact kk _ _ _ _ b1 r1 (q ns' h1 h2)
  · obtain ⟨a, ws, rfl, sq, rw'⟩ := ls_sq rs rx hl
    have e : ws = ys.map V.str := RDs.atoms (us := ys.map V.str) (by rw [List.map_map]; exact rw')
    subst e
    refine cr_sortedS pins s σ H _ us Q I r ⟨a, ys, rfl, sq, h64, fun zs p h1 h2 np => ?_⟩
    obtain ⟨b1, r1⟩ := new_fl rs np (rds_strs zs)
    exact kk _ _ _ _ b1 r1 (q zs h1 h2)

/-! ### sorted({i, j}) of ints -/
section
variable {prog : Program} {w : World} {A : Around} {E : Value → Shared → Prop} {s : Shared}
theorem sd_core {road : DisplayRoad} {b : Bool} {elts : List (Bool × Sem Value)} {ts : List (Sem Value)} {Q : Value → Shared → Prop} (hroad : road = .oneByOne) (hs : elts.findIdx? (·.1) = none) (hlen : elts.length ≤ 30) (hm : elts.map (·.2) = ts)
    (h : wpAny (model prog w) A (evalAll ts) (fun vs s' => PySem.W.KdsFill (model prog w) A E false s.heap.objs.size Q vs s') E { s with heap := s.heap.push { cls := .type "set", dict := none, data := .set #[] 0 (.fresh 0 0 (!w.params.followText "set-order")) } }) :
    wpAny (model prog w) A (setDisplay road b elts) Q E s := by
  have hn : (if elts.length > 30 then 0 else (elts.findIdx? (·.1)).getD elts.length) = elts.length := by rw [if_neg (by omega), hs]; rfl
  subst hroad
  unfold setDisplay
  try dsimp only
  rw [if_neg (by decide)]
  unfold newSet setsByText
  refine wpAny_bind (wpAny_bind (wpAny_bind (wpAny_askSetting (wpAny_pure ?_))))
  dsimp only
  simp only [newObj]
  refine wpAny_bind (wpAny_alloc (wpAny_pure ?_))
  dsimp only
  rw [hn, List.take_length, List.drop_length, hm]
  refine wpAny_bind (wpAny_holding ?_)
  refine wpAny_bind (wpAny_mono h (fun vs s' h' => ?_) fun _ _ x => x)
  refine wpAny_bind (wpAny_holding ?_)
  refine wpAny_bind (wpAny_mono (PySem.W.kds_for (fun x P s hx => ?_) vs s' h') (fun _ s1 h1 => ?_) fun _ _ x => x)
  · refine wpAny_bind (wpAny_mono hx (fun _ s2 h2 => ?_) fun _ _ x => x)
    first | exact wpAny_pure ⟨rfl, h2⟩ | exact wpAny_bind (wpAny_pure (wpAny_pure ⟨rfl, h2⟩))
  · have h2 : Q (.ref s.heap.objs.size) s1 := by simpa [PySem.W.KdsFill] using h1
    rw [if_neg (by decide)]
    refine wpAny_pure ?_
    rw [List.forIn_nil]
    exact wpAny_pure (wpAny_pure h2)
end
/-- a thing that the store does not speak of is changed -/
theorem RS.ext {K : Kx} {H : Hp} {S : Sto} {p : Addr} {F : Heap → Prop} {o : HO} (rs : RS K H S) (h : H p = some (.ext F)) (hn : S p = none) : RS K (upd H p o) S ∧ TupLe K H S K (upd H p o) S := by
  have le : TupLe K H S K (upd H p o) S := by
    refine ⟨fun a xs e => ?_, fun _ _ z => z, fun a xs e => ?_⟩
    · have ne : a ≠ p := fun z => by subst z; rw [h] at e; cases e
      rw [upd_ne ne]; exact e
    · rcases e with ⟨e, n, m⟩ | e
      · have ne : a ≠ p := fun z => by subst z; rcases e with e | ⟨u, e⟩ <;> (rw [h] at e; cases e)
        refine .inl ⟨?_, n, m⟩
        rcases e with e | ⟨u, e⟩
        · exact .inl (by rw [upd_ne ne]; exact e)
        · exact .inr ⟨u, by rw [upd_ne ne]; exact e⟩
      · exact .inr e
  refine ⟨⟨fun a u e => ?_, hid_upd rs.hid, rs.hidS⟩, le⟩
  have ne : a ≠ p := fun z => by subst z; rw [hn] at e; cases e
  exact (rs.ob a u e).le le (upd_ne ne)
/-- {a, b} of ints: a set that nobody else holds -/
def set0 (w : World) (p : Addr) : HO := SetO w p (fun _ => false) 0
def tSet2 (w : World) (ta tb : TE) : TE := fun σ H Q => ∀ p, H p = none → ta σ (upd H p (set0 w p)) fun x H1 => tb σ H1 fun y H2 => ∃ i j : Int, x = .int i ∧ y = .int j ∧ H2 p = some (set0 w p) ∧
  Q (.ref p) (upd H2 p (SetO w p (fun z => decide (z = i) || decide (z = j)) (if i = j then 1 else 2)))
theorem pe_set2 {a b : Expr} {ta tb : TE} {pos : Pos} (ha : PE X a ta) (hb : PE X b tb) (hcd : PySem.W.kdsCode X.K X.env.code = true) (hp : [a, b].all PySem.W.kdsPlain = true := by rfl) : PE X (.Set [a, b] 0 pos) (tSet2 X.w ta tb) := by
  refine ⟨fun pins s σ H Q I h => ?_⟩
  rw [arm_eval_Set]
  refine wpAny_bind (wpAny_standAt ?_)
  refine wpAny_bind (PySem.W.kds_main I.kIn hcd fun bb => ?_)
  rw [PySem.W.kds_star [a, b] hp, List.map_map]
  refine sd_core (ts := (evalEach [a, b] X.env).map fun t => do let v ← t; standAt pos; pure v) rfl ?_ ?_ ?_ ?_
  · refine List.findIdx?_eq_none_iff.mpr fun x hx => ?_
    obtain ⟨t, _, rfl⟩ := List.mem_map.mp hx
    rfl
  · rw [List.length_map, PySem.W.kds_len]; show 2 ≤ 30; decide
  · rw [List.map_map]; try rfl
  · refine PySem.W.kds_all pos [a, b] _ _ ?_
    have hP := I.hok.fresh (Nat.le_refl s.heap.objs.size)
    have hh := h s.heap.objs.size hP
    have R0 := setR_fresh (h := s.heap) X.w
    have I1 : Inv X pins σ (upd H s.heap.objs.size (set0 X.w s.heap.objs.size)) { s with heap := s.heap.push { cls := .type "set", dict := none, data := .set #[] 0 (.fresh 0 0 (!X.w.params.followText "set-order")) } } :=
      I.laid (t' := s.toks) (fun b u e => Heap.get?_push_of_some _ e) (Nat.le_refl _) (setO_new R0)
    revert hh I1
    generalize s.heap.objs.size = p
    intro hh I1
    refine thn (ha.run pins _ σ _ _ I1 hh) fun u s1 ⟨x, H1, J1, r1, q1⟩ => ?_
    refine thn (hb.run pins _ σ _ _ J1 q1) fun v s2 ⟨y, H2, J2, r2, q2⟩ => ?_
    obtain ⟨i, j, rfl, rfl, hp2, q⟩ := q2
    obtain ⟨t, rfl⟩ := r1
    obtain ⟨t', rfl⟩ := r2
    refine PySem.W.kds_fill_cons ?_
    have R2 := setO_get J2 hp2
    unfold setAdd
    refine wpAny_holding (wpAny_bind ((intKind X.prog X.w).pyHash (intKind_is X.prog X.w i t) ?_))
    refine setR_add_hashed (s := { s2 with toks := s2.toks + 1 }) R2 (by decide) fun h' sb R3 => ?_
    refine PySem.W.kds_fill_cons ?_
    refine wpAny_holding (wpAny_bind ((intKind X.prog X.w).pyHash (intKind_is X.prog X.w j t') ?_))
    refine setR_add_hashed (s := { s2 with heap := h', toks := s2.toks + 1 + 1 }) R3 (by simp [scanBound]) fun h2 sb2 R4 => ?_
    refine PySem.W.kds_fill_nil rfl ?_
    have R5 : SetR X.w h2 p (fun z => decide (z = i) || decide (z = j)) (if i = j then 1 else 2) := by
      have e1 : (if ((false || decide (j = i)) = true) then (if (false = true) then 0 else 0 + 1) else (if (false = true) then 0 else 0 + 1) + 1) = if i = j then 1 else 2 := by
        by_cases e : i = j
        · subst e; simp
        · have : ¬ j = i := fun z => e z.symm
          simp [e, this]
      rw [e1] at R4
      exact R4.congr fun z => by simp
    have he : ∃ u, h2.get? p = some u := by
      have ⟨o, _, _, _, ho, _⟩ := R5
      exact ⟨o, ho⟩
    exact ⟨.ref p, _, J2.write (e := p) (t' := s2.toks + 1 + 1) (by rw [hp2]; trivial) (.inl rfl) (fun b u hb hu => (sb2.2 b hb).trans ((sb.2 b hb).trans hu)) he (setO_new R5), rfl, q⟩
/-- sorted({a, b}) of ints -/
def srt2 (i j : Int) : List Int := if i < j then [i, j] else if j < i then [j, i] else [i]
def dSort2 (ta tb : TDE) : TDE := fun δ S Q => ta δ S fun x S1 => tb δ S1 fun y S2 => ∃ i j : Int, x = .int i ∧ y = .int j ∧ Q (.fl ((srt2 i j).map D.int)) S2
theorem srt2_of {i j : Int} {ns : List Int} (hs : ns.Pairwise (· < ·)) (hm : ∀ k : Int, k ∈ ns ↔ (decide (k = i) || decide (k = j)) = true) : ns = srt2 i j := by
  have hm' : ∀ k : Int, k ∈ ns ↔ k = i ∨ k = j := fun k => by rw [hm]; simp
  have key : ∀ ms : List Int, ms.Pairwise (· < ·) → (∀ k : Int, k ∈ ms ↔ k = i ∨ k = j) → ns = ms := fun ms h1 h2 => by
    have p : ns.Perm ms := (List.perm_ext_iff_of_nodup (hs.imp fun h => Int.ne_of_lt h) (h1.imp fun h => Int.ne_of_lt h)).mpr fun k => by rw [hm', h2]
    exact p.eq_of_pairwise (fun a b _ _ h h' => absurd h' (Int.lt_asymm h)) hs h1
  unfold srt2
  split
  · rename_i h
    exact key _ (by simp [h]) fun k => by simp
  · split
    · rename_i h h'
      exact key _ (by simp [h']) fun k => by simp; exact Or.comm
    · rename_i h h'
      have : i = j := by omega
      subst this
      exact key _ (by simp) fun k => by simp
theorem de_sort2 {a b : Expr} {ta tb : TDE} {p pos p2 : Pos} (hc : X.calm = true) (hg : Gl X "sorted") (hm : X.mg "sorted" = none) (hcd : PySem.W.kdsCode X.K X.env.code = true) (ha : PE X a (lE X.K ta)) (hb : PE X b (lE X.K tb)) (hp : [a, b].all PySem.W.kdsPlain = true := by rfl)
    (he : starEach [.Set [a, b] 0 p2] X.env = (false, eval (.Set [a, b] 0 p2) X.env) :: starEach [] X.env := by rfl) (hpl : (backTo pos (starEach [] X.env)).any (·.1) = false := by rfl) : PE X (.Call (.Name "sorted" p) [.Set [a, b] 0 p2] [] pos) (lE X.K (dSort2 ta tb)) :=
  PE.wk (pe_callB (cr_sortedSet hc) hg hm (by decide +kernel) (pa_cons (pe_set2 ha hb hcd hp) pa_nil he) (by decide) (by decide) he hpl) fun σ H Q ⟨N, δ, S, Q', re, rs, q, kk⟩ => by
    intro p np
    obtain ⟨rs1, f1, le1⟩ := rs.laid (o := set0 X.w p) np
    have b0 : Bh ⟨X.K, N⟩ H S (upd H p (set0 X.w p)) S := ⟨f1, rs1⟩
    refine ⟨N, δ, S, _, re.le le1, rs1, q, fun x S1 v H1 b1 rx q1 => ?_⟩
    refine ⟨N, δ, S1, _, (re.le le1).le (rs1.le b1.fr), b1.rs, q1, fun y S2 u H2 b2 ry q2 => ?_⟩
    obtain ⟨i, j, rfl, rfl, q2⟩ := q2
    have b12 := b1.trans b2
    obtain ⟨hp2, sp2⟩ := b12.fr p _ upd_same (rs.free np)
    refine ⟨i, j, rx.at_, ry.at_, hp2, p, _, _, rfl, upd_same, by split <;> decide, fun ns q' hs hmm _ nq => ?_⟩
    obtain ⟨rs3, le3⟩ := b2.rs.ext (o := SetO X.w p (fun z => decide (z = i) || decide (z = j)) (if i = j then 1 else 2)) hp2 sp2
    obtain ⟨b4, r4⟩ := new_fl rs3 nq (rds_ints ns)
    have e := srt2_of hs hmm
    subst e
    refine kk _ S2 _ _ ⟨fun a o e n => ?_, b4.rs⟩ r4 q2
    obtain ⟨z1, z2⟩ := (b0.trans b12).fr a o e n
    refine ⟨?_, z2⟩
    have ne : a ≠ p := ne_of_none e np
    have e3 : upd H2 p (SetO X.w p (fun z => decide (z = i) || decide (z = j)) (if i = j then 1 else 2)) a = some o := by rw [upd_ne ne]; exact z1
    rw [upd_ne (ne_of_none e3 nq)]
    exact e3
end
end DL

/-! Data layer, eighth part: the law's end. -/
namespace DL
open PySem L2 PyProof.Rows PySem.W
theorem callG {P : Program} {w : World} {K : PySem.W.Frag} {mg mb : Str → Option Value} {CX : CXT} {k : Nat} {fa a : Addr} {fd : FuncData} {x : Str} {sp : Sp} {t1 : Shared} {vs : List Value} {ns : List Int}
    (kin : K.In t1.heap) (gns : t1.heap.Ns mainGlobals mg) (hb : t1.heap.Ns builtinsNs mb) (bsn : ∀ x : Str, x ≠ "__name__" → mb x = bootBuiltins x) (nolim : t1.heap.NoLimit) (hg : t1.gens = #[])
    (ha : t1.heap.get? a = some { cls := .type "list", data := .seq vs.toArray }) (hi : IntsAre vs ns) (hl : ns.length ≤ sizeLine) (hr : Room k callerA)
    (F : ∀ base : Heap, K.In base → base.Ns mainGlobals mg → FnG P w K mg base CX k fa fd [x] sp) (bnd : ∀ (s : Shared) (u : Value), BindsTo s fd ⟨[u], []⟩ [(x, u)])
    (hpr : ∀ H : Hp, Only H → SqL K H a (ns.map V.int) → sp [.ref a] H (fun v _ => v = .bl true) fun _ _ _ => False)
    (hxx : ∀ H e s', CX [] H t1 (fun _ _ _ => False) e s' → False) :
    codeAny (model P w) callerA (.call (.ref fa) ⟨[.ref a], []⟩) (fun r s' => r = .ok (.ret (.bool true)) ∧ OldK t1.heap s'.heap ∧ s'.os = t1.os ∧ AllBare s'.gens) t1 := by
  have vrel := vals_ints hi
  have nlen := hi.length
  have main : ∀ H : Hp, Only H → SqL K H a (ns.map V.int) → HOk P w H t1.heap → (∀ b, H b ≠ none → b = a) → (H a ≠ none → K.lookup a = none) →
      codeAny (model P w) callerA (.call (.ref fa) ⟨[.ref a], []⟩) (fun r s' => r = .ok (.ret (.bool true)) ∧ OldK t1.heap s'.heap ∧ s'.os = t1.os ∧ AllBare s'.gens) t1 := by
    intro H onl scr oka alone unk
    have stays : ∀ {b : Addr} {o : Obj}, t1.heap.get? b = some o → H b = none → (hidT t1.heap H).get? b = some o := fun e n => hidT_get e n
    have nodic : ∀ {b : Addr} {o : Obj} {es : Array DictEntry} {ep : Nat}, t1.heap.get? b = some o → o.data = .dict es ep → H b = none := fun {b o es ep} e d => by
      cases q : H b with
      | none => rfl
      | some u =>
        have e' : b = a := alone b (by rw [q]; simp)
        subst e'
        rw [ha] at e; cases e
        cases (show Data.seq vs.toArray _ = Data.dict es ep from d)
    have nsb : ∀ {b : Addr} {m : Str → Option Value}, t1.heap.Ns b m → (hidT t1.heap H).Ns b m := fun {b m} ⟨o, es, ep, e, d, r⟩ => ⟨o, es, ep, stays e (nodic e d), d, r⟩
    have kinb : K.In (hidT t1.heap H) := fun b o e => stays (kin b o e) (by
      cases q : H b with
      | none => rfl
      | some u =>
        have e' : b = a := alone b (by rw [q]; simp)
        subst e'
        rw [unk (by rw [q]; simp)] at e; cases e)
    have mdl : Mod K mg (hidT t1.heap H) := ⟨kinb, nsb gns, ⟨mb, nsb hb, bsn⟩, let ⟨mc, h1, h2⟩ := nolim; ⟨mc, nsb h1, h2⟩⟩
    have env0 : Env0 P w K mg (hidT t1.heap H) callerA [] t1 H := ⟨rfl, mdl, fun b o e => of_hidT e, Nat.le_of_eq (hidT_size _ _), trivial, fun b hb => (nomatch hb), oka, .of_eq hg⟩
    refine codeAny_mono ((F _ kinb (nsb gns)).run callerA [] t1 H ⟨[.ref a], []⟩ [.ref a] [.ref a] _ _ hr rfl env0 (bnd t1 (.ref a)) (.cons rfl .nil) (hpr H onl scr)) fun r s' h => ?_
    cases r with
    | error e => exact (hxx H e s' h).elim
    | ok fl =>
      cases fl with
      | next => exact False.elim h
      | brk => exact False.elim h
      | cont => exact False.elim h
      | ret u =>
        obtain ⟨v, H', os, bare, un, okb, r', q⟩ := h
        have q' : v = .bl true := q
        subst q'
        obtain rfl : u = Value.bool true := r'
        refine ⟨rfl, OldK.of_keep fun b o e => ?_, os, bare⟩
        cases q : H b with
        | none => exact un.keep b o e q (by intro z; cases z) (by intro z; cases z)
        | some u =>
          rcases onl b with z | ⟨ob, xs, z⟩
          · rw [q] at z; cases z
          · have z2 := un.frzs b ob _ z
            obtain ⟨e1, _⟩ := oka b _ z
            obtain ⟨e2, _⟩ := okb b _ z2
            rw [e] at e1; cases e1
            exact e2
  cases hk : K.lookup a with
  | some o =>
    have e := kin a o hk
    rw [ha] at e
    cases e
    exact main (fun _ => none) (fun _ => .inl rfl) (.inr ⟨_, vs.toArray, _, hk, rfl, rfl, rfl, by rw [List.size_toArray, nlen]; exact hl, by simpa using vrel⟩) (fun b u z => by cases (show (none : Option HO) = some u from z)) (fun b z => absurd rfl z) fun z => absurd rfl z
  | none =>
    refine main (fun b => if b = a then some (.frz { cls := .type "list", data := .seq vs.toArray } (.lst (ns.map V.int))) else none) (fun b => ?_) (.inl (.inr ⟨{ cls := .type "list", data := .seq vs.toArray }, if_pos rfl⟩)) (fun b u z => ?_) (fun b z => ?_) fun _ => hk
    · by_cases hb : b = a
      · exact .inr ⟨_, _, if_pos hb⟩
      · exact .inl (if_neg hb)
    · by_cases hb : b = a
      · have z' := (if_pos hb).symm.trans z
        cases z'
        subst hb
        exact ⟨ha, by rw [List.length_map]; exact hl, vs, _, vrel, ha⟩
      · cases (if_neg hb).symm.trans z
    · by_cases hb : b = a
      · exact hb
      · exact absurd (if_neg hb) z
/-- the goal that the head leaves, from the law's promise over data -/
theorem walkD {l : PySem.W.OpenLaw} {n k : Nat} {q : Program} {loose : List Str} {XP : (Str → Option Value) → Heap → Prop} {YP : World → Heap → Prop} {d : DefRec} {K : Params → PySem.W.Frag} {sp : SpD} {x : Str}
    (hn : l.most = some n) (hn2 : n ≤ sizeLine) (hdf : d.params.defaults = []) (hr : Room k callerA)
    (inK : ∀ (w : World) (h : Heap), YP w h → (K w.params).In h)
    (F : ∀ (w : World) (mg : Str → Option Value) (fa : Addr) (h : Heap), (K w.params).In h → h.Ns mainGlobals mg → mg d.name = some (.ref fa) →
      ∃ fd : FuncData, (∀ (s : Shared) (u : Value), BindsTo s fd ⟨[u], []⟩ [(x, u)]) ∧
        ∀ base : Heap, (K w.params).In base → base.Ns mainGlobals mg → FnD l.prog w (K w.params) mg base CX0 k fa fd [x] sp)
    (hpr : ∀ ns : List Int, ns.length ≤ n → (∀ z ∈ ns, Builtin.Int.intBits z ≤ 1048576) → sp [.fl (ns.map D.int)] (fun _ => none) (fun d _ => d = .bl true) X0) :
    PySem.W.WalkO q loose XP YP l.row.toRowW d [] (fun f vs => PySem.call f vs) := by
  refine Att.attach_callB hn hdf fun w s₀ t1 mg mb fa o pm cd doc a vs ns G Y ho hd hcd hmg hobj hints hlen hbits hg => ?_
  have kin := inK w _ Y
  obtain ⟨fd, hb, prom⟩ := F w mg fa _ kin G.T.g hmg
  refine callG kin G.T.g G.T.b G.T.builtins G.T.nolimit hg hobj hints (Nat.le_trans hlen hn2) hr prom hb (fun H onl scr => ?_) fun H e s' z => z
  refine ⟨fun _ => False, [.fl (ns.map D.int)], fun _ => none, fun d _ => d = .bl true, X0, ?_, ⟨fun a o e => (nomatch e), fun a h => h.elim, fun _ _ => rfl⟩, hpr ns hlen hbits, ?_, fun _ _ _ _ _ _ _ z => z⟩
  · refine .cons (.of_fl (vs := ns.map V.int) ?_ (rds_ints ns)) .nil
    rcases scr with h | h
    · exact .inl ⟨h, rfl, fun z => z⟩
    · exact .inr h
  · rintro d S' v H' b r rfl
    exact r.at_
end DL

/-! Data layer, ninth part: what a def's caller knows; keywords. -/
namespace DL
open PySem L2 PyProof.Rows
/-- positional ones, then keywords by their places -/
def kwg {α : Type} (n : Nat) (p : List Nat) (us ws : List α) : List α := if us.length = n ∧ ws.length = p.length then us ++ p.filterMap (ws[·]?) else []
theorem vals_pick {zs : List V} {ws : List Value} (r : Vals zs ws) : ∀ p : List Nat, Vals (p.filterMap (zs[·]?)) (p.filterMap (ws[·]?))
  | [] => .nil
  | i :: p => by
    have ih := vals_pick r p
    cases e : zs[i]? with
    | none =>
      have e2 : ws[i]? = none := by rw [List.getElem?_eq_none_iff] at e ⊢; rw [← r.length]; exact e
      rw [List.filterMap_cons_none e, List.filterMap_cons_none e2]
      exact ih
    | some z =>
      obtain ⟨w, e2, r2⟩ := r.get e
      rw [List.filterMap_cons_some e, List.filterMap_cons_some e2]
      exact .cons r2 ih
theorem rds_pick {K : Kx} {H : Hp} {S : Sto} {zs : List V} {ws : List D} (r : RDs K H S zs ws) : ∀ p : List Nat, RDs K H S (p.filterMap (zs[·]?)) (p.filterMap (ws[·]?))
  | [] => .nil
  | i :: p => by
    have ih := rds_pick r p
    cases e : ws[i]? with
    | none =>
      have e2 : zs[i]? = none := by rw [List.getElem?_eq_none_iff] at e ⊢; rw [r.length]; exact e
      rw [List.filterMap_cons_none e, List.filterMap_cons_none e2]
      exact ih
    | some z =>
      obtain ⟨w, e2, r2⟩ := r.get e
      rw [List.filterMap_cons_some e, List.filterMap_cons_some e2]
      exact .cons r2 ih
theorem putK_kwg (n : Nat) (p : List Nat) : PutK (kwg n p) (kwg n p) := ⟨fun {K H S vs zs ds es} r s => by
  unfold kwg
  rw [r.length, s.length]
  split
  · exact r.append (rds_pick s p)
  · exact .nil⟩
theorem kb_of {K : PySem.W.Frag} {fd : FuncData} {ps ks : List Str} {n : Nat} {p : List Nat} (hp : 0 < ps.length) (h : ∀ us ws : List Value, us.length = n → ws.length = p.length → bindArgs fd ⟨us, ks.zip ws⟩ = pure (ps.zip (us ++ p.filterMap (ws[·]?)))) : KBinds K fd ps ks (kwg n p) (kwg n p) := by
  refine ⟨fun s us ws _ hl => ?_, fun {vs us zs ws} r s => ?_⟩
  · unfold kwg at hl ⊢
    split at hl
    · rename_i hc
      rw [if_pos hc]
      exact .of_eq (h us ws hc.1 hc.2)
    · simp at hl; omega
  · unfold kwg
    rw [← r.length, ← s.length]
    split
    · exact r.append (vals_pick s p)
    · exact .nil
/-- a def of the module, as its callers know it -/
structure Cal (P : Program) (w : World) (K : PySem.W.Frag) (mg : Str → Option Value) (base : Heap) (k : Nat) (x : Str) (st : Stmt) (ps : List Str) (sp : SpD) : Prop where
  ex : ∃ f fd, FnD P w K mg base CX0 k f fd ps sp ∧ Binds K fd ps [] ∧ mg x = some (.ref f) ∧ Fun K x x st f fd
section
variable {X : Cx} {k k' : Nat} {x : Str} {st : Stmt} {ps ks : List Str} {sp : SpD} {p pos : Pos} {e : Expr} {es : List Expr} {t tk : TDA} {kws : List Keyword}
theorem de_c (C : Cal X.prog X.w X.K X.mg X.base k x st ps sp) (hr : Rg k' X.A) (ha : PA X (e :: es) (lA X.K t)) (hk : k ≤ k' := by decide) (hg : Gl X x := by rfl) (hdb : (x == ("__debug__" : Str)) = false := by decide)
    (he : starEach (e :: es) X.env = (false, eval e X.env) :: starEach es X.env := by rfl) (hpl : (backTo pos (starEach es X.env)).any (·.1) = false := by rfl) : PE X (.Call (.Name x p) (e :: es) [] pos) (lE X.K (dCall sp [] X0 t)) := by
  obtain ⟨f, fd, F, b, m, fn⟩ := C.ex
  exact de_call F (hr.mono hk) b hg m fn.kp ha hdb he hpl
theorem de_c0 (C : Cal X.prog X.w X.K X.mg X.base k x st ps sp) (hr : Rg k' X.A) (hk : k ≤ k' := by decide) (hg : Gl X x := by rfl) (hdb : (x == ("__debug__" : Str)) = false := by decide) : PE X (.Call (.Name x p) [] [] pos) (lE X.K (dCall sp [] X0 dNil)) := by
  obtain ⟨f, fd, F, b, m, fn⟩ := C.ex
  exact de_call0 F (hr.mono hk) b hg m fn.kp hdb
/-- how the def takes n positional arguments and those keywords -/
def KwOk (st : Stmt) (x : Str) (ps ks : List Str) (n : Nat) (pp : List Nat) : Prop := ∀ (kV doc pm : Value) (an : Option Addr) (cdv ct : Value) (us ws : List Value), us.length = n → ws.length = pp.length → bindArgs (PySem.W.fnOf x x (defArgs st) (defBody st) (defScope st) .none kV doc pm an cdv ct) ⟨us, ks.zip ws⟩ = pure (ps.zip (us ++ pp.filterMap (ws[·]?)))
theorem de_ck0 {n : Nat} {pp : List Nat} (C : Cal X.prog X.w X.K X.mg X.base k x st ps sp) (hr : Rg k' X.A) (kw : KwOk st x ps ks n pp) (hkw : PK X kws (lA X.K tk)) (hp : 0 < ps.length := by decide) (hk : k ≤ k' := by decide) (hg : Gl X x := by rfl) (hall : (backToKw pos (keywordEach kws X.env)).all (·.1.isSome) = true := by rfl) (hks : (backToKw pos (keywordEach kws X.env)).filterMap (·.1) = ks := by rfl) (hdb : (x == ("__debug__" : Str)) = false := by decide)
    (hpl : ((backTo pos (starEach [] X.env)).any (·.1) || (backToKw pos (keywordEach kws X.env)).any (·.1.isNone)) = false := by rfl) : PE X (.Call (.Name x p) [] kws pos) (lE X.K (dCallK sp (kwg n pp) X0 dNil tk)) := by
  obtain ⟨f, fd, F, b, m, fn⟩ := C.ex
  obtain ⟨oc, od, kV, doc, pm, an, cdv, ct, osl, rfl, lk, hcd⟩ := fn.ex
  exact de_callK0 F (hr.mono hk) (kb_of hp fun us ws h1 h2 => kw kV doc pm an cdv ct us ws h1 h2) (putK_kwg n pp) hg m fn.kp hkw hall hks hdb hpl
theorem de_ck {n : Nat} {pp : List Nat} (C : Cal X.prog X.w X.K X.mg X.base k x st ps sp) (hr : Rg k' X.A) (kw : KwOk st x ps ks n pp) (ha : PA X (e :: es) (lA X.K t)) (hkw : PK X kws (lA X.K tk)) (hp : 0 < ps.length := by decide) (hk : k ≤ k' := by decide) (hg : Gl X x := by rfl) (hall : (backToKw pos (keywordEach kws X.env)).all (·.1.isSome) = true := by rfl) (hks : (backToKw pos (keywordEach kws X.env)).filterMap (·.1) = ks := by rfl) (hdb : (x == ("__debug__" : Str)) = false := by decide)
    (he : starEach (e :: es) X.env = (false, eval e X.env) :: starEach es X.env := by rfl) (hpl : ((backTo pos (starEach (e :: es) X.env)).any (·.1) || (backToKw pos (keywordEach kws X.env)).any (·.1.isNone)) = false := by rfl) : PE X (.Call (.Name x p) (e :: es) kws pos) (lE X.K (dCallK sp (kwg n pp) X0 t tk)) := by
  obtain ⟨f, fd, F, b, m, fn⟩ := C.ex
  obtain ⟨oc, od, kV, doc, pm, an, cdv, ct, osl, rfl, lk, hcd⟩ := fn.ex
  exact de_callK F (hr.mono hk) (kb_of hp fun us ws h1 h2 => kw kV doc pm an cdv ct us ws h1 h2) (putK_kwg n pp) hg m fn.kp ha hkw hall hks hdb he hpl
end
/-- a name of the module that holds a written tuple of data -/
def GT (K : PySem.W.Frag) (mg : Str → Option Value) (x : Str) (ds : List D) : Prop := ∃ a vs, mg x = some (.ref a) ∧ Wt K a vs ∧ ∀ N H S, RDs ⟨K, N⟩ H S vs ds
theorem de_gt {X : Cx} {x : Str} {ds : List D} {pos : Pos} (g : GT X.K X.mg x ds) (hg : Gl X x := by rfl) (hd : (x == ("__debug__" : Str)) = false := by decide) : PE X (.Name x pos) (lE X.K (dC (.wt ds))) := by
  obtain ⟨a, vs, m, t, r⟩ := g
  exact de_glob (v := .ref a) hg m rfl (fun N H S => .of_wt t (r N H S)) hd
end DL

/-! Data layer, tenth part: small data; words for readings. -/
namespace DL
open PySem L2 PyProof.Rows

/-! ### small data: depth, weight, short ints -/
/-- data of that depth and weight, to be shown and compared -/
structure Sm (k w : Nat) (d : D) : Prop where
  p : pur d = true
  l : (toPy d).canLay0 = true
  s : (toPy d).showable = true
  i : (toPy d).intsShort 13 = true
  k : (toPy d).depth ≤ k
  w : (toPy d).weight ≤ w
  h : (toPy d).hasDict = false
structure Sms (k n w : Nat) (ds : List D) : Prop where
  p : purs ds = true
  l : PyData.canLayAll0 (toPys ds) = true
  s : PyData.showableAll (toPys ds) = true
  i : PyData.intsShortAll 13 (toPys ds) = true
  k : PyData.depthAll (toPys ds) ≤ k
  w : PyData.weightAll (toPys ds) ≤ n * (w + 1)
  h : PyData.hasDictAll (toPys ds) = false
theorem Sm.mono {k w k' w' : Nat} {d : D} (h : Sm k w d) (a : k ≤ k') (b : w ≤ w') : Sm k' w' d := ⟨h.p, h.l, h.s, h.i, Nat.le_trans h.k a, Nat.le_trans h.w b, h.h⟩
theorem Sms.of {k w : Nat} : ∀ {ds : List D}, (∀ d ∈ ds, Sm k w d) → Sms k ds.length w ds
  | [], _ => ⟨by unfold purs; rfl, by simp [toPys, PyData.canLayAll0], by simp [toPys, PyData.showableAll], by simp [toPys, PyData.intsShortAll], by simp [toPys, PyData.depthAll], by simp [toPys, PyData.weightAll], by simp [toPys, PyData.hasDictAll]⟩
  | d :: ds, h => by
    have a := h d List.mem_cons_self
    have b := Sms.of (ds := ds) fun x hx => h x (List.mem_cons_of_mem _ hx)
    refine ⟨by unfold purs; rw [a.p, b.p]; rfl, ?_, ?_, ?_, ?_, ?_, ?_⟩
    · unfold toPys; simp [PyData.canLayAll0, a.l, b.l]
    · unfold toPys; simp [PyData.showableAll, a.s, b.s]
    · unfold toPys; simp [PyData.intsShortAll, a.i, b.i]
    · unfold toPys; simp only [PyData.depthAll]; have := a.k; have := b.k; omega
    · unfold toPys; simp only [PyData.weightAll, List.length_cons]; have := a.w; have := b.w; rw [Nat.add_mul]; omega
    · unfold toPys; simp [PyData.hasDictAll, a.h, b.h]
theorem Sm.tup {k w n : Nat} {ds : List D} (h : ∀ d ∈ ds, Sm k w d) (hn : ds.length ≤ n) : Sm (k + 1) (n * (w + 1)) (.tup ds) := by
  have b := Sms.of h
  have hw : ds.length * (w + 1) ≤ n * (w + 1) := Nat.mul_le_mul_right _ hn
  refine ⟨by unfold pur; exact b.p, ?_, ?_, ?_, ?_, ?_, ?_⟩ <;> unfold toPy
  · simp only [PyData.canLay0]; exact b.l
  · simp only [PyData.showable]; exact b.s
  · simp only [PyData.intsShort]; exact b.i
  · simp only [PyData.depth]; have := b.k; omega
  · simp only [PyData.weight]; have := b.w; omega
  · simp only [PyData.hasDict]; exact b.h
theorem Sm.fl {k w n : Nat} {ds : List D} (h : ∀ d ∈ ds, Sm k w d) (hn : ds.length ≤ n) : Sm (k + 1) (n * (w + 1)) (.fl ds) := by
  have b := Sms.of h
  have hw : ds.length * (w + 1) ≤ n * (w + 1) := Nat.mul_le_mul_right _ hn
  refine ⟨by unfold pur; exact b.p, ?_, ?_, ?_, ?_, ?_, ?_⟩ <;> unfold toPy
  · simp only [PyData.canLay0]; exact b.l
  · simp only [PyData.showable]; exact b.s
  · simp only [PyData.intsShort]; exact b.i
  · simp only [PyData.depth]; have := b.k; omega
  · simp only [PyData.weight]; have := b.w; omega
  · simp only [PyData.hasDict]; exact b.h
theorem Sm.wt {k w n : Nat} {ds : List D} (h : ∀ d ∈ ds, Sm k w d) (hn : ds.length ≤ n) : Sm (k + 1) (n * (w + 1)) (.wt ds) := by
  have b := Sms.of h
  have hw : ds.length * (w + 1) ≤ n * (w + 1) := Nat.mul_le_mul_right _ hn
  refine ⟨by unfold pur; exact b.p, ?_, ?_, ?_, ?_, ?_, ?_⟩ <;> unfold toPy
  · simp only [PyData.canLay0]; exact b.l
  · simp only [PyData.showable]; exact b.s
  · simp only [PyData.intsShort]; exact b.i
  · simp only [PyData.depth]; have := b.k; omega
  · simp only [PyData.weight]; have := b.w; omega
  · simp only [PyData.hasDict]; exact b.h
theorem Sm.non {k w : Nat} : Sm k w .non := ⟨by unfold pur; rfl, by unfold toPy; rfl, by unfold toPy; rfl, by unfold toPy; rfl, by unfold toPy; exact Nat.zero_le _, by unfold toPy; exact Nat.zero_le _, by unfold toPy; rfl⟩
theorem Sm.bl {k w : Nat} {b : Bool} : Sm k w (.bl b) := ⟨by unfold pur; rfl, by unfold toPy; rfl, by unfold toPy; rfl, by unfold toPy; rfl, by unfold toPy; exact Nat.zero_le _, by unfold toPy; exact Nat.zero_le _, by unfold toPy; rfl⟩
theorem log2_12 {i : Int} (h : i.natAbs < 10 ^ 12) : i.natAbs.log2 < 40 := by
  by_cases z : i.natAbs = 0
  · rw [z]; decide
  · rw [Nat.log2_lt z]; omega
theorem Sm.int {k w : Nat} {i : Int} (h : i.natAbs < 10 ^ 12) (hw : 40 ≤ w) : Sm k w (.int i) := by
  have h1 := log2_12 h
  refine ⟨by unfold pur; rfl, by unfold toPy; rfl, ?_, ?_, by unfold toPy; exact Nat.zero_le _, ?_, by unfold toPy; rfl⟩ <;> unfold toPy
  · simp only [PyData.showable]; exact decide_eq_true (by omega)
  · simp only [PyData.intsShort]; exact decide_eq_true (PyData.shown_int_le h)
  · simp only [PyData.weight]
    split
    · exact Nat.zero_le _
    · omega
theorem Sm.str {k w : Nat} {x : Str} (h : PyData.strOk x = true) (hl : x.length ≤ w) : Sm k w (.str x) := by
  refine ⟨by unfold pur; rfl, ?_, by unfold toPy; rfl, by unfold toPy; rfl, by unfold toPy; exact Nat.zero_le _, ?_, by unfold toPy; rfl⟩ <;> unfold toPy
  · exact h
  · exact hl
theorem Sm.shaped {k w : Nat} {d : D} (h : Sm k w d) (hk : k ≤ 64 := by decide) : cmpOk d = true := by
  unfold cmpOk
  show (pur d && ((toPy d).canLay0 && decide ((toPy d).depth ≤ 64))) = true
  rw [h.p, h.l, decide_eq_true (Nat.le_trans h.k hk)]
  rfl
theorem Sm.shows {k w : Nat} {d : D} (h : Sm k w d) (hk : k ≤ 64 := by decide) (hw : w ≤ 2 ^ 20 := by decide) : shOk (toPy d) := by
  refine ⟨h.s, Nat.le_trans h.k hk, PyData.shown_fits_of_layable0 (B := 13) (by decide) (by decide) ?_ h.i, h.h⟩
  show ((toPy d).canLay0 && decide ((toPy d).depth ≤ 64) && decide ((toPy d).weight ≤ 2 ^ 20)) = true
  rw [h.l, decide_eq_true (Nat.le_trans h.k hk), decide_eq_true (Nat.le_trans h.w hw)]
  rfl
/-- data that may not change is itself, whatever the store -/
theorem rsv_pur {S : Sto} {d : D} (h : pur d = true) : rsv S d = d := by
  unfold rsv
  split
  · unfold pur at h; cases h
  · rfl

/-! ### words for readings -/
theorem at_n {α : Type} {xs : List α} {i : Nat} {x : α} (h : xs[i]? = some x) : atI xs (i : Int) = some x := by
  obtain ⟨hi, _⟩ := List.getElem?_eq_some_iff.mp h
  unfold atI ixN
  rw [if_pos (by omega), if_pos (by omega)]
  simpa using h
theorem at_0 {α : Type} {x : α} {xs : List α} : atI (x :: xs) 0 = some x := at_n (i := 0) rfl
theorem at_z {α : Type} {xs : List α} {x : α} : atI (xs ++ [x]) (-1) = some x := by
  have hl : (xs ++ [x]).length = xs.length + 1 := by simp
  unfold atI ixN
  rw [hl, if_neg (by omega), if_pos (by omega)]
  have e : ((-1 : Int) + ((xs.length + 1 : Nat) : Int)).toNat = xs.length := by omega
  rw [e, Option.bind_some]
  simp
theorem ix_sq {x y : D} {S : Sto} {Q : KD} {xs : List D} {i : Int} {d : D} (hy : y = .int i) (h : sqOf S x = some xs) (e : atI xs i = some d) (q : Q d S) : ixD x y S Q := .inl ⟨xs, i, d, hy, h, e, q⟩
theorem ix_tx {z : Str} {i : Int} {c : Nat} {S : Sto} {Q : KD} (hz : z.length ≤ sizeLine) (e : atI z.cps.toList i = some c) (q : Q (.str ⟨#[c]⟩) S) : ixD (.str z) (.int i) S Q := .inr (.inl ⟨z, i, c, rfl, rfl, hz, e, q⟩)
theorem ix_at {x y : D} {S : Sto} {Q : KD} {d : D} (h : atD S y x = some (some d)) (q : Q d S) : ixD x y S Q := .inr (.inr ⟨d, h, q⟩)
/-- a test that stands -/
theorem b_of {c : Bool} {S : Sto} {Q : Bool → Sto → Prop} (q : Q c S) : ∃ d, D.bl c = .bl d ∧ Q d S := ⟨c, rfl, q⟩
theorem eq_of {neg : Bool} {x y : D} {S : Sto} {Q : KD} {k w k' w' : Nat} (hx : Sm k w x) (hy : Sm k' w' y) (hk : k ≤ 64) (hk' : k' ≤ 64) (q : Q (.bl (xor neg (PyData.eqv (toPy x) (toPy y)))) S) (hn : ∀ u, x ≠ .at u) : eqD neg x y S Q := by
  unfold eqD
  split
  all_goals first
    | exact absurd rfl (hn _)
    | skip
  rw [rsv_pur hx.p, rsv_pur hy.p]
  exact ⟨hx.shaped hk, hy.shaped hk', q⟩
theorem in_of {neg : Bool} {x y : D} {S : Sto} {Q : KD} {ys : List D} {k w k' w' : Nat} (hx : Sm k w x) (h : sqOf S y = some ys) (hy : ∀ d ∈ ys, Sm k' w' d) (hk : k ≤ 64) (hk' : k' ≤ 63) (hn : ∀ z, y ≠ .str z) (q : Q (.bl (xor neg (ys.any fun z => PyData.eqv (toPy z) (toPy x)))) S) : inD neg x y S Q := by
  unfold inD
  split
  · exact absurd rfl (hn _)
  · exact .inl ⟨ys, h, hx.shaped hk, (Sm.tup hy (Nat.le_refl _)).shaped (by omega), (Sm.fl hy (Nat.le_refl _)).shaped (by omega), q⟩
theorem in_at {neg : Bool} {x y : D} {S : Sto} {Q : KD} {o : Option D} (h : atD S x y = some o) (q : Q (.bl (xor neg o.isSome)) S) : inD neg x y S Q := by
  unfold inD
  split
  · unfold atD at h; cases h
  · exact .inr ⟨o, h, q⟩
theorem any_str (ys : List Str) (x : Str) : ((ys.map D.str).any fun z => PyData.eqv (toPy z) (toPy (.str x))) = decide (x ∈ ys) := by
  induction ys with
  | nil => rfl
  | cons y ys ih =>
    rw [List.map_cons, List.any_cons, ih]
    unfold toPy
    simp only [PyData.eqv, List.mem_cons]
    by_cases h : x = y
    · subst h; simp
    · have h' : (y == x) = false := beq_eq_false_iff_ne.mpr fun z => h z.symm
      simp [h, h']
theorem any_int (ys : List Int) (x : Int) : ((ys.map D.int).any fun z => PyData.eqv (toPy z) (toPy (.int x))) = decide (x ∈ ys) := by
  induction ys with
  | nil => rfl
  | cons y ys ih =>
    rw [List.map_cons, List.any_cons, ih]
    unfold toPy
    simp only [PyData.eqv, List.mem_cons]
    by_cases h : x = y
    · subst h; simp
    · have h' : (y == x) = false := beq_eq_false_iff_ne.mpr fun z => h z.symm
      simp [h, h']
theorem len_sq {x : D} {S : Sto} {Q : KD} {xs : List D} (h : sqOf S x = some xs) (q : Q (.int xs.length) S) : lenD [x] S Q := by
  refine ⟨x, rfl, ?_⟩
  split
  · unfold sqOf lsOf at h; cases h
  · exact .inl ⟨xs, h, q⟩
/-- what is not there is there in no smaller store -/
theorem up_non {S : Sto} {p q : Addr} {o : MO} (h : up S p o q = none) : q ≠ p ∧ S q = none := by
  by_cases e : q = p
  · subst e; rw [up_same] at h; cases h
  · rw [up_ne e] at h; exact ⟨e, h⟩
/-! a way is chosen -/
theorem brT {c : Bool} {A B : Prop} (h : c = true) (a : A) : if c = true then A else B := by rw [if_pos h]; exact a
theorem brF {c : Bool} {A B : Prop} (h : c = false) (b : B) : if c = true then A else B := by rw [if_neg (by rw [h]; exact Bool.false_ne_true)]; exact b
theorem br2 {c : Bool} {A B : Prop} (a : c = true → A) (b : c = false → B) : if c = true then A else B := by
  cases h : c with
  | true => exact brT rfl (a h)
  | false => exact brF rfl (b h)
theorem xt {p : Prop} [Decidable p] (h : p) : xor false (decide p) = true := by simp [h]
theorem xf {p : Prop} [Decidable p] (h : ¬ p) : xor false (decide p) = false := by simp [h]
theorem nxt {p : Prop} [Decidable p] (h : ¬ p) : xor true (decide p) = true := by simp [h]
theorem nxf {p : Prop} [Decidable p] (h : p) : xor true (decide p) = false := by simp [h]
theorem of_xt {p : Prop} [Decidable p] (h : xor false (decide p) = true) : p := by simpa using h
theorem of_xf {p : Prop} [Decidable p] (h : xor false (decide p) = false) : ¬ p := by simpa using h
theorem of_nxt {p : Prop} [Decidable p] (h : xor true (decide p) = true) : ¬ p := by simpa using h
theorem of_nxf {p : Prop} [Decidable p] (h : xor true (decide p) = false) : p := by simpa using h
/-- a value is handed out -/
theorem rt_of {d : D} {S : Sto} {Q : KD} (q : Q d S) : ∃ d1 S1, VW d S d1 S1 ∧ Q d1 S1 := ⟨d, S, .refl d S, q⟩
theorem rt_sub {d : D} {S S1 : Sto} {Q : KD} (h : Sub S1 S) (q : Q d S1) : ∃ d1 S1, VW d S d1 S1 ∧ Q d1 S1 := ⟨d, S1, .sub h, q⟩
theorem ofS {a b : String} (h : a ≠ b) : ¬ (Str.ofString a = Str.ofString b) := fun e => h (ofString_inj.mp e)
/-! a list made of items that stand -/
theorem lc_seq {ds : List D} {S1 : Sto} {Q : List D → Sto → Prop} {B : (Nat → List D → Sto → Prop) → Nat → List D → D → Sto → Prop} (Pv : Nat → List D → Sto → Prop) (h0 : Pv 0 [] S1)
    (hs : ∀ i x acc S, ds[i]? = some x → Pv i acc S → acc.length < sizeLine ∧ B Pv i acc x S) (hd : ∀ i acc S, ds.length ≤ i → Pv i acc S → Q acc S) :
    ∃ (W : Nat → List D → Sto → Prop) (n : Nat), W 0 [] S1 ∧ ∀ i acc S2, W i acc S2 → ∃ r, seqI ds i S2 = some r ∧ (r = none → Q acc S2) ∧ ∀ x, r = some x → i < n ∧ acc.length < sizeLine ∧ B W i acc x S2 :=
  ⟨Pv, ds.length, h0, fun i acc S p => ⟨ds[i]?, rfl, fun e => hd i acc S (List.getElem?_eq_none_iff.mp e) p, fun x e => ⟨(List.getElem?_eq_some_iff.mp e).1, hs i x acc S e p⟩⟩⟩
theorem lc_rng {lo : Int} {n : Nat} {S1 : Sto} {Q : List D → Sto → Prop} {B : (Nat → List D → Sto → Prop) → Nat → List D → D → Sto → Prop} (Pv : Nat → List D → Sto → Prop) (h0 : Pv 0 [] S1)
    (hs : ∀ i acc S, i < n → Pv i acc S → acc.length < sizeLine ∧ B Pv i acc (.int (lo + i)) S) (hd : ∀ i acc S, n ≤ i → Pv i acc S → Q acc S) :
    ∃ (W : Nat → List D → Sto → Prop) (m : Nat), W 0 [] S1 ∧ ∀ i acc S2, W i acc S2 → ∃ r, rangeI lo n i S2 = some r ∧ (r = none → Q acc S2) ∧ ∀ x, r = some x → i < m ∧ acc.length < sizeLine ∧ B W i acc x S2 := by
  refine ⟨Pv, n, h0, fun i acc S p => ?_⟩
  unfold rangeI
  by_cases h : i < n
  · rw [if_pos h]
    exact ⟨_, rfl, (fun e => nomatch e), fun x e => by cases e; exact ⟨h, hs i acc S h p⟩⟩
  · rw [if_neg h]
    exact ⟨_, rfl, (fun _ => hd i acc S (by omega) p), fun x e => nomatch e⟩
theorem tk1 {α : Type} {l : List α} {i : Nat} {x : α} (h : l[i]? = some x) : l.take (i + 1) = l.take i ++ [x] := by
  rw [List.take_succ, h]; rfl
theorem map_at {α β : Type} {f : α → β} {l : List α} {i : Nat} {y : β} (h : (l.map f)[i]? = some y) : ∃ x, l[i]? = some x ∧ y = f x := by
  rw [List.getElem?_map] at h
  obtain ⟨x, h1, h2⟩ := Option.map_eq_some_iff.mp h
  exact ⟨x, h1, h2.symm⟩
/-! a loop over items that stand -/
theorem fr_seq {ds : List D} {δ0 : DSt} {S0 : Sto} {Nx : DSt → Sto → Prop} {B : (Nat → DSt → Sto → Prop) → Nat → D → DSt → Sto → Prop} (Pv : Nat → DSt → Sto → Prop) (h0 : Pv 0 δ0 S0)
    (hs : ∀ i x δ S, ds[i]? = some x → Pv i δ S → B Pv i x δ S) (hd : ∀ i δ S, ds.length ≤ i → Pv i δ S → Nx δ S) :
    ∃ (W : Nat → DSt → Sto → Prop) (n : Nat), W 0 δ0 S0 ∧ ∀ i δ S, W i δ S → ∃ r, seqI ds i S = some r ∧ (r = none → Nx δ S) ∧ ∀ x, r = some x → i < n ∧ B W i x δ S :=
  ⟨Pv, ds.length, h0, fun i δ S p => ⟨ds[i]?, rfl, fun e => hd i δ S (List.getElem?_eq_none_iff.mp e) p, fun x e => ⟨(List.getElem?_eq_some_iff.mp e).1, hs i x δ S e p⟩⟩⟩
/-- a loop over any walk of n items -/
theorem fr_of {J : ItD} {δ0 : DSt} {S0 : Sto} {Nx : DSt → Sto → Prop} {B : (Nat → DSt → Sto → Prop) → Nat → D → DSt → Sto → Prop} (n : Nat) (Pv : Nat → DSt → Sto → Prop) (h0 : Pv 0 δ0 S0)
    (hs : ∀ i δ S, i < n → Pv i δ S → ∃ x, J i S = some (some x) ∧ B Pv i x δ S) (hd : ∀ i δ S, n ≤ i → Pv i δ S → J i S = some none ∧ Nx δ S) :
    ∃ (W : Nat → DSt → Sto → Prop) (m : Nat), W 0 δ0 S0 ∧ ∀ i δ S, W i δ S → ∃ r, J i S = some r ∧ (r = none → Nx δ S) ∧ ∀ x, r = some x → i < m ∧ B W i x δ S := by
  refine ⟨Pv, n, h0, fun i δ S p => ?_⟩
  by_cases h : i < n
  · obtain ⟨x, e, b⟩ := hs i δ S h p
    exact ⟨some x, e, (fun z => nomatch z), fun y z => by cases z; exact ⟨h, b⟩⟩
  · obtain ⟨e, q⟩ := hd i δ S (by omega) p
    exact ⟨none, e, fun _ => q, fun y z => nomatch z⟩
theorem fr_rng {lo : Int} {n : Nat} {δ0 : DSt} {S0 : Sto} {Nx : DSt → Sto → Prop} {B : (Nat → DSt → Sto → Prop) → Nat → D → DSt → Sto → Prop} (Pv : Nat → DSt → Sto → Prop) (h0 : Pv 0 δ0 S0)
    (hs : ∀ i δ S, i < n → Pv i δ S → B Pv i (.int (lo + i)) δ S) (hd : ∀ i δ S, n ≤ i → Pv i δ S → Nx δ S) :
    ∃ (W : Nat → DSt → Sto → Prop) (m : Nat), W 0 δ0 S0 ∧ ∀ i δ S, W i δ S → ∃ r, rangeI lo n i S = some r ∧ (r = none → Nx δ S) ∧ ∀ x, r = some x → i < m ∧ B W i x δ S :=
  fr_of n Pv h0 (fun i δ S h p => ⟨_, by unfold rangeI; rw [if_pos h], hs i δ S h p⟩) fun i δ S h p => ⟨by unfold rangeI; rw [if_neg (by omega)], hd i δ S h p⟩
theorem fr_rngC {lo c : Int} {n : Nat} {δ0 : DSt} {S0 : Sto} {Nx : DSt → Sto → Prop} {B : (Nat → DSt → Sto → Prop) → Nat → D → DSt → Sto → Prop} (Pv : Nat → DSt → Sto → Prop) (h0 : Pv 0 δ0 S0)
    (hs : ∀ i δ S, i < n → Pv i δ S → B Pv i (.int (lo + (i : Nat) * c)) δ S) (hd : ∀ i δ S, n ≤ i → Pv i δ S → Nx δ S) :
    ∃ (W : Nat → DSt → Sto → Prop) (m : Nat), W 0 δ0 S0 ∧ ∀ i δ S, W i δ S → ∃ r, rangeCI lo c n i S = some r ∧ (r = none → Nx δ S) ∧ ∀ x, r = some x → i < m ∧ B W i x δ S :=
  fr_of n Pv h0 (fun i δ S h p => ⟨_, by unfold rangeCI; rw [if_pos h], hs i δ S h p⟩) fun i δ S h p => ⟨by unfold rangeCI; rw [if_neg (by omega)], hd i δ S h p⟩
/-! what is left to be found -/
section
variable {α : Type} [DecidableEq α]
def unk (l ks : List α) : Nat := (l.filter fun x => !decide (x ∈ ks)).length
theorem unk_le (l : List α) {ks ks' : List α} (h : ∀ x, x ∈ ks → x ∈ ks') : unk l ks' ≤ unk l ks := by
  induction l with
  | nil => exact Nat.le_refl _
  | cons y l ih =>
    unfold unk at ih ⊢
    by_cases h1 : y ∈ ks
    · have h2 := h y h1
      simp only [List.filter_cons, h1, h2, decide_true, Bool.not_true, Bool.false_eq_true, if_false]
      exact ih
    · by_cases h2 : y ∈ ks'
      · simp only [List.filter_cons, h1, h2, decide_true, decide_false, Bool.not_true, Bool.not_false, Bool.false_eq_true, if_false, if_true, List.length_cons]
        omega
      · simp only [List.filter_cons, h1, h2, decide_false, Bool.not_false, if_true, List.length_cons]
        omega
theorem unk_lt {l ks : List α} {x : α} (hx : x ∈ l) (hn : x ∉ ks) : unk l (ks ++ [x]) < unk l ks := by
  induction l with
  | nil => cases hx
  | cons y l ih =>
    have le := unk_le l (ks := ks) (ks' := ks ++ [x]) fun z hz => List.mem_append_left _ hz
    unfold unk at ih le ⊢
    by_cases e : x = y
    · subst e
      have h2 : x ∈ ks ++ [x] := by simp
      simp only [List.filter_cons, hn, h2, decide_true, decide_false, Bool.not_true, Bool.not_false, Bool.false_eq_true, if_false, if_true, List.length_cons]
      omega
    · have ih := ih ((List.mem_cons.mp hx).resolve_left e)
      by_cases h1 : y ∈ ks
      · have h2 : y ∈ ks ++ [x] := List.mem_append_left _ h1
        simp only [List.filter_cons, h1, h2, decide_true, Bool.not_true, Bool.false_eq_true, if_false]
        exact ih
      · have h2 : y ∉ ks ++ [x] := fun z => (List.mem_append.mp z).elim h1 fun z => e (List.mem_singleton.mp z).symm
        simp only [List.filter_cons, h1, h2, decide_false, Bool.not_false, if_true, List.length_cons]
        omega
theorem unk_nil (l : List α) : unk l [] = l.length := by
  unfold unk
  rw [List.filter_eq_self.mpr (by simp)]
end
theorem len_dt {p : Addr} {S : Sto} {Q : KD} {kvs : List (List Key × D)} (h : S p = some (.dt kvs)) (q : Q (.int kvs.length) S) : lenD [.ref p] S Q := ⟨_, rfl, .inr (.inr ⟨p, kvs, rfl, h, q⟩)⟩
theorem len_dk {p : Addr} {S : Sto} {Q : KD} {kvs : List (Key × D)} (h : S p = some (.dk kvs)) (q : Q (.int kvs.length) S) : lenD [.ref p] S Q := ⟨_, rfl, .inr (.inl ⟨p, kvs, rfl, h, q⟩)⟩
/-! a place where ways meet: J is what holds there -/
def dCut (t u : TDS) : TDS := fun D δ S => ∃ J : DSt → Sto → Prop, t { D with nx := J } δ S ∧ ∀ δ' S', J δ' S' → u D δ' S'
theorem dss_cut {X : Cx} {st : Stmt} {rest : List Stmt} {t u : TDS} (h1 : PS X st (lS X.K t)) (h2 : PSs X rest (lS X.K u)) : PSs X (st :: rest) (lS X.K (dCut t u)) :=
  PSs.wk (pss_cons h1 h2) fun D σ H ⟨N, δ, S, D', re, rs, ⟨J, q, g⟩, l⟩ => by
    refine ⟨N, δ, S, _, re, rs, q, fun δ' S' σ' H' b r q' => ?_, l.rt, l.bk, l.ct⟩
    exact ⟨N, δ', S', D', r, b.rs, g δ' S' q', l.from b⟩
def dTcut (t : TDT) : TDT := fun δ S Q => ∃ J : Bool → Sto → Prop, t δ S J ∧ ∀ b S', J b S' → Q b S'
theorem dt_cut {X : Cx} {e : Expr} {t : TDT} (h : PT X e (lT X.K t)) : PT X e (lT X.K (dTcut t)) :=
  PT.wk h fun σ H Q ⟨N, δ, S, Q', re, rs, ⟨J, q, g⟩, k⟩ => ⟨N, δ, S, J, re, rs, q, fun b S' H' bb j => k b S' H' bb (g b S' j)⟩
theorem it_of {C : Int → Int → Prop} {g : Int → Int → V} {i j : Int} {S : Sto} {Q : KD} (h : C i j) (q : Q (.at (g i j)) S) : intD C g (.int i) (.int j) S Q := ⟨h, q⟩
theorem cmul1 {i j : Int} (h1 : -(2 ^ 63) < i) (h2 : i < 2 ^ 63) : CMul i j := .inl ⟨by omega, by omega⟩
theorem cmul2 {i j : Int} (h1 : -(2 ^ 63) < j) (h2 : j < 2 ^ 63) : CMul i j := .inr ⟨by omega, by omega⟩
theorem ixN_nat {n i : Nat} (h : i < n) : ixN n (i : Int) = some i := by
  unfold ixN
  rw [if_pos (by omega), if_pos (by omega)]
  simp
theorem set_l {p : Addr} {S : Sto} {Q : Sto → Prop} {xs : List D} {i : Int} {j : Nat} {v : D} (h : S p = some (.lst xs)) (hj : ixN xs.length i = some j) (q : Q (up S p (.lst (xs.set j v)))) : setD (.ref p) (.int i) v S Q := ⟨p, rfl, .inl ⟨xs, i, j, h, rfl, hj, q⟩⟩
theorem sq_l {S : Sto} {p : Addr} {xs : List D} (h : S p = some (.lst xs)) : sqOf S (.ref p) = some xs := by unfold sqOf lsOf; dsimp only; rw [h]
theorem ls_l {S : Sto} {p : Addr} {xs : List D} (h : S p = some (.lst xs)) : lsOf S (.ref p) = some xs := by unfold lsOf; dsimp only; rw [h]
theorem ty_l {S : Sto} {p : Addr} {xs : List D} (h : S p = some (.lst xs)) : tyD S (.ref p) "list" := by unfold tyD; dsimp only; rw [h]
theorem ty_dk {S : Sto} {p : Addr} {xs : List (Key × D)} (h : S p = some (.dk xs)) : tyD S (.ref p) "dict" := by unfold tyD; dsimp only; rw [h]
theorem ty_dt {S : Sto} {p : Addr} {xs : List (List Key × D)} (h : S p = some (.dt xs)) : tyD S (.ref p) "dict" := by unfold tyD; dsimp only; rw [h]
theorem rsv_l {S : Sto} {p : Addr} {xs : List D} (h : S p = some (.lst xs)) : rsv S (.ref p) = .fl xs := by unfold rsv; dsimp only; rw [h]
/-- a list of the store, against a list that stands -/
theorem eq_l {neg : Bool} {p : Addr} {xs : List D} {y : List D} {S : Sto} {Q : KD} (h : S p = some (.lst xs)) (cx : cmpOk (.fl xs) = true) (cy : cmpOk (.fl y) = true) (q : Q (.bl (xor neg (PyData.eqv (toPy (.fl xs)) (toPy (.fl y))))) S) : eqD neg (.ref p) (.fl y) S Q := by
  unfold eqD
  dsimp only
  rw [rsv_l h, show rsv S (.fl y) = .fl y from rfl]
  exact ⟨cx, cy, q⟩
theorem eqv_nil (xs : List D) : PyData.eqv (toPy (.fl xs)) (toPy (.fl [])) = xs.isEmpty := by
  cases xs with
  | nil => unfold toPy; unfold toPys; simp only [PyData.eqv, PyData.eqvAll]; rfl
  | cons x xs => unfold toPy; unfold toPys; simp only [PyData.eqv, PyData.eqvAll]; rfl
theorem cmp_ints (ns : List Int) : cmpOk (.fl (ns.map D.int)) = true := by
  have p : purs (ns.map D.int) = true := by
    rw [purs_all, List.all_map, List.all_eq_true]
    intro n _
    show pur (D.int n) = true
    unfold pur; rfl
  have c : PyData.canLayAll0 (toPys (ns.map D.int)) = true := by
    clear p
    induction ns with
    | nil => simp [toPys, PyData.canLayAll0]
    | cons n ns ih =>
      rw [List.map_cons]; unfold toPys toPy
      simp only [PyData.canLayAll0, PyData.canLay0, ih, Bool.true_and]
  have d : PyData.depthAll (toPys (ns.map D.int)) ≤ 1 := by
    clear p c
    induction ns with
    | nil => simp [toPys, PyData.depthAll]
    | cons n ns ih =>
      rw [List.map_cons]; unfold toPys toPy
      simp only [PyData.depthAll, PyData.depth]
      omega
  unfold cmpOk
  show (pur (.fl (ns.map D.int)) && ((toPy (.fl (ns.map D.int))).canLay0 && decide ((toPy (.fl (ns.map D.int))).depth ≤ 64))) = true
  have e : toPy (.fl (ns.map D.int)) = .list (toPys (ns.map D.int)) := by conv => lhs; unfold toPy
  have e2 : pur (.fl (ns.map D.int)) = true := by unfold pur; exact p
  rw [e, e2]
  have h1 : (PyData.list (toPys (ns.map D.int))).canLay0 = true := by simp only [PyData.canLay0]; exact c
  have h2 : (PyData.list (toPys (ns.map D.int))).depth ≤ 64 := by simp only [PyData.depth]; omega
  rw [h1, decide_eq_true h2]
  rfl
theorem add_i {mu : Bool} {i j : Int} {S : Sto} {Q : KD} (q : Q (.int (i + j)) S) : addD mu (.int i) (.int j) S Q := q
theorem add_s {mu : Bool} {a b : Str} {S : Sto} {Q : KD} (h : a.length + b.length ≤ sizeLine) (q : Q (.str (a ++ b)) S) : addD mu (.str a) (.str b) S Q := ⟨h, q⟩
theorem add_t {mu : Bool} {xs ys : List D} {S : Sto} {Q : KD} (h : xs.length + ys.length ≤ sizeLine) (q : Q (.tup (xs ++ ys)) S) : addD mu (.tup xs) (.tup ys) S Q := ⟨h, q⟩
/-- lists: a new one that nobody will change, or one of the store -/
theorem add_f {x y : D} {xs ys : List D} {S : Sto} {Q : KD} (hx : lsOf S x = some xs) (hy : lsOf S y = some ys) (h : xs.length + ys.length ≤ sizeLine) (q : Q (.fl (xs ++ ys)) S) : addD false x y S Q := by
  unfold addD
  split
  · unfold lsOf at hx; cases hx
  · unfold lsOf at hx; cases hx
  · unfold lsOf at hx; cases hx
  · exact ⟨xs, ys, hx, hy, h, brF rfl q⟩
theorem add_l {x y : D} {xs ys : List D} {S : Sto} {Q : KD} (hx : lsOf S x = some xs) (hy : lsOf S y = some ys) (h : xs.length + ys.length ≤ sizeLine) (q : ∀ p, S p = none → Q (.ref p) (up S p (.lst (xs ++ ys)))) : addD true x y S Q := by
  unfold addD
  split
  · unfold lsOf at hx; cases hx
  · unfold lsOf at hx; cases hx
  · unfold lsOf at hx; cases hx
  · exact ⟨xs, ys, hx, hy, h, brT rfl q⟩
theorem cut_map {α β : Type} (f : α → β) (l : List α) (i j : Nat) : ((l.map f).drop i).take j = ((l.drop i).take j).map f := by rw [← List.map_drop, ← List.map_take]
theorem cutD_map {α : Type} (f : α → D) (l : List α) (lo hi : Option Int) : ∃ l' : List α, cutD (l.map f) lo hi = l'.map f ∧ l'.length ≤ l.length ∧ ∀ x ∈ l', x ∈ l := by
  unfold cutD
  rw [cut_map]
  refine ⟨_, rfl, ?_, fun x hx => List.mem_of_mem_drop (List.mem_of_mem_take hx)⟩
  rw [List.length_take, List.length_drop]
  omega
/-! a list is walked, one of these ways -/
def iLf (te : TDE) : TDI := fun δ S R => te δ S fun x S1 => ∃ ds, x = .fl ds ∧ R (seqI ds) S1
def iLw (te : TDE) : TDI := fun δ S R => te δ S fun x S1 => ∃ a ds, x = .ref a ∧ S1 a = some (.lst ds) ∧ R (listI a) S1
theorem di_lf {X : Cx} {tg e : Expr} {te : TDE} (he : PE X e (lE X.K te)) : PI X tg e (lI X.K (iLf te)) :=
  PI.wk (pi_list he) fun σ H R ⟨N, δ, S, R', re, rs, q, kk⟩ => by
    refine ⟨N, δ, S, _, re, rs, q, fun x S1 v H1 b1 rv q1 => ?_⟩
    obtain ⟨ds, rfl, q1⟩ := q1
    obtain ⟨a, vs, rfl, fz, r⟩ := rv.fl_
    exact ⟨a, rfl, ⟨vs, fz.sq⟩, kk _ S1 _ H1 b1 (rel_fl b1.rs fz r) q1⟩
theorem di_lw {X : Cx} {tg e : Expr} {te : TDE} (he : PE X e (lE X.K te)) : PI X tg e (lI X.K (iLw te)) :=
  PI.wk (pi_list he) fun σ H R ⟨N, δ, S, R', re, rs, q, kk⟩ => by
    refine ⟨N, δ, S, _, re, rs, q, fun x S1 v H1 b1 rv q1 => ?_⟩
    obtain ⟨a, ds, rfl, e, q1⟩ := q1
    have := rv.at_
    subst this
    obtain ⟨vs, h1, h2⟩ := b1.rs.ob a _ e
    exact ⟨a, rfl, ⟨vs, .of h1⟩, kk _ S1 _ H1 b1 rel_lst q1⟩
theorem cutD_mem {x : D} {l : List D} {lo hi : Option Int} (h : x ∈ cutD l lo hi) : x ∈ l := List.mem_of_mem_drop (List.mem_of_mem_take h)
theorem cutD_len (l : List D) (lo hi : Option Int) : (cutD l lo hi).length ≤ l.length := by
  unfold cutD
  rw [List.length_take, List.length_drop]
  omega
theorem sl_f {x : D} {xs : List D} {lo hi : Option Int} {S : Sto} {Q : KD} (h : lsOf S x = some xs) (q : Q (.fl (cutD xs lo hi)) S) : sliceD false x lo hi S Q := by
  unfold sliceD
  split
  · unfold lsOf at h; cases h
  · unfold lsOf at h; cases h
  · exact ⟨xs, h, brF rfl q⟩
theorem cut_take (l : List D) (k : Nat) : cutD l none (some (k : Int)) = l.take k := by
  unfold cutD HT.sIx
  simp only [List.drop_zero]
  rw [if_neg (by omega)]
  have e : (k : Int).toNat = k := by omega
  rw [e, Nat.sub_zero]
  by_cases h : k ≤ l.length
  · rw [Nat.min_eq_left h]
  · rw [Nat.min_eq_right (by omega), List.take_of_length_le (Nat.le_refl _), List.take_of_length_le (by omega)]
/-- forgetting a thing of the store -/
theorem sub_del {S : Sto} {p : Addr} : Sub (del S p) S := fun a o e => by
  by_cases h : a = p
  · subst h; rw [del_same] at e; cases e
  · rw [del_ne h] at e; exact e
theorem app_of {p : Addr} {xs : List D} {y : D} {S : Sto} {Q : KD} (h : S p = some (.lst xs)) (hl : xs.length < sizeLine) (q : Q .non (up S p (.lst (xs ++ [y])))) : appD (.ref p) [y] S Q := ⟨p, xs, y, rfl, rfl, h, hl, q⟩
theorem tpl_l {x : D} {xs : List D} {S : Sto} {Q : KD} (h : lsOf S x = some xs) (q : Q (.tup xs) S) : tplD [x] S Q := by
  refine ⟨x, rfl, ?_⟩
  split
  · unfold lsOf at h; cases h
  · exact ⟨xs, h, q⟩
theorem enum_fl {xs : List D} {i : Nat} {S : Sto} : enumI (.fl xs) i S = some (xs[i]?.map fun d => .tup [.int (i : Nat), d]) := rfl
theorem tru_b {b : Bool} {S : Sto} {Q : Bool → Sto → Prop} (q : Q b S) : truD (.bl b) S Q := q
end DL

/-! Data layer, eleventh part: texts that are walked; zip of any two. -/
namespace DL
open PySem L2 PyProof.Rows

/-! ### what zip draws from -/
inductive Sd where
  | li (a : Addr)
  | tu (a : Addr)
  | st (x : Str)
def Sd.v : Sd → V
  | .li a => .ref a
  | .tu a => .ref a
  | .st x => .str x
def signsV (x : Str) : List V := x.cps.toList.map fun c => .str ⟨#[c]⟩
def Sd.Has (K : PySem.W.Frag) (H : Hp) : Sd → List V → Prop
  | .li a, xs => SqL K H a xs
  | .tu a, xs => SqT K H a xs
  | .st x, xs => xs = signsV x
def Sd.At (h : Heap) (it i : Nat) : Sd → Prop
  | .li a => h.IsListIter it a i
  | .tu a => h.IsTupleIter it a i
  | .st x => ∃ t, h.IsStrIter it (strIterType x) x t i
def Sd.Old (n : Nat) : Sd → Prop
  | .li a => a < n
  | .tu a => a < n
  | .st _ => True
theorem Sd.At.keep {h h' : Heap} {it i : Nat} : ∀ {d : Sd}, d.At h it i → (∀ o, h.get? it = some o → h'.get? it = some o) → d.At h' it i
  | .li a, s, k => Heap.IsListIter.at (show h.IsListIter it a i from s) k
  | .tu a, s, k => Heap.IsTupleIter.at (show h.IsTupleIter it a i from s) k
  | .st x, ⟨t, o, e, r⟩, k => ⟨t, o, k o e, r⟩
theorem Sd.At.obj {h : Heap} {it i : Nat} : ∀ {d : Sd}, d.At h it i → ∃ o, h.get? it = some o ∧ ∀ v, o.data ≠ .cell v
  | .li a, ⟨o, e, _, dd⟩ => ⟨o, e, fun v q => by rw [dd] at q; cases q⟩
  | .tu a, ⟨o, e, _, dd⟩ => ⟨o, e, fun v q => by rw [dd] at q; cases q⟩
  | .st x, ⟨t, o, e, _, dd⟩ => ⟨o, e, fun v q => by rw [dd] at q; cases q⟩
section
variable {X : Cx} {pins : List (Addr × Obj)} {σ : L2.St} {H : Hp} {s : Shared} {xs : List V}
/-- a side of zip at a turn -/
theorem Sd.draws (I : Inv X pins σ H s) (hh : X.A.handled = none) (n it i : Nat) (hn : n ≤ it) : ∀ (d : Sd), d.Old n → d.At s.heap it i → d.Has X.K H xs → ∃ (fp : List Addr) (m : Nat) (P : Nat → Value → Prop) (St : Nat → Heap → Prop),
    Draws X.prog X.w X.A.in1 it fp m P St ∧ St i s.heap ∧ m = xs.length ∧ it ∈ fp ∧ (∀ b : Nat, b ∈ fp → b = it ∨ b < n) ∧ (∀ v x, P i v → xs[i]? = some x → RelV x v) ∧ ∀ h', St (i + 1) h' → d.At h' it (i + 1)
  | .li a, o, q0, has => by
    have o' : (a : Nat) < n := o
    obtain ⟨its, rv, p, _⟩ := I.list has
    refine ⟨_, _, _, _, Draws.list (A := X.A.in1) hh it a (Nat.ne_of_lt (Nat.lt_of_lt_of_le o hn)) its.toArray, ⟨q0, p.isList⟩, by rw [List.size_toArray, ← rv.length], by simp, fun b hb => ?_, fun v x hv hx => ?_, fun h' z => z.1⟩
    · simp only [List.mem_cons, List.not_mem_nil, or_false] at hb
      rcases hb with rfl | rfl
      · exact .inl rfl
      · exact .inr o'
    · obtain ⟨u, hu, ru⟩ := rv.get hx
      have hv' : its[i]? = some v := by simpa using hv
      rw [hu] at hv'
      cases hv'
      exact ru
  | .tu a, o, q0, has => by
    have o' : (a : Nat) < n := o
    obtain ⟨its, rv, p, _⟩ := I.tuple has
    refine ⟨_, _, _, _, Draws.tuple (A := X.A.in1) hh it a (Nat.ne_of_lt (Nat.lt_of_lt_of_le o hn)) its.toArray, ⟨q0, p⟩, by rw [List.size_toArray, ← rv.length], by simp, fun b hb => ?_, fun v x hv hx => ?_, fun h' z => z.1⟩
    · simp only [List.mem_cons, List.not_mem_nil, or_false] at hb
      rcases hb with rfl | rfl
      · exact .inl rfl
      · exact .inr o'
    · obtain ⟨u, hu, ru⟩ := rv.get hx
      have hv' : its[i]? = some v := by simpa using hv
      rw [hu] at hv'
      cases hv'
      exact ru
  | .st y, o, ⟨t, q0⟩, has => by
    have e : xs = signsV y := has
    subst e
    refine ⟨_, _, _, _, Draws.text (A := X.A.in1) hh it y t, q0, by unfold signsV; rw [List.length_map, Array.length_toList], by simp, fun b hb => .inl (List.mem_singleton.mp hb), fun v x hv hx => ?_, fun h' z => ⟨t, z⟩⟩
    obtain ⟨c, u, hc, rfl⟩ := hv
    unfold signsV at hx
    rw [List.getElem?_map, Array.getElem?_toList, hc] at hx
    cases hx
    exact ⟨u, rfl⟩
end
/-- both sides as they stand at each turn, the items in new pairs -/
def Izm (K : PySem.W.Frag) (d1 d2 : Sd) : It :=
  ⟨fun i H => ∃ (xs ys : List V) (x y : V), d1.Has K H xs ∧ d2.Has K H ys ∧ xs[i]? = some x ∧ ys[i]? = some y,
    fun i H v H' => ∃ T x y, v = .ref T ∧ H T = none ∧ H' = upd H T (.tup [x, y]) ∧ (∀ xs, d1.Has K H xs → xs[i]? = some x) ∧ ∀ ys, d2.Has K H ys → ys[i]? = some y,
    fun i H => ∃ xs ys : List V, d1.Has K H xs ∧ d2.Has K H ys ∧ i ≤ xs.length ∧ i ≤ ys.length ∧ (i = xs.length ∨ i = ys.length)⟩
theorem Sd.inj {X : Cx} {pins : List (Addr × Obj)} {σ : L2.St} {H : Hp} {s : Shared} {xs ys : List V} (I : Inv X pins σ H s) : ∀ {d : Sd}, d.Has X.K H xs → d.Has X.K H ys → xs = ys
  | .li a, h, h' => I.list_inj h h'
  | .tu a, h, h' => I.tuple_inj h h'
  | .st x, h, h' => (show xs = signsV x from h).trans (show ys = signsV x from h').symm
theorem sep_of (n : Nat) {fp1 fp2 : List Addr} (mem1 : n ∈ fp1) (sub1 : ∀ b : Nat, b ∈ fp1 → b = n ∨ b < n) (mem2 : n + 1 ∈ fp2) (sub2 : ∀ b : Nat, b ∈ fp2 → b = n + 1 ∨ b < n) : ZipSep2 (n + 4) (n + 2) (n + 3) n (n + 1) fp1 fp2 :=
  ⟨show n + 2 ≠ n + 4 by omega, show n + 3 ≠ n + 4 by omega, show n + 2 ≠ n + 3 by omega, show n + 2 ≠ n by omega, mem1, fun z => by rcases sub1 _ z with q | q <;> omega, fun z => by rcases sub1 _ z with q | q <;> omega, show n + 2 ≠ n + 1 by omega, mem2,
    fun z => by rcases sub2 _ z with q | q <;> omega, fun z => by rcases sub2 _ z with q | q <;> omega, fun z => by rcases sub2 _ z with q | q <;> omega, fun z => by rcases sub1 _ z with q | q <;> omega⟩
theorem turn_zipM {P : Program} {w : World} {K : PySem.W.Frag} {elts : List Expr} {kk : Nat} {tpos : Pos} {d1 d2 : Sd} (n : Nat) (o1 : d1.Old n) (o2 : d2.Old n) :
    Turn P w K (.Tuple elts kk tpos) (Izm K d1 d2) [n + 4, n + 2, n + 3, n, n + 1] (n + 4) (fun i h => IsZip h (n + 4) (n + 2) (n + 3) .none ∧ IsTupOf2 h (n + 2) (.ref n) (.ref (n + 1)) ∧ (∃ x y, IsTupOf2 h (n + 3) x y) ∧ d1.At h n i ∧ d2.At h (n + 1) i) where
  mem := by simp
  obj := fun i h st c hc => by
    obtain ⟨hz, hTI, ⟨x, y, hTO⟩, h1, h2⟩ := st
    have e' : c = n + 4 ∨ c = n + 2 ∨ c = n + 3 ∨ c = n ∨ c = n + 1 := by simpa using hc
    rcases e' with q | q | q | q | q
    · rw [q]; exact ⟨_, hz, fun v q => nomatch q⟩
    · rw [q]; exact ⟨_, hTI, fun v q => nomatch q⟩
    · rw [q]; exact ⟨_, hTO, fun v q => nomatch q⟩
    · rw [q]; exact h1.obj
    · rw [q]; exact h2.obj
  keep := fun i h h' st k => by
    obtain ⟨hz, hTI, ⟨x, y, hTO⟩, h1, h2⟩ := st
    exact ⟨k (n + 4) (by simp) _ hz, k (n + 2) (by simp) _ hTI, ⟨x, y, k (n + 3) (by simp) _ hTO⟩, h1.keep fun o q => k n (by simp) o q, h2.keep fun o q => k (n + 1) (by simp) o q⟩
  item := by
    intro X hP hw hK hc i pins s σ H E I hf st hg
    subst hP hw hK
    obtain ⟨hz, hTI, ⟨x0, y0, hTO⟩, h1, h2⟩ := st
    obtain ⟨xs, ys, x, y, hqx, hqy, hx, hy⟩ := hg
    obtain ⟨fp1, m1, P1, S1, D1, s1, e1, mem1, sub1, rel1, go1⟩ := Sd.draws I (I.ok.hd hc) n n i (Nat.le_refl _) d1 o1 h1 hqx
    obtain ⟨fp2, m2, P2, S2, D2, s2, e2, mem2, sub2, rel2, go2⟩ := Sd.draws I (I.ok.hd hc) n (n + 1) i (Nat.le_succ _) d2 o2 h2 hqy
    have S : ZipSep2 (n + 4) (n + 2) (n + 3) n (n + 1) fp1 fp2 := sep_of n mem1 sub1 mem2 sub2
    have hi1 := (List.getElem?_eq_some_iff.mp hx).1
    have hi2 := (List.getElem?_eq_some_iff.mp hy).1
    have hzl : n + 4 < s.heap.objs.size := Heap.lt_size hz
    refine wpAny_pyNext_zipD2_item S D1 D2 hz hTI hTO s1 s2 (by omega) (by omega) fun u1 u2 h' tk p1 p2 z' TO' t1 t2 hT hsz hk => ?_
    refine ⟨_, rfl, wpAny_letOwnedTupleGo_zip (s := { s with heap := h', toks := tk }) z' fun h'' z'' sb => ?_⟩
    have r1 := rel1 _ _ p1 hx
    have r2 := rel2 _ _ p2 hy
    have hT2 : h''.get? s.heap.objs.size = some { cls := .type "tuple", data := .seq #[u1, u2] } := (sb.2 _ (Nat.ne_of_gt hzl)).trans hT
    have new : ObjOk X.prog X.w (upd H s.heap.objs.size (.tup [x, y])) h'' s.heap.objs.size (.tup [x, y]) :=
      ⟨by show 2 ≤ sizeLine; decide, [u1, u2], .cons r1 (.cons r2 .nil), ⟨_, hT2, rfl, _, rfl⟩⟩
    have I1 : Inv X pins σ (upd H s.heap.objs.size (.tup [x, y])) { s with heap := h'', toks := tk } :=
      I.turnedNew (t' := tk) (ch := [n + 4, n + 2, n + 3, n, n + 1]) (fun c o hb q => (sb.2 c (fun q' => hb (by simp [q']))).trans (hk c o (fun q' => hb (by simp [q'])) (fun q' => hb (by simp [q'])) (fun q' => hb (by simp [q'])) (fun q' => hb (by simp [q'])) q)) hf (Nat.le_refl _) new
    refine ⟨.ref s.heap.objs.size, _, I1, rfl, ⟨_, x, y, rfl, I.hok.fresh (Nat.le_refl _), rfl, fun l hl => by rw [Sd.inj I hl hqx]; exact hx, fun l hl => by rw [Sd.inj I hl hqy]; exact hy⟩, ⟨z'', ?_, ⟨u1, u2, ?_⟩, ?_, ?_⟩, fun c hcm => ?_⟩
    · exact (sb.2 _ S.TIz).trans (hk _ _ S.TIz S.TITO S.TIi1 S.TIi2 hTI)
    · exact (sb.2 _ S.TOz).trans TO'
    · exact (go1 _ t1).keep fun o q => (sb.2 _ S.zi1.symm).trans q
    · exact (go2 _ t2).keep fun o q => (sb.2 _ S.zi2.symm).trans q
    · have hlt : c < s.heap.objs.size := by
        have e' : c = n + 4 ∨ c = n + 2 ∨ c = n + 3 ∨ c = n ∨ c = n + 1 := by simpa using hcm
        have lt : ∀ k : Nat, k ≤ 4 → n + k < s.heap.objs.size := fun k hk => Nat.lt_of_le_of_lt (Nat.add_le_add_left hk n) hzl
        rcases e' with e | e | e | e | e
        · rw [e]; exact hzl
        · rw [e]; exact lt 2 (by decide)
        · rw [e]; exact lt 3 (by decide)
        · rw [e]; exact lt 0 (by decide)
        · rw [e]; exact lt 1 (by decide)
      rw [upd_ne (Nat.ne_of_lt hlt)]
      exact (hf c hcm).1
  done := by
    intro X hP hw hK hc i pins s σ H E I hf st hg
    subst hP hw hK
    obtain ⟨hz, hTI, ⟨x0, y0, hTO⟩, h1, h2⟩ := st
    obtain ⟨xs, ys, hqx, hqy, l1, l2, hend⟩ := hg
    obtain ⟨fp1, m1, P1, S1, D1, s1, e1, mem1, sub1, rel1, go1⟩ := Sd.draws I (I.ok.hd hc) n n i (Nat.le_refl _) d1 o1 h1 hqx
    obtain ⟨fp2, m2, P2, S2, D2, s2, e2, mem2, sub2, rel2, go2⟩ := Sd.draws I (I.ok.hd hc) n (n + 1) i (Nat.le_succ _) d2 o2 h2 hqy
    have S : ZipSep2 (n + 4) (n + 2) (n + 3) n (n + 1) fp1 fp2 := sep_of n mem1 sub1 mem2 sub2
    exact wpAny_pyNext_zipD2_end S D1 D2 hz hTI hTO s1 s2 (by omega) (by omega) (by omega) fun h' tk hk => ⟨rfl, I.turnedL (t' := tk) (ch := [n + 4, n + 2, n + 3, n, n + 1]) (fun c o hb q =>
      hk c o (fun q' => hb (by simp [q'])) (fun q' => hb (by simp [q'])) (fun q' => hb (by simp [q'])) (fun q' => hb (by simp [q'])) q) hf⟩
  self := fun A i s Q E st h => wpAny_pyIter_zip st.1 h
end DL

/-! Data layer, twelfth part: sets of numbers and texts; sorted(set(x)), len(set(x)). -/
namespace DL
open PySem L2 PySem.Spec PyProof.Rows

/-! ### values that are keys, and sets of them -/
def kyOf (v : Value) : Key := match v with
  | .int k _ => .inl k
  | .str x _ => .inr x
  | _ => .inl 0
inductive Ky : Value → Prop
  | int (i : Int) (t : Tok) : Ky (.int i t)
  | str (x : Str) (t : Tok) : Ky (.str x t)
theorem Ky.is (P : Program) (w : World) : ∀ {v : Value}, Ky v → (mixKind P w).is (kyOf v) v = true
  | _, .int i t => mixKind_int P w i t
  | _, .str x t => mixKind_str P w x t
theorem Ky.iff {P : Program} {w : World} {v : Value} (h : Ky v) (k : Key) : (mixKind P w).is k v = true ↔ kyOf v = k :=
  ⟨fun z => (mixKind P w).inj v _ _ (h.is P w) z, fun z => z ▸ h.is P w⟩
theorem Ky.scan : ∀ {v : Value}, Ky v → v.scannable = true
  | _, .int _ _ => rfl
  | _, .str _ _ => rfl
abbrev kyE (e : Int × Value) : Key := kyOf e.2
def Ent (P : Program) (w : World) (e : Int × Value) : Prop := Ky e.2 ∧ e.1 = (mixKind P w).hash (kyOf e.2)
theorem ent_elems {P : Program} {w : World} {l : List (Int × Value)} (g : ∀ e ∈ l, Ent P w e) : ElemsOf (mixKind P w) l := fun e he =>
  ⟨⟨_, (g e he).1.is P w, (g e he).2⟩, (g e he).1.scan⟩
theorem ent_mem {P : Program} {w : World} {l : List (Int × Value)} (g : ∀ e ∈ l, Ent P w e) (k : Key) : k ∈ l.map kyE ↔ ∃ e ∈ l, (mixKind P w).is k e.2 = true := by
  rw [List.mem_map]
  exact ⟨fun ⟨e, he, q⟩ => ⟨e, he, ((g e he).1.iff k).2 q⟩, fun ⟨e, he, q⟩ => ⟨e, he, ((g e he).1.iff k).1 q⟩⟩
/-- the table's own part -/
structure Tab (P : Program) (w : World) (es : Array (Int × Value)) (t : SetTable) : Prop where
  ent : ∀ e ∈ es.toList, Ent P w e
  nod : (es.toList.map kyE).Nodup
  fit : t.fits es.size = true
  ris : Ris t.place.toList
  led : w.params.followText "set-order" = true ∨ t.led = true
/-- the set at a: its members are those of ks -/
def SetM (P : Program) (w : World) (h : Heap) (a : Addr) (ks : List Key) : Prop :=
  ∃ o es ep t, h.get? a = some o ∧ o.ExactSet ∧ o.data = .set es ep t ∧ Tab P w es t ∧ (∀ k, k ∈ es.toList.map kyE ↔ k ∈ ks) ∧ es.size ≤ ks.length ∧ ks.length < scanBound
section
variable {P : Program} {w : World} {h h' : Heap} {a : Addr} {ks : List Key}
theorem SetM.at (R : SetM P w h a ks) (k : ∀ o, h.get? a = some o → h'.get? a = some o) : SetM P w h' a ks := by
  obtain ⟨o, es, ep, t, ho, r⟩ := R
  exact ⟨o, es, ep, t, k o ho, r⟩
theorem SetM.nil (ho : h.get? a = some { cls := .type "set", dict := none, data := .set #[] 0 (.fresh 0 0 (!w.params.followText "set-order")) }) : SetM P w h a [] := by
  refine ⟨_, _, _, _, ho, ⟨rfl, rfl, rfl⟩, rfl, ⟨fun e he => by simp at he, by simp, rfl, List.Pairwise.nil, ?_⟩, fun k => by simp, Nat.le_refl _, by decide⟩
  show _ ∨ (!w.params.followText "set-order") = true
  cases w.params.followText "set-order"
  · exact .inr rfl
  · exact .inl rfl
end
section
variable {P : Program} {w : World} {A : Around} {E : Value → Shared → Prop} {s : Shared} {a : Addr} {ks : List Key}
theorem setM_tail {g : Bool → Sem Unit} (hg : ∀ (b : Bool) (s₁ : Shared) (Q' : Unit → Shared → Prop), Q' () s₁ → wpAny (model P w) A (g b) Q' E s₁)
    {o : Obj} {es : Array (Int × Value)} {ep : Nat} {t : SetTable} (ho : s.heap.get? a = some o) (hex : o.ExactSet) (hd : o.data = .set es ep t)
    {es1 : Array (Int × Value)} {t2 : SetTable} {ks' : List Key} (T : Tab P w es1 t2) (m1 : ∀ k, k ∈ es1.toList.map kyE ↔ k ∈ ks') (hn : es1.size ≤ ks'.length) (hb : ks'.length < scanBound) {wasDummy : Bool} {R : Option Bool → Shared → Prop}
    (hR : ∀ h', Heap.SameBut a s.heap h' → SetM P w h' a ks' → R (some true) { s with heap := h' }) :
    wpAny (model P w) A (do
        storeSet a es1 t2
        if (!wasDummy && t2.tooFull) = true then do
            g (relayAll t2 es1 (SetTable.grown es1.size)).2.2
            storeSet a (relayAll t2 es1 (SetTable.grown es1.size)).1 (relayAll t2 es1 (SetTable.grown es1.size)).2.1
            pure (some true)
          else pure (some true)) R E s := by
  have hb1 : es1.size < scanBound := Nat.lt_of_le_of_lt hn hb
  refine wpAny_bind (wpAny_storeSet_of ho hd ?_ (fits_of_scanBound hb1))
  have ho1 := store_at (es' := es1) (t' := t2) ho hd
  have sb1 := Heap.SameBut.update s.heap a (Obj.putSet es1 t2)
  split
  · have pm := relayAll_perm t2 es1 (SetTable.grown es1.size)
    have q1 := relayAll_fits t2 es1 (SetTable.grown es1.size)
    have q2 := relayAll_ris t2 es1 (SetTable.grown es1.size)
    have q3 := relayAll_led t2 es1 (SetTable.grown es1.size)
    generalize relayAll t2 es1 (SetTable.grown es1.size) = Z at pm q1 q2 q3 ⊢
    obtain ⟨es2, t3, gave⟩ := Z
    dsimp only at pm q1 q2 q3 ⊢
    have hsz : es2.size = es1.size := by rw [← Array.length_toList, pm.length_eq, Array.length_toList]
    refine wpAny_bind (hg _ _ _ ?_)
    refine wpAny_bind (wpAny_storeSet_of ho1 rfl ?_ (fits_of_scanBound (by omega)))
    have ho2 := store_at (es' := es2) (t' := t3) ho1 rfl
    refine wpAny_pure (hR _ (sb1.trans (Heap.SameBut.update _ a _)) ⟨_, es2, _, t3, ho2, hex, rfl, ⟨fun e he => T.ent e (pm.mem_iff.mp he), (pm.map kyE).nodup_iff.mpr T.nod, q1, q2, ?_⟩, fun k => (pm.map kyE).mem_iff.trans (m1 k), by omega, hb⟩)
    rcases T.led with z | z
    · exact .inl z
    · exact .inr (by rw [q3]; exact z)
  · exact wpAny_pure (hR _ sb1 ⟨_, es1, _, t2, ho1, hex, rfl, T, m1, hn, hb⟩)

theorem setM_add {v : Value} (kv : Ky v) {Q : Bool → Shared → Prop} (R : SetM P w s.heap a ks) (room : ks.length + 1 < scanBound)
    (hQ : ∀ b h', Heap.SameBut a s.heap h' → SetM P w h' a (ks ++ [kyOf v]) → Q b { s with heap := h' }) :
    wpAny (model P w) A (setAddHashed a v ((mixKind P w).hash (kyOf v))) Q E s := by
  obtain ⟨o, es, ep, t, ho, hex, hd, T, hm, hn, hb⟩ := R
  have hkey : (mixKind P w).is (kyOf v) v = true := kv.is P w
  have hel : ElemsOf (mixKind P w) es.toList := ent_elems T.ent
  have hb0 : es.size < scanBound := Nat.lt_of_le_of_lt hn hb
  have hlen : (ks ++ [kyOf v]).length = ks.length + 1 := by rw [List.length_append]; rfl
  unfold setAddHashed setAddHashedIn
  refine wpAny_holding (wpAny_bind (wpAny_setState_of ho hd T.fit ?_))
  dsimp only
  rw [byScan_of kv.scan hb0 hel]
  simp only [↓reduceIte]
  unfold setAddByScan
  refine wpAny_bind (wpAny_bind (wpAny_rule (wpAny_bind (wpAny_setScan_of hkey ho hd T.fit hel ?_))))
  cases hfi : List.findIdx? (fun e => (mixKind P w).is (kyOf v) e.2) es.toList with
  | some j =>
    dsimp only
    obtain ⟨hj, pj, _⟩ := List.findIdx?_eq_some_iff_getElem.mp hfi
    have hin : kyOf v ∈ ks := (hm _).1 ((ent_mem T.ent _).2 ⟨es.toList[j], List.getElem_mem hj, pj⟩)
    refine wpAny_pure (wpAny_pure (hQ _ s.heap (Heap.SameBut.refl a s.heap) ⟨o, es, ep, t, ho, hex, hd, T, fun k => ?_, by omega, by omega⟩))
    rw [hm k, List.mem_append, List.mem_singleton]
    exact ⟨.inl, fun z => z.elim id fun e => e ▸ hin⟩
  | none =>
    dsimp only
    have hnk : kyOf v ∉ es.toList.map kyE := fun z => by
      obtain ⟨e, he, q⟩ := (ent_mem (P := P) (w := w) T.ent _).1 z
      have c := List.findIdx?_eq_none_iff.mp hfi e he
      rw [q] at c
      cases c
    have hgw : ∀ (b : Bool) {s₁ : Shared} {Q' : Unit → Shared → Prop}, Q' () s₁ → wpAny (model P w) A (match b with | true => rule "set.scan.the-table-gave-way" | false => pure ()) Q' E s₁ :=
      fun b s₁ Q' q => by cases b <;> first | exact wpAny_pure q | exact wpAny_rule q
    have pm := layNew_perm t es ((mixKind P w).hash (kyOf v)) v
    have q1 := layNew_fits t es ((mixKind P w).hash (kyOf v)) v
    have q2 := layNew_ris t es ((mixKind P w).hash (kyOf v)) v T.ris
    have q3 := layNew_led t es ((mixKind P w).hash (kyOf v)) v
    generalize layNew t es ((mixKind P w).hash (kyOf v)) v = Z at pm q1 q2 q3 ⊢
    obtain ⟨es1, t1, wasDummy, gave⟩ := Z
    dsimp only at pm q1 q2 q3 ⊢
    rw [Array.toList_push] at pm
    have pc : es1.toList.Perm (((mixKind P w).hash (kyOf v), v) :: es.toList) := pm.trans (List.perm_append_singleton _ _)
    have pk : (es1.toList.map kyE).Perm (kyOf v :: es.toList.map kyE) := pc.map kyE
    have hsz : es1.size = es.size + 1 := by rw [← Array.length_toList, pc.length_eq, List.length_cons, Array.length_toList]
    have T1 : Tab P w es1 t1 := ⟨fun e he => (List.mem_cons.mp (pc.mem_iff.mp he)).elim (fun z => z ▸ ⟨kv, rfl⟩) (T.ent e), pk.nodup_iff.mpr (List.nodup_cons.mpr ⟨hnk, T.nod⟩), q1, q2, T.led.imp id fun z => by rw [q3]; exact z⟩
    have m1 : ∀ k, k ∈ es1.toList.map kyE ↔ k ∈ ks ++ [kyOf v] := fun k => by
      rw [pk.mem_iff, List.mem_cons, List.mem_append, List.mem_singleton, hm k]
      exact Or.comm
    refine wpAny_bind (hgw _ ?_)
    split
    · refine wpAny_bind ?_
      rw [hashByValue_scannable 8 kv.scan]
      refine wpAny_pure ?_
      refine setM_tail (ks' := ks ++ [kyOf v]) ?_ ho hex hd (es1 := es1) ?_ m1 (by omega) (by omega) ?_
      · intro b s₁ Q' q; cases b <;> first | exact wpAny_pure q | exact wpAny_rule q
      · refine ⟨T1.ent, T1.nod, ?_, ?_, ?_⟩
        · first | (split <;> first | exact q1 | exact SetTable.fits_plain_off q1) | exact q1
        · first | (split <;> exact T1.ris) | exact T1.ris
        · first | (split <;> exact T1.led) | exact T1.led
      · intro h' sb r; dsimp only; exact wpAny_pure (hQ _ h' sb r)
    · refine wpAny_bind (wpAny_pure ?_)
      simp only [↓reduceIte]
      refine setM_tail (ks' := ks ++ [kyOf v]) ?_ ho hex hd T1 m1 (by omega) (by omega) ?_
      · intro b s₁ Q' q; cases b <;> first | exact wpAny_pure q | exact wpAny_rule q
      · intro h' sb r; dsimp only; exact wpAny_pure (hQ _ h' sb r)
end

/-! ### set(x) of a row of keys -/
section
variable {P : Program} {w : World} {A : Around} {E : Value → Shared → Prop} {s : Shared}
theorem setM_loop {I : Addr} {fp wr : List Addr} {G : Array GenState → Array GenState → Prop} {n : Nat} {Pv : Nat → Value → Prop} {St : Nat → Shared → Prop} {R : Result → Shared → Prop}
    (W : WalksS P w A.in1 I fp wr G n Pv St) (S : Addr) (nS : S ∉ fp) (vs : List Value) (hn : n = vs.length) (hk : ∀ v ∈ vs, Ky v) (hb : vs.length + 1 < scanBound) (hval : ∀ i v, Pv i v → vs[i]? = some v) :
    ∀ (k i : Nat) (s : Shared), n - i = k → i ≤ n → St i s → SetM P w s.heap S ((vs.take i).map kyOf) → (∀ s', Moved (S :: wr) G s s' → SetM P w s'.heap S (vs.map kyOf) → R (.ok (.ret .none)) s') →
      codeAny (model P w) A (.builtin "set.update.loop" ⟨[.ref S, .ref I], []⟩) R s := by
  have nw : S ∉ wr := fun h => nS (W.sub _ h)
  have up : ∀ b ∈ wr, b ∈ S :: wr := fun b hb => List.mem_cons_of_mem _ hb
  intro k
  induction k with
  | zero =>
    intro i s e le st M fin
    obtain rfl : i = n := by omega
    refine codeAny_builtin F.entry_set_update_loop ?_
    rw [Around.under_plainId F.plain_set_update_loop _]
    refine wpAny_bind (m := pyNext (.ref I)) (W.done s _ _ st fun s' hm => ?_)
    rw [List.take_of_length_le (by omega)] at M
    exact wpAny_pure (fin s' (hm.mono up) (M.at fun o e => hm.heap S o nw e))
  | succ k ih =>
    intro i s e le st M fin
    have lt : i < n := by omega
    refine codeAny_builtin F.entry_set_update_loop ?_
    rw [Around.under_plainId F.plain_set_update_loop _]
    refine wpAny_bind (m := pyNext (.ref I)) (W.item i s _ _ lt st fun v s' pv st' hm => ?_)
    have hv := hval i v pv
    have kv : Ky v := hk v (List.mem_of_getElem? hv)
    have M1 : SetM P w s'.heap S ((vs.take i).map kyOf) := M.at fun o e => hm.heap S o nw e
    refine wpAny_bind (m := holding [v] (setAdd S v)) (wpAny_holding ?_)
    unfold setAdd
    refine wpAny_holding (wpAny_bind ((mixKind P w).pyHash (k := kyOf v) (kv.is P w) ?_))
    have room : ((vs.take i).map kyOf).length + 1 < scanBound := by rw [List.length_map, List.length_take]; omega
    refine setM_add (s := { s' with toks := s'.toks + 1 }) kv M1 room fun b h' sb M2 => ?_
    have M3 : SetM P w h' S ((vs.take (i + 1)).map kyOf) := by
      rw [List.take_add_one, hv, List.map_append]
      exact M2
    refine wpAny_pure ⟨plainId_quiet F.plain_set_update_loop _, ih (i + 1) _ (by omega) lt (W.frame _ s' _ _ st' (Nat.le_succ _) fun c hc o e => ?_) M3 fun s2 hm2 M4 => ?_⟩
    · rw [sb.2 c (fun z : c = S => nS (by rw [← z]; exact hc))]; exact e
    · refine fin s2 (Moved.trans W.gtrans ((hm.mono up).then_heap (Nat.le_succ _) fun c o hc e => ?_) hm2) M4
      rw [sb.2 c (fun z : c = S => hc (by rw [z]; exact List.mem_cons_self))]; exact e
abbrev set0O (w : World) : Obj := { cls := .type "set", dict := none, data := .set #[] 0 (.fresh 0 0 (!w.params.followText "set-order")) }

theorem call_setM_tuple {l : Addr} {items : Array Value} {Q : Value → Shared → Prop} (hh : A.handled = none) (hl : s.heap.IsTuple l items) (hk : ∀ v ∈ items.toList, Ky v) (hb : items.size + 1 < scanBound)
    (q : ∀ (h' : Heap) (tk : Nat), SetM P w h' s.heap.objs.size (items.toList.map kyOf) → (∀ b o, s.heap.get? b = some o → h'.get? b = some o) → Q (.ref s.heap.objs.size) { s with heap := h', toks := tk }) :
    wpAny (model P w) A (call (.type "set") [.ref l]) Q E s := by
  obtain ⟨c, tl, hmro⟩ := F.called_set.mro
  have a1 := F.called_set.made
  have a2 := F.called_set.sub
  refine wpAny_call (codeAny_of_tree ?_)
  change wpAny (model P w) _ (callAny (.type "set") _) _ _ s
  refine wpAny_pure ⟨Code.quiet_builtin _ (by decide +kernel), codeAny_builtin F.entry_type_call ?_⟩
  rw [Around.under_plain (weight_type_call_type "set" [.ref l] []) rfl]
  have a3 := F.called_set.notType
  have a4 := F.called_set.canCreate
  have a5 := F.typeCall_set_1 (.ref l)
  repeat (any_goals (first | assumption | wp_step))
  refine codeAny_mono (code_set_led1 (.ref l) (E := E) (Q₁ := fun ob s1 => ob = .ref s.heap.objs.size ∧ s1 = { s with heap := s.heap.push (set0O w) }) ⟨rfl, rfl⟩) fun r s1 hr => ?_
  cases r with
  | error e => exact hr
  | ok fl =>
    cases fl with
    | ret ob =>
      obtain ⟨rfl, rfl⟩ := hr
      have hS : (s.heap.push (set0O w)).get? s.heap.objs.size = some (set0O w) := Heap.get?_push_size _ rfl
      have hT : Shared.TypeIs { s with heap := s.heap.push (set0O w) } (.ref s.heap.objs.size) "set" := ⟨_, hS, rfl⟩
      have b1 := F.called_set.init.lookup
      have b2 := F.called_set.init.bind (.ref s.heap.objs.size)
      repeat (any_goals (first | assumption | wp_step))
      refine codeAny_mono (codeAny_call_builtin (R := wants (fun r s2 => r = .none ∧ ∃ h' tk, s2 = { s with heap := h', toks := tk } ∧ SetM P w h' s.heap.objs.size (items.toList.map kyOf) ∧ ∀ b o, s.heap.get? b = some o → h'.get? b = some o) E)
        F.called_set.init.plain F.entry_set_init (check_set_init_1 hT ?_)) fun r2 s2 hr2 => ?_
      · obtain ⟨ol, hol, hcl, nl, hdl⟩ := hl
        obtain ⟨oc, od, oda, osl⟩ := ol
        simp only at hcl hdl
        subst hcl; subst hdl
        have hol' : (s.heap.push (set0O w)).get? l = some { cls := .type "tuple", dict := od, data := .seq items nl, slots := osl } := Heap.get?_push_of_some _ hol
        have c1 := PySem.F.sub_tuple_set
        have c2 := PySem.F.sub_tuple_frozenset
        have c3 : (Value.type "tuple" == Value.type "dict") = false := by decide
        have hl1 : (s.heap.push (set0O w)).IsTuple l items := ⟨_, hol', rfl, nl, rfl⟩
        unfold Builtin.«set.__init__» noKeywords Builtin.Frozenset.updateFrom
        generalize hPI : pyIter = PI
        wp_walk
        subst hPI
        refine wpAny_pyIter_tuple hl1 (wpAny_bind (wpAny_runValue ?_))
        have lS : l < s.heap.objs.size := Heap.lt_size hol
        have zS : (s.heap.push (set0O w)).objs.size = s.heap.objs.size + 1 := Heap.size_push ..
        have nI : l ≠ (s.heap.push (set0O w)).objs.size := by rw [zS]; exact Nat.ne_of_lt (Nat.lt_succ_of_lt lS)
        have nS : s.heap.objs.size ∉ [(s.heap.push (set0O w)).objs.size, l] := by
          rw [zS]; simp only [List.mem_cons, List.not_mem_nil, or_false, not_or]
          exact ⟨Nat.ne_of_lt (Nat.lt_succ_self _), Nat.ne_of_gt lS⟩
        refine setM_loop ((Walks.tuple (A := A.in1.in1.in1) (by simp [hh]) _ l nI items).toS) s.heap.objs.size nS items.toList (by rw [Array.length_toList]) hk (by rw [Array.length_toList]; exact hb) (fun i v pv => by rw [Array.getElem?_toList]; exact pv)
          (items.size - 0) 0 _ (by omega) (Nat.zero_le _) ⟨⟨_, Heap.get?_push_size _ rfl, rfl, rfl⟩, hl1.push _⟩ (SetM.nil (Heap.get?_push_of_some _ hS)) fun s' hm M => ?_
        obtain ⟨h', g2, d', tk', os'⟩ := s'
        obtain rfl : g2 = s.gens := hm.gens
        obtain rfl : d' = s.drawn := hm.drawn
        obtain rfl : os' = s.os := hm.os
        refine wpAny_pure ?_
        refine wpAny_pure ⟨rfl, h', tk', rfl, M, fun b o e => ?_⟩
        have h0 : b < s.heap.objs.size := Heap.lt_size e
        refine hm.heap b o ?_ (Heap.get?_push_of_some _ (Heap.get?_push_of_some _ e))
        simp only [List.mem_cons, List.not_mem_nil, or_false, not_or]
        exact ⟨Nat.ne_of_lt h0, by rw [zS]; exact Nat.ne_of_lt (Nat.lt_succ_of_lt h0)⟩
      · cases r2 with
        | error e => exact hr2
        | ok fl2 =>
          cases fl2 with
          | ret r =>
            obtain ⟨rfl, h', tk, rfl, M, k⟩ := hr2
            repeat (any_goals (first | assumption | wp_step))
            exact q _ _ M k
          | _ => exact hr2.elim
    | _ => exact hr.elim

theorem call_setM_list {l : Addr} {items : Array Value} {Q : Value → Shared → Prop} (hh : A.handled = none) (hl : s.heap.IsList l items) (hk : ∀ v ∈ items.toList, Ky v) (hb : items.size + 1 < scanBound)
    (q : ∀ (h' : Heap) (tk : Nat), SetM P w h' s.heap.objs.size (items.toList.map kyOf) → (∀ b o, s.heap.get? b = some o → h'.get? b = some o) → Q (.ref s.heap.objs.size) { s with heap := h', toks := tk }) :
    wpAny (model P w) A (call (.type "set") [.ref l]) Q E s := by
  obtain ⟨c, tl, hmro⟩ := F.called_set.mro
  have a1 := F.called_set.made
  have a2 := F.called_set.sub
  refine wpAny_call (codeAny_of_tree ?_)
  change wpAny (model P w) _ (callAny (.type "set") _) _ _ s
  refine wpAny_pure ⟨Code.quiet_builtin _ (by decide +kernel), codeAny_builtin F.entry_type_call ?_⟩
  rw [Around.under_plain (weight_type_call_type "set" [.ref l] []) rfl]
  have a3 := F.called_set.notType
  have a4 := F.called_set.canCreate
  have a5 := F.typeCall_set_1 (.ref l)
  repeat (any_goals (first | assumption | wp_step))
  refine codeAny_mono (code_set_led1 (.ref l) (E := E) (Q₁ := fun ob s1 => ob = .ref s.heap.objs.size ∧ s1 = { s with heap := s.heap.push (set0O w) }) ⟨rfl, rfl⟩) fun r s1 hr => ?_
  cases r with
  | error e => exact hr
  | ok fl =>
    cases fl with
    | ret ob =>
      obtain ⟨rfl, rfl⟩ := hr
      have hS : (s.heap.push (set0O w)).get? s.heap.objs.size = some (set0O w) := Heap.get?_push_size _ rfl
      have hT : Shared.TypeIs { s with heap := s.heap.push (set0O w) } (.ref s.heap.objs.size) "set" := ⟨_, hS, rfl⟩
      have b1 := F.called_set.init.lookup
      have b2 := F.called_set.init.bind (.ref s.heap.objs.size)
      repeat (any_goals (first | assumption | wp_step))
      refine codeAny_mono (codeAny_call_builtin (R := wants (fun r s2 => r = .none ∧ ∃ h' tk, s2 = { s with heap := h', toks := tk } ∧ SetM P w h' s.heap.objs.size (items.toList.map kyOf) ∧ ∀ b o, s.heap.get? b = some o → h'.get? b = some o) E)
        F.called_set.init.plain F.entry_set_init (check_set_init_1 hT ?_)) fun r2 s2 hr2 => ?_
      · obtain ⟨ol, hol, hcl, nl, hdl⟩ := hl
        obtain ⟨oc, od, oda, osl⟩ := ol
        simp only at hcl hdl
        subst hcl; subst hdl
        have hol' : (s.heap.push (set0O w)).get? l = some { cls := .type "list", dict := od, data := .seq items nl, slots := osl } := Heap.get?_push_of_some _ hol
        have c1 := PySem.F.sub_list_set
        have c2 := PySem.F.sub_list_frozenset
        have c3 : (Value.type "list" == Value.type "dict") = false := by decide
        have hl1 : (s.heap.push (set0O w)).IsList l items := ⟨_, hol', rfl, nl, rfl⟩
        unfold Builtin.«set.__init__» noKeywords Builtin.Frozenset.updateFrom
        generalize hPI : pyIter = PI
        wp_walk
        subst hPI
        refine wpAny_pyIter_list hl1 (wpAny_bind (wpAny_runValue ?_))
        have lS : l < s.heap.objs.size := Heap.lt_size hol
        have zS : (s.heap.push (set0O w)).objs.size = s.heap.objs.size + 1 := Heap.size_push ..
        have nI : l ≠ (s.heap.push (set0O w)).objs.size := by rw [zS]; exact Nat.ne_of_lt (Nat.lt_succ_of_lt lS)
        have nS : s.heap.objs.size ∉ [(s.heap.push (set0O w)).objs.size, l] := by
          rw [zS]; simp only [List.mem_cons, List.not_mem_nil, or_false, not_or]
          exact ⟨Nat.ne_of_lt (Nat.lt_succ_self _), Nat.ne_of_gt lS⟩
        refine setM_loop ((Walks.list (A := A.in1.in1.in1) (by simp [hh]) _ l nI items).toS) s.heap.objs.size nS items.toList (by rw [Array.length_toList]) hk (by rw [Array.length_toList]; exact hb) (fun i v pv => by rw [Array.getElem?_toList]; exact pv)
          (items.size - 0) 0 _ (by omega) (Nat.zero_le _) ⟨⟨_, Heap.get?_push_size _ rfl, rfl, rfl⟩, hl1.push _⟩ (SetM.nil (Heap.get?_push_of_some _ hS)) fun s' hm M => ?_
        obtain ⟨h', g2, d', tk', os'⟩ := s'
        obtain rfl : g2 = s.gens := hm.gens
        obtain rfl : d' = s.drawn := hm.drawn
        obtain rfl : os' = s.os := hm.os
        refine wpAny_pure ?_
        refine wpAny_pure ⟨rfl, h', tk', rfl, M, fun b o e => ?_⟩
        have h0 : b < s.heap.objs.size := Heap.lt_size e
        refine hm.heap b o ?_ (Heap.get?_push_of_some _ (Heap.get?_push_of_some _ e))
        simp only [List.mem_cons, List.not_mem_nil, or_false, not_or]
        exact ⟨Nat.ne_of_lt h0, by rw [zS]; exact Nat.ne_of_lt (Nat.lt_succ_of_lt h0)⟩
      · cases r2 with
        | error e => exact hr2
        | ok fl2 =>
          cases fl2 with
          | ret r =>
            obtain ⟨rfl, h', tk, rfl, M, k⟩ := hr2
            repeat (any_goals (first | assumption | wp_step))
            exact q _ _ M k
          | _ => exact hr2.elim
    | _ => exact hr.elim
end
end DL

/-! Data layer, thirteenth part: sorted(set(x)), len(set(x)); sorted rows of texts are one. -/
namespace DL
open PySem L2 PySem.Spec PyProof.Rows

/-! ### sorted rows of texts -/
def LeS (a b : Str) : Prop := a.cps.toList ≤ b.cps.toList
theorem leS_trans {a b c : Str} (h : LeS a b) (h' : LeS b c) : LeS a c := List.le_trans h h'
theorem leS_anti {a b : Str} (h : LeS a b) (h' : LeS b a) : a = b := by
  have e : a.cps.toList = b.cps.toList := List.le_antisymm h h'
  obtain ⟨⟨a⟩⟩ := a
  obtain ⟨⟨b⟩⟩ := b
  simp only at e
  rw [e]
theorem leS_of {a b : Str} (h : (!ltCps b.cps.toList a.cps.toList) = true) : LeS a b := by
  rw [ltCps_eq] at h
  have h2 : ¬ b.cps.toList < a.cps.toList := by simpa using h
  exact h2
theorem pw_of_rising : ∀ (l : List Str) (p : Str), risingS p l = true → (p :: l).Pairwise LeS
  | [], p, _ => List.pairwise_singleton _ _
  | x :: r, p, h => by
    have h' : (!ltCps x.cps.toList p.cps.toList && risingS x r) = true := h
    rw [Bool.and_eq_true] at h'
    have ih := pw_of_rising r x h'.2
    have hx := leS_of h'.1
    refine List.pairwise_cons.mpr ⟨fun y hy => ?_, ih⟩
    rcases List.mem_cons.mp hy with rfl | hy
    · exact hx
    · exact leS_trans hx ((List.pairwise_cons.mp ih).1 y hy)
theorem pw_of_sorted : ∀ (l : List Str), sortedS l = true → l.Pairwise LeS
  | [], _ => List.Pairwise.nil
  | x :: r, h => pw_of_rising r x h
theorem sorted_one {a b : List Str} (ha : sortedS a = true) (hb : sortedS b = true) (p : a.Perm b) : a = b :=
  p.eq_of_pairwise (fun x y _ _ h h' => leS_anti h h') (pw_of_sorted a ha) (pw_of_sorted b hb)
/-- the texts of xs, each once, ascending -/
def IsSd (xs ys : List Str) : Prop := sortedS ys = true ∧ ys.Nodup ∧ ∀ z, z ∈ ys ↔ z ∈ xs
theorem IsSd.one {xs ys zs : List Str} (h : IsSd xs ys) (h' : IsSd xs zs) : ys = zs :=
  sorted_one h.1 h'.1 ((List.perm_ext_iff_of_nodup h.2.1 h'.2.1).mpr fun z => (h.2.2 z).trans (h'.2.2 z).symm)
/-- the numbers of ns, each once, ascending -/
def IsSdI (ns ms : List Int) : Prop := ms.Pairwise (· < ·) ∧ ∀ k, k ∈ ms ↔ k ∈ ns
theorem IsSdI.one {xs ys zs : List Int} (h : IsSdI xs ys) (h' : IsSdI xs zs) : ys = zs :=
  ((List.perm_ext_iff_of_nodup (h.1.imp fun q => Int.ne_of_lt q) (h'.1.imp fun q => Int.ne_of_lt q)).mpr fun z => (h.2 z).trans (h'.2 z).symm).eq_of_pairwise (fun a b _ _ q q' => absurd q' (Int.lt_asymm q)) h.1 h'.1

/-! ### sorted(s), len(s) -/
section
variable {P : Program} {w : World} {A : Around} {E : Value → Shared → Prop} {s : Shared} {a : Addr}
theorem nodup_of_map' {α β : Type} {f : α → β} {l : List α} (h : (l.map f).Nodup) : l.Nodup := List.Pairwise.of_map f (fun _ _ ne e => ne (congrArg f e)) h
theorem sorted_setM {ks : List Key} {Q : Value → Shared → Prop} (R : SetM P w s.heap a ks) (hh : A.handled = none)
    (q : (∃ xs : List Str, ks = xs.map Sum.inr ∧ ∀ s' p (out : Array Value) (c : Nat) (ys : List Str), (∀ b o, s.heap.get? b = some o → s'.heap.get? b = some o) → s'.gens = s.gens → s'.os = s.os → s.heap.objs.size ≤ p →
        s'.heap.get? p = some (seqObj "list" out c) → StrsAre out.toList ys → IsSd xs ys → ys.length ≤ ks.length → Q (.ref p) s') ∨
      ∃ xs : List Int, ks = xs.map Sum.inl ∧ ∀ s' p (out : Array Value) (c : Nat) (ys : List Int), (∀ b o, s.heap.get? b = some o → s'.heap.get? b = some o) → s'.gens = s.gens → s'.os = s.os → s.heap.objs.size ≤ p →
        s'.heap.get? p = some (seqObj "list" out c) → IntsAre out.toList ys → IsSdI xs ys → ys.length ≤ ks.length → Q (.ref p) s') :
    wpAny (model P w) A (call (.builtin "sorted") [.ref a]) Q E s := by
  obtain ⟨o, es, ep, t, ho, hex, hd, T, hm, hn, hb⟩ := R
  refine Calls.call_function_entry kind_sorted plain_sorted entry_sorted (args_sorted1 _) ?_
  unfold Builtin.«sorted»
  refine wpAny_bind (m := checkCount "sorted" 1 1 _) (wpAny_pure ?_)
  refine wpAny_bind (collect_set (A := A.in1) hh ⟨o, ho, hex.1, hd⟩ T.fit (Nat.lt_of_le_of_lt hn hb) T.ris T.led fun s1 vs k1 hz g1 o1 pm => ?_)
  have vl : vs.length ≤ ks.length := by rw [pm.length_eq, List.length_map, Array.length_toList]; exact hn
  have pk : (vs.map kyOf).Perm (es.toList.map kyE) := by
    have z := pm.map kyOf
    rw [List.map_map] at z
    exact z
  have kv : ∀ v ∈ vs, Ky v := fun v hv => by
    obtain ⟨e, he, z⟩ := List.mem_map.mp (pm.mem_iff.mp hv)
    rw [← z]; exact (T.ent e he).1
  have vn : (vs.map kyOf).Nodup := pk.nodup_iff.mpr T.nod
  have vm : ∀ k, k ∈ vs.map kyOf ↔ k ∈ ks := fun k => pk.mem_iff.trans (hm k)
  have vz : vs.length ≤ sizeLine := Nat.le_trans vl (Nat.le_of_lt (Nat.lt_of_lt_of_le hb (by decide)))
  refine wpAny_bind (wpAny_newList ?_ vz)
  have hoL : (s1.heap.push (seqObj "list" vs.toArray 0)).get? s1.heap.objs.size = some (seqObj "list" vs.toArray 0) := Heap.get?_push_size _ rfl
  have old : ∀ (out : Array Value) b u, s.heap.get? b = some u → (sortedHeap (s1.heap.push (seqObj "list" vs.toArray 0)) s1.heap.objs.size vs out).get? b = some u := fun out b u e => by
    have z := k1 b u e
    have lt := Heap.lt_size z
    rw [sortedHeap_old (Nat.ne_of_lt lt) (by rw [size_push']; exact Nat.lt_succ_of_lt lt)]
    exact Heap.get?_push_of_some _ z
  rcases q with ⟨xs, rfl, q⟩ | ⟨xs, rfl, q⟩
  · have all : ∀ v ∈ vs, ∃ x t, v = .str x t := fun v hv => by
      have hk := (vm (kyOf v)).1 (List.mem_map_of_mem hv)
      obtain ⟨x, _, ex⟩ := List.mem_map.mp hk
      cases kv v hv with
      | int i t => cases ex
      | str x t => exact ⟨x, t, rfl⟩
    have hS := strsAre_map vs all
    have ek : (vs.map strOf).map Sum.inr = vs.map kyOf := by
      rw [List.map_map]
      refine List.map_congr_left fun v hv => ?_
      obtain ⟨x, t, rfl⟩ := all v hv
      rfl
    refine wpAny_bind (wpAny_holding (wpAny_call_entry slot_list_sort ⟨_, hoL, rfl⟩ entry_list_sort
      (list_sort_treeKAny strKind_oneLt hoL hS.keysOf (fun v₁ v₂ rest e => keyKind_strs (by rw [← e]; exact hS)) vz fun st' a1 a2 => ⟨_, rfl, ?_⟩) (args_list_sort _)))
    obtain ⟨ys, g1', g2, g3⟩ := sorted_out_str hS a1 a2
    obtain ⟨c, hc⟩ := sortedHeap_at (vs := vs) (out := (arrOf st').map (·.2)) hoL
    have pi := g2.map (Sum.inr : Str → Key)
    rw [ek] at pi
    refine wpAny_pure ⟨_, rfl, q _ s1.heap.objs.size _ c ys (old _) g1 o1 hz hc g1' ⟨g3, nodup_of_map' (pi.nodup_iff.mpr vn), fun z => ?_⟩ (by rw [g2.length_eq, List.length_map]; exact vl)⟩
    have := (pi.mem_iff (a := Sum.inr z)).trans (vm (Sum.inr z))
    simpa using this
  · have all : ∀ v ∈ vs, ∃ x t, v = .int x t := fun v hv => by
      have hk := (vm (kyOf v)).1 (List.mem_map_of_mem hv)
      obtain ⟨x, _, ex⟩ := List.mem_map.mp hk
      cases kv v hv with
      | int i t => exact ⟨i, t, rfl⟩
      | str x t => cases ex
    have hI := ints_of vs all
    have ek : (vs.map Builtin.Re.reRawOf).map Sum.inl = vs.map kyOf := by
      rw [List.map_map]
      refine List.map_congr_left fun v hv => ?_
      obtain ⟨x, t, rfl⟩ := all v hv
      rfl
    refine wpAny_bind (wpAny_holding (wpAny_call_entry slot_list_sort ⟨_, hoL, rfl⟩ entry_list_sort (list_sort_treeAny hoL hI vz fun out ns' a1 a2 a3 => ⟨_, rfl, ?_⟩) (args_list_sort _)))
    obtain ⟨c, hc⟩ := sortedHeap_at (vs := vs) (out := out) hoL
    have pi := a2.map (Sum.inl : Int → Key)
    rw [ek] at pi
    refine wpAny_pure ⟨_, rfl, q _ s1.heap.objs.size _ c ns' (old _) g1 o1 hz hc a1 ⟨lt_of_le_nodup ns' a3 (nodup_of_map' (pi.nodup_iff.mpr vn)), fun z => ?_⟩ (by rw [a2.length_eq, List.length_map]; exact vl)⟩
    have := (pi.mem_iff (a := Sum.inl z)).trans (vm (Sum.inl z))
    simpa using this
end

/-! ### as rules -/
def SetMO (P : Program) (w : World) (a : Addr) (ks : List Key) : HO := .ext fun h => SetM P w h a ks
theorem setMO_new {P : Program} {w : World} {H : Hp} {h : Heap} {a : Addr} {ks : List Key} (R : SetM P w h a ks) : ObjOk P w H h a (SetMO P w a ks) := by
  have ⟨o, _, _, _, ho, _⟩ := R
  exact ⟨R, ⟨o, ho⟩, fun _ _ p k => SetM.at p k⟩
theorem keys_vals : ∀ {ks : List Key} {us : List Value}, Vals (ks.map kV) us → (∀ v ∈ us, Ky v) ∧ us.map kyOf = ks
  | [], _, .nil => ⟨fun _ h => (by cases h), rfl⟩
  | k :: ks, _, .cons r t => by
    obtain ⟨h1, h2⟩ := keys_vals t
    cases k with
    | inl i =>
      obtain ⟨u, rfl⟩ := r
      exact ⟨fun v hv => (List.mem_cons.mp hv).elim (fun e => e ▸ .int i u) (h1 v), by rw [List.map_cons, h2]; rfl⟩
    | inr x =>
      obtain ⟨u, rfl⟩ := r
      exact ⟨fun v hv => (List.mem_cons.mp hv).elim (fun e => e ▸ .str x u) (h1 v), by rw [List.map_cons, h2]; rfl⟩
section
variable {X : Cx} {k : Nat}
theorem setMO_get {pins : List (Addr × Obj)} {σ : L2.St} {H : Hp} {s : Shared} {a : Addr} {ks : List Key} (I : Inv X pins σ H s) (ha : H a = some (SetMO X.prog X.w a ks)) : SetM X.prog X.w s.heap a ks := (I.hok a _ ha).1
/-- set(x) -/
def rSetM (K : PySem.W.Frag) (P : Program) (w : World) : List V → Hp → VK → Prop := fun xs H Q => ∃ (l : Addr) (ks : List Key), xs = [.ref l] ∧ (SqL K H l (ks.map kV) ∨ SqT K H l (ks.map kV)) ∧ ks.length + 1 < scanBound ∧
  ∀ p, H p = none → Q (.ref p) (upd H p (SetMO P w p ks))
theorem cr_setM (hc : X.calm = true) : CallR X (.type "set") (rSetM X.K X.prog X.w) := by
  intro pins s σ H xs us Q I r h
  obtain ⟨l, ks, rfl, hq, hb, q⟩ := h
  obtain ⟨u, rfl, rx⟩ := vals1 r
  obtain rfl : u = Value.ref l := rx
  have fin : ∀ (its : List Value), its.map kyOf = ks → ∀ (h' : Heap) (tk : Nat), SetM X.prog X.w h' s.heap.objs.size (its.toArray.toList.map kyOf) → (∀ b o, s.heap.get? b = some o → h'.get? b = some o) → EP X pins σ Q (.ref s.heap.objs.size) { s with heap := h', toks := tk } := fun its e h' tk M kp => by
    rw [List.toList_toArray, e] at M
    exact ⟨.ref _, upd H s.heap.objs.size (SetMO X.prog X.w s.heap.objs.size ks), I.laid (t' := tk) kp (Nat.le_refl _) (setMO_new M), rfl, q _ (I.hok.fresh (Nat.le_refl _))⟩
  rcases hq with hq | hq
  · obtain ⟨its, rv, pl, hz⟩ := I.list hq
    obtain ⟨k1, k2⟩ := keys_vals rv
    exact call_setM_list (I.ok.hd hc) pl.isList (by simpa using k1) (by rw [List.size_toArray, ← rv.length, List.length_map]; exact hb) (fin its k2)
  · obtain ⟨its, rv, pl, hz⟩ := I.tuple hq
    obtain ⟨k1, k2⟩ := keys_vals rv
    exact call_setM_tuple (I.ok.hd hc) pl (by simpa using k1) (by rw [List.size_toArray, ← rv.length, List.length_map]; exact hb) (fin its k2)
/-- sorted(s) -/
def rSortedM (P : Program) (w : World) : List V → Hp → VK → Prop := fun vs H Q => ∃ (a : Addr) (ks : List Key), vs = [V.ref a] ∧ H a = some (SetMO P w a ks) ∧
  ((∃ xs : List Str, ks = xs.map Sum.inr ∧ ∀ ys p, IsSd xs ys → H p = none → Q (.ref p) (upd H p (.lst (ys.map V.str)))) ∨
    ∃ xs : List Int, ks = xs.map Sum.inl ∧ ∀ ys p, IsSdI xs ys → H p = none → Q (.ref p) (upd H p (.lst (ys.map V.int))))
theorem cr_sortedM (hc : X.calm = true) : CallR X (.builtin "sorted") (rSortedM X.prog X.w) := by
  intro pins s σ H vs us Q I r h
  obtain ⟨a, ks, rfl, ha, q⟩ := h
  have R := setMO_get I ha
  have hb : ks.length ≤ sizeLine := by
    obtain ⟨_, _, _, _, _, _, _, _, _, _, hb⟩ := R
    exact Nat.le_trans (Nat.le_of_lt hb) (by decide)
  rw [Vals.ref1 r]
  have fin : ∀ (s' : Shared) (p : Addr) (out : Array Value) (c : Nat) (vs : List V), (∀ b o, s.heap.get? b = some o → s'.heap.get? b = some o) → s'.gens = s.gens → s'.os = s.os → s.heap.objs.size ≤ p →
      s'.heap.get? p = some (seqObj "list" out c) → Vals vs out.toList → vs.length ≤ sizeLine → (H p = none → Q (.ref p) (upd H p (.lst vs))) → EP X pins σ Q (.ref p) s' := fun s' p out c vs kp g o hp hg rv hl q => by
    have hn : H p = none := I.hok.fresh hp
    have J : Inv X pins σ (upd H p (.lst vs)) { s with heap := s'.heap, gens := s'.gens, drawn := s'.drawn, toks := s'.toks } :=
      I.call (ch := []) (Un.laid kp hp hn) (I.hok.laid kp hp ⟨hl, out.toList, c, rv, hg⟩) (by rw [g]; exact I.bare) (fun _ z => nomatch z)
    obtain ⟨h', g', d', t', o'⟩ := s'
    obtain rfl : o' = s.os := o
    exact ⟨.ref p, _, J, rfl, q hn⟩
  refine sorted_setM R (I.ok.hd hc) ?_
  rcases q with ⟨xs, rfl, q⟩ | ⟨xs, rfl, q⟩
  · refine .inl ⟨xs, rfl, fun s' p out c ys kp g o hp hg hi hs hl => fin s' p out c _ kp g o hp hg (vals_of_strs hi) ?_ (q ys p hs)⟩
    rw [List.length_map]; omega
  · refine .inr ⟨xs, rfl, fun s' p out c ys kp g o hp hg hi hs hl => fin s' p out c _ kp g o hp hg (vals_of_ints hi) ?_ (q ys p hs)⟩
    rw [List.length_map]; omega
/-- how many unlike ones there are -/
def Many (ks : List Key) (n : Nat) : Prop := ∃ l : List Key, l.Nodup ∧ (∀ k, k ∈ l ↔ k ∈ ks) ∧ l.length = n
theorem Many.one {ks : List Key} {n m : Nat} (h : Many ks n) (h' : Many ks m) : n = m := by
  obtain ⟨l, d, e, rfl⟩ := h
  obtain ⟨l', d', e', rfl⟩ := h'
  exact ((List.perm_ext_iff_of_nodup d d').mpr fun z => (e z).trans (e' z).symm).length_eq
def rLenM (P : Program) (w : World) : List V → Hp → VK → Prop := fun vs H Q => ∃ (a : Addr) (ks : List Key), vs = [V.ref a] ∧ H a = some (SetMO P w a ks) ∧ ∀ n : Nat, Many ks n → Q (.int n) H
theorem cr_lenM : CallR X (.builtin "len") (rLenM X.prog X.w) := by
  intro pins s σ H vs us Q I r h
  obtain ⟨a, ks, rfl, ha, q⟩ := h
  obtain ⟨o, es, ep, t, ho, hex, hd, T, hm, hn, hb⟩ := setMO_get I ha
  rw [Vals.ref1 r]
  have hz : es.size < scanBound := Nat.lt_of_le_of_lt hn hb
  refine call_len_set ho hex hd T.fit (by unfold scanBound at hz; omega) ⟨.int es.size, H, I.tok _, ⟨_, rfl⟩, q _ ⟨es.toList.map kyE, T.nod, hm, by rw [List.length_map, Array.length_toList]⟩⟩

/-! ### over data -/
def srtSet (x : D) (S : Sto) (Q : D → Sto → Prop) : Prop := ∃ ds, sqOf S x = some ds ∧ ds.length + 1 < scanBound ∧
  ((∃ xs : List Str, ds = xs.map D.str ∧ ∀ ys, IsSd xs ys → Q (.fl (ys.map D.str)) S) ∨ ∃ ns : List Int, ds = ns.map D.int ∧ ∀ ms, IsSdI ns ms → Q (.fl (ms.map D.int)) S)
def dSortSet (te : TDE) : TDE := fun δ S Q => te δ S fun x S1 => srtSet x S1 Q
def lenSet (x : D) (S : Sto) (Q : D → Sto → Prop) : Prop := ∃ ds, sqOf S x = some ds ∧ ds.length + 1 < scanBound ∧ ∃ ks : List Key, ds = (ks.map kV).map D.at ∧ ∀ n : Nat, Many ks n → Q (.int n) S
def dLenSet (te : TDE) : TDE := fun δ S Q => te δ S fun x S1 => lenSet x S1 Q
theorem de_sortSet {e : Expr} {te : TDE} {p p2 pos pos2 : Pos} (hc : X.calm = true) (hg : Gl X "sorted") (hm : X.mg "sorted" = none) (hg2 : Gl X "set") (hm2 : X.mg "set" = none) (he : PE X e (lE X.K te))
    (hs2 : starEach [e] X.env = (false, eval e X.env) :: starEach [] X.env := by rfl) (hp2 : (backTo pos2 (starEach [] X.env)).any (·.1) = false := by rfl)
    (hs : starEach [.Call (.Name "set" p2) [e] [] pos2] X.env = (false, eval (.Call (.Name "set" p2) [e] [] pos2) X.env) :: starEach [] X.env := by rfl) (hpl : (backTo pos (starEach [] X.env)).any (·.1) = false := by rfl) :
    PE X (.Call (.Name "sorted" p) [.Call (.Name "set" p2) [e] [] pos2] [] pos) (lE X.K (dSortSet te)) :=
  PE.wk (pe_callB (cr_sortedM hc) hg hm (by decide +kernel) (pa_cons (pe_callTy (cr_setM hc) hg2 hm2 (by decide +kernel) (pa_cons he pa_nil hs2) (by decide) (by decide) hs2 hp2) pa_nil hs) (by decide) (by decide) hs hpl) fun σ H Q ⟨N, δ, S, Q', re, rs, q, kk⟩ => by
    refine ⟨N, δ, S, _, re, rs, q, fun x S1 v H1 b1 rx q1 => ?_⟩
    obtain ⟨ds, hx, hb, q1⟩ := q1
    obtain ⟨a, ws, rfl, sq, rw'⟩ := sq_sq b1.rs rx hx
    rcases q1 with ⟨xs, rfl, q1⟩ | ⟨xs, rfl, q1⟩
    · have e : ws = xs.map V.str := RDs.atoms (us := xs.map V.str) (by rw [List.map_map]; exact rw')
      subst e
      refine ⟨a, xs.map Sum.inr, rfl, by rw [List.map_map]; exact sq, by simpa using hb, fun p np => ?_⟩
      refine ⟨p, _, rfl, upd_same, .inl ⟨xs, rfl, fun ys p' hs np' => ?_⟩⟩
      obtain ⟨rs1, f1, le1⟩ := b1.rs.laid (o := SetMO X.prog X.w p (xs.map Sum.inr)) np
      have b2 : Bh ⟨X.K, N⟩ H S (upd H1 p (SetMO X.prog X.w p (xs.map Sum.inr))) S1 := b1.trans ⟨f1, rs1⟩
      obtain ⟨b3, r3⟩ := new_fl rs1 np' (rds_strs ys)
      exact kk _ S1 _ _ (b2.trans b3) r3 (q1 ys hs)
    · have e : ws = xs.map V.int := RDs.atoms (us := xs.map V.int) (by rw [List.map_map]; exact rw')
      subst e
      refine ⟨a, xs.map Sum.inl, rfl, by rw [List.map_map]; exact sq, by simpa using hb, fun p np => ?_⟩
      refine ⟨p, _, rfl, upd_same, .inr ⟨xs, rfl, fun ys p' hs np' => ?_⟩⟩
      obtain ⟨rs1, f1, le1⟩ := b1.rs.laid (o := SetMO X.prog X.w p (xs.map Sum.inl)) np
      have b2 : Bh ⟨X.K, N⟩ H S (upd H1 p (SetMO X.prog X.w p (xs.map Sum.inl))) S1 := b1.trans ⟨f1, rs1⟩
      obtain ⟨b3, r3⟩ := new_fl rs1 np' (rds_ints ys)
      exact kk _ S1 _ _ (b2.trans b3) r3 (q1 ys hs)
theorem de_lenSet {e : Expr} {te : TDE} {p p2 pos pos2 : Pos} (hc : X.calm = true) (hg : Gl X "len") (hm : X.mg "len" = none) (hg2 : Gl X "set") (hm2 : X.mg "set" = none) (he : PE X e (lE X.K te))
    (hs2 : starEach [e] X.env = (false, eval e X.env) :: starEach [] X.env := by rfl) (hp2 : (backTo pos2 (starEach [] X.env)).any (·.1) = false := by rfl)
    (hs : starEach [.Call (.Name "set" p2) [e] [] pos2] X.env = (false, eval (.Call (.Name "set" p2) [e] [] pos2) X.env) :: starEach [] X.env := by rfl) (hpl : (backTo pos (starEach [] X.env)).any (·.1) = false := by rfl) :
    PE X (.Call (.Name "len" p) [.Call (.Name "set" p2) [e] [] pos2] [] pos) (lE X.K (dLenSet te)) :=
  PE.wk (pe_callB cr_lenM hg hm (by decide +kernel) (pa_cons (pe_callTy (cr_setM hc) hg2 hm2 (by decide +kernel) (pa_cons he pa_nil hs2) (by decide) (by decide) hs2 hp2) pa_nil hs) (by decide) (by decide) hs hpl) fun σ H Q ⟨N, δ, S, Q', re, rs, q, kk⟩ => by
    refine ⟨N, δ, S, _, re, rs, q, fun x S1 v H1 b1 rx q1 => ?_⟩
    obtain ⟨ds, hx, hb, ks, rfl, q1⟩ := q1
    obtain ⟨a, ws, rfl, sq, rw'⟩ := sq_sq b1.rs rx hx
    have e : ws = ks.map kV := RDs.atoms rw'
    subst e
    refine ⟨a, ks, rfl, sq, by simpa using hb, fun p np => ?_⟩
    refine ⟨p, ks, rfl, upd_same, fun n hn => ?_⟩
    obtain ⟨rs1, f1, le1⟩ := b1.rs.laid (o := SetMO X.prog X.w p ks) np
    exact kk _ S1 _ _ (b1.trans ⟨f1, rs1⟩) (.of _) (q1 n hn)
end
end DL

/-! Data layer, fourteenth part: zip of any two, texts that are walked. -/
namespace DL
open PySem L2 PyProof.Rows
section
variable {X : Cx} {pins : List (Addr × Obj)} {σ : L2.St} {H : Hp} {s : Shared} {xs : List V}
theorem Sd.begins (I : Inv X pins σ H s) {u : Value} : ∀ (d : Sd), d.Has X.K H xs → RelV d.v u → ∃ (o : Obj) (St : Heap → Prop), Begins u o St ∧ St s.heap ∧ (∀ h it, h.get? it = some o → d.At h it 0) ∧ d.Old s.heap.objs.size
  | .li a, has, r => by
    obtain rfl : u = Value.ref a := r
    obtain ⟨its, rv, p, _⟩ := I.list has
    exact ⟨_, _, begins_list a its.toArray, p.isList, fun h it e => ⟨_, e, rfl, rfl⟩, p.lt⟩
  | .tu a, has, r => by
    obtain rfl : u = Value.ref a := r
    obtain ⟨its, rv, p, _⟩ := I.tuple has
    have q : s.heap.IsTuple a its.toArray := p
    exact ⟨_, _, begins_tuple a its.toArray, q, fun h it e => ⟨_, e, rfl, rfl⟩, by obtain ⟨o, ho, _⟩ := q; exact Heap.lt_size ho⟩
  | .st x, has, r => by
    obtain ⟨t, rfl⟩ := (show ∃ t, u = Value.str x t from r)
    exact ⟨_, _, begins_text x t, trivial, fun h it e => ⟨t, _, e, rfl, rfl⟩, trivial⟩
end
def iZipM (K : PySem.W.Frag) (ta : TA) : TI := fun σ H R => ta σ H fun vs H1 => ∃ (d1 d2 : Sd) (xs ys : List V), vs = [d1.v, d2.v] ∧ d1.Has K H1 xs ∧ d2.Has K H1 ys ∧ R (Izm K d1 d2) H1
section
variable {X : Cx} {k : Nat}
theorem pi_zipM {e e2 : Expr} {ta : TA} {p pos tpos : Pos} {elts : List Expr} {kk : Nat} (hg : Gl X "zip") (hm : X.mg "zip" = none) (ha : PA X [e, e2] ta)
    (hs : starEach [e, e2] X.env = (false, eval e X.env) :: starEach [e2] X.env := by rfl) (hpl : (backTo pos (starEach [e2] X.env)).any (·.1) = false := by rfl) :
    PI X (.Tuple elts kk tpos) (.Call (.Name "zip" p) [e, e2] [] pos) (iZipM X.K ta) := by
  refine ⟨fun pins s σ H R I h => Call_ (ld_blt I hg hm boot_zip (callWith_type1 (thn (ha.run pos pins s σ H _ I h) fun us s1 ⟨vs, H1, I1, r1, q1⟩ => ?_) hs hpl))⟩
  obtain ⟨d1, d2, xs, ys, rfl, h1, h2, q⟩ := q1
  obtain ⟨u1, us', rfl, t1, rr⟩ : ∃ u us', us = u :: us' ∧ RelV d1.v u ∧ Vals [d2.v] us' := by
    cases r1 with
    | cons r rr => exact ⟨_, _, rfl, r, rr⟩
  obtain ⟨u2, rfl, r2⟩ := vals1 rr
  obtain ⟨o1, S1, B1, b1, a1, l1⟩ := Sd.begins I1 d1 h1 t1
  obtain ⟨o2, S2, B2, b2, a2, l2⟩ := Sd.begins I1 d2 h2 r2
  generalize hn : s1.heap.objs.size = n at l1 l2
  have new : ∀ c : Nat, c ∈ [n + 4, n + 2, n + 3, n, n + 1] → FpOk X pins H1 c := fun c hc => by
    have le : s1.heap.objs.size ≤ c := by
      rw [hn]
      simp only [List.mem_cons, List.not_mem_nil, or_false] at hc
      omega
    exact I1.fpOk le (I1.hok.fresh le)
  refine zip_begins2 B1 B2 b1 b2 fun h' hz hTI hTO g1 g2 hsz hk => wpAny_pyIter_zip hz ?_
  rw [hn] at hz hTI hTO g1 g2 ⊢
  exact ⟨n + 4, [n + 4, n + 2, n + 3, n, n + 1], _, _, H1, rfl, I1.kept (t' := s1.toks) hk, turn_zipM n l1 l2, ⟨hz, hTI, ⟨_, _, hTO⟩, a1 _ _ g1, a2 _ _ g2⟩, new, q⟩

/-! ### over data -/
def signs (x : Str) : List D := x.cps.toList.map fun c => .str ⟨#[c]⟩
def sdOf (S : Sto) (d : D) : Option (List D) := match d with
  | .at (.str x) => some (signs x)
  | d => sqOf S d
def zipMI (x y : D) : ItD := fun i S => (sdOf S x).bind fun p => (sdOf S y).bind fun q => if i ≤ p.length ∧ i ≤ q.length then some (p[i]?.bind fun d => q[i]?.map fun e => .tup [d, e]) else none
theorem rds_signs {K : Kx} {H : Hp} {S : Sto} (x : Str) : RDs K H S (signsV x) (signs x) := by
  have := RDs.of_atoms (K := K) (H := H) (S := S) (signsV x)
  unfold signsV at this ⊢
  rw [List.map_map] at this
  exact this
theorem tupLe_refl {K : Kx} {H : Hp} {S : Sto} : TupLe K H S K H S := ⟨fun _ _ h => h, fun _ _ h => h, fun _ _ h => h⟩
theorem sd_rel {K : Kx} {H0 : Hp} {S0 : Sto} {v : V} {x : D} {ds : List D} (rs : RS K H0 S0) (r : RD K H0 S0 v x) (h : sdOf S0 x = some ds) : ∃ d : Sd, v = d.v ∧
    ∀ (M : Addr → Prop) (H : Hp) (S : Sto), Bh ⟨K.k, M⟩ H0 S0 H S → TupLe K H0 S0 ⟨K.k, M⟩ H S → ∀ es, sdOf S x = some es → ∃ us, d.Has K.k H us ∧ RDs ⟨K.k, M⟩ H S us es := by
  have lists : ∀ ds, lsOf S0 x = some ds → (∀ S, sdOf S x = lsOf S x) → ∃ d : Sd, v = d.v ∧
    ∀ (M : Addr → Prop) (H : Hp) (S : Sto), Bh ⟨K.k, M⟩ H0 S0 H S → TupLe K H0 S0 ⟨K.k, M⟩ H S → ∀ es, sdOf S x = some es → ∃ us, d.Has K.k H us ∧ RDs ⟨K.k, M⟩ H S us es := fun ds hl e => by
    obtain ⟨a, vs, rfl, _, w⟩ := rel_ls rs r hl
    refine ⟨.li a, rfl, fun M H S b le es he => ?_⟩
    rw [e S] at he
    exact ls_at b le w he
  cases x with
  | tup xs =>
    obtain ⟨a, vs, rfl, t, rv⟩ := r.tup_
    refine ⟨.tu a, rfl, fun M H S b le es he => ?_⟩
    cases he
    exact ⟨vs, .of (le.t _ _ t), rv.le le⟩
  | wt xs =>
    obtain ⟨a, vs, rfl, t, rv⟩ := r.wt_
    refine ⟨.tu a, rfl, fun M H S b le es he => ?_⟩
    cases he
    exact ⟨vs, .inr t, rv.le le⟩
  | fl xs => exact lists _ h fun S => rfl
  | «at» u =>
    have e := r.at_
    subst e
    cases v with
    | str y =>
      refine ⟨.st y, rfl, fun M H S b le es he => ?_⟩
      cases he
      exact ⟨signsV y, rfl, rds_signs y⟩
    | ref a => exact lists _ h fun S => rfl
    | _ => exact nomatch h
def iZipMD (t : TDA) : TDI := fun δ S R => t δ S fun xs S1 => ∃ x y ds es, xs = [x, y] ∧ sdOf S1 x = some ds ∧ sdOf S1 y = some es ∧ R (zipMI x y) S1
theorem di_zipM {e e2 : Expr} {ta : TDA} {p pos tpos : Pos} {elts : List Expr} {kk : Nat} (hg : Gl X "zip") (hm : X.mg "zip" = none) (ha : PA X [e, e2] (lA X.K ta))
    (hs : starEach [e, e2] X.env = (false, eval e X.env) :: starEach [e2] X.env := by rfl) (hpl : (backTo pos (starEach [e2] X.env)).any (·.1) = false := by rfl) :
    PI X (.Tuple elts kk tpos) (.Call (.Name "zip" p) [e, e2] [] pos) (lI X.K (iZipMD ta)) :=
  PI.wk (pi_zipM hg hm ha hs hpl) fun σ H R ⟨N, δ, S, R', re, rs, q, kk⟩ => by
    refine ⟨N, δ, S, _, re, rs, q, fun xs S1 vs H1 b1 rv q1 => ?_⟩
    obtain ⟨x, y, ds, es, rfl, h1, h2, q1⟩ := q1
    obtain ⟨v, w, rfl, rx, ry⟩ := rv.two'
    obtain ⟨d1, rfl, w1⟩ := sd_rel b1.rs rx h1
    obtain ⟨d2, rfl, w2⟩ := sd_rel b1.rs ry h2
    obtain ⟨us, c1, _⟩ := w1 _ _ _ (.refl b1.rs) tupLe_refl _ h1
    obtain ⟨ws, c2, _⟩ := w2 _ _ _ (.refl b1.rs) tupLe_refl _ h2
    refine ⟨d1, d2, us, ws, rfl, c1, c2, kk _ S1 _ H1 b1 ?_ q1⟩
    intro M i H' S' bb le
    unfold zipMI
    refine ⟨fun ez => ?_, fun d ez => ?_⟩
    · obtain ⟨p', g1, ez⟩ := Option.bind_eq_some_iff.mp ez
      obtain ⟨q', g2, ez⟩ := Option.bind_eq_some_iff.mp ez
      obtain ⟨u1, s1, r1⟩ := w1 _ _ _ bb le _ g1
      obtain ⟨u2, s2, r2⟩ := w2 _ _ _ bb le _ g2
      split at ez
      · rename_i hi
        have l1 := r1.length
        have l2 := r2.length
        have := zip_end r1 r2 (Option.some.inj ez)
        exact ⟨u1, u2, s1, s2, by omega, by omega, by omega⟩
      · cases ez
    · obtain ⟨p', g1, ez⟩ := Option.bind_eq_some_iff.mp ez
      obtain ⟨q', g2, ez⟩ := Option.bind_eq_some_iff.mp ez
      obtain ⟨u1, s1, r1⟩ := w1 _ _ _ bb le _ g1
      obtain ⟨u2, s2, r2⟩ := w2 _ _ _ bb le _ g2
      split at ez
      · obtain ⟨y1, y2, z1, z2, k1, k2, rfl, k3, k4⟩ := zip_step r1 r2 (Option.some.inj ez)
        refine ⟨⟨u1, u2, y1, y2, s1, s2, k1, k2⟩, fun z H2 yl => ?_⟩
        obtain ⟨T, c1, c2, rfl, hT, rfl, hz1, hz2⟩ := yl
        have e1 := hz1 u1 s1
        rw [k1] at e1
        cases e1
        have e2 := hz2 u2 s2
        rw [k2] at e2
        cases e2
        obtain ⟨b2, r2⟩ := new_tup bb.rs hT (.cons k3 (.cons k4 .nil))
        exact ⟨b2, r2⟩
      · cases ez
/-- a text that is walked -/
def strI (x : Str) : ItD := fun i _ => some (signs x)[i]?
def iStrD (te : TDE) : TDI := fun δ S R => te δ S fun v S1 => ∃ x, v = .str x ∧ R (strI x) S1
theorem di_str {tg e : Expr} {te : TDE} (he : PE X e (lE X.K te)) : PI X tg e (lI X.K (iStrD te)) :=
  PI.wk (pi_str he) fun σ H R ⟨N, δ, S, R', re, rs, q, kk⟩ => by
    refine ⟨N, δ, S, _, re, rs, q, fun x S1 v H1 b1 rx q1 => ?_⟩
    obtain ⟨y, rfl, q1⟩ := q1
    refine ⟨y, rx.at_, kk _ S1 _ H1 b1 ?_ q1⟩
    intro M i H' S' bb le
    unfold strI signs
    rw [List.getElem?_map, Array.getElem?_toList]
    refine ⟨fun ez => ?_, fun d ez => ?_⟩
    · have := Option.map_eq_none_iff.mp (Option.some.inj ez)
      exact Array.getElem?_eq_none_iff.mp this
    · obtain ⟨c, hc, rfl⟩ := Option.map_eq_some_iff.mp (Option.some.inj ez)
      refine ⟨(Array.getElem?_eq_some_iff.mp hc).1, fun z H2 yl => ?_⟩
      obtain ⟨rfl, c', hc', rfl⟩ := yl
      rw [hc] at hc'
      cases hc'
      exact ⟨.refl bb.rs, .of _⟩
end
end DL

/-! Data layer, fifteenth part: dicts by comprehension, written dicts, extend by a tuple. -/
namespace DL
open PySem L2 PyProof.Rows
section
variable {X : Cx} {k : Nat}

/-! ### {k: v for ..} -/
def dDc (wi : TDI) (g : TDG) (tt : TDT) (tk tv : TDE) (vs : List Nat) : TDE := fun δ S Q => wi δ S fun J S1 => ∀ A, S1 A = none → ∃ (W : Nat → Sto → Prop) (n : Nat), W 0 (up S1 A (.dk [])) ∧ ∀ i S2, W i S2 → ∃ r, J i S2 = some r ∧
  (r = none → Q (.ref A) S2) ∧
  ∀ x, r = some x → i < n ∧ g x (wipeD δ vs) S2 fun δ2 S3 => tt δ2 S3 fun b S4 =>
    if b = true then tk δ2 S4 fun y S5 => tv δ2 S5 fun z S6 => ∃ kvs κ, keyD y = some κ ∧ S6 A = some (.dk kvs) ∧ kvs.length < sizeLine ∧ W (i + 1) (up S6 A (.dk (putD kvs κ z))) else W (i + 1) S4
theorem lift_dc {K : PySem.W.Frag} {wi : TDI} {gv : TG} {g : TDG} {tt : TDT} {tk tv : TDE} (own : List (Str × Nat)) (hgd : ∀ N, TgC ⟨K, N⟩ (own.map (·.2)) gv g) {σ : L2.St} {H : Hp} {Q : VK} (h : lE K (dDc wi g tt tk tv (own.map (·.2))) σ H Q) :
    tDc (lI K wi) gv (lT K tt) (lE K tk) (lE K tv) (own.map (·.2)) σ H Q := by
  obtain ⟨N, δ, S, Q', re, rs, q, kk⟩ := h
  refine ⟨N, δ, S, _, re, rs, q, fun J S1 Jv H1 b1 rel q1 A hA => ?_⟩
  obtain ⟨W, n, w0, turn⟩ := q1 A (b1.rs.free hA)
  have re1 := re.le (rs.le b1.fr)
  obtain ⟨a0, f0⟩ := b1.rs.new (o := .dK []) (m := .dk []) hA fun c => ⟨[], upd_same, rfl, .nil⟩
  refine ⟨fun i m H2 => ∃ S2, m = n - i ∧ W i S2 ∧ Bh ⟨K, N⟩ H1 S1 H2 S2, ⟨n, _, rfl, w0, f0, a0⟩, ?_⟩
  rintro i m H2 ⟨S2, rfl, w2, b2⟩
  have l2 := b1.rs.le b2.fr
  have re2 := re1.le l2
  obtain ⟨r, hr, hn, hgo⟩ := turn i S2 w2
  obtain ⟨r1, r2⟩ := rel N i H2 S2 b2 l2
  cases r with
  | none => exact .inl ⟨r1 hr, kk _ S2 _ H2 (b1.trans b2) (.of _) (hn rfl)⟩
  | some x =>
    obtain ⟨hlt, hgx⟩ := hgo x rfl
    obtain ⟨go, yl⟩ := r2 x hr
    refine .inr ⟨go, fun H' => ∃ S', W (i + 1) S' ∧ Bh ⟨K, N⟩ H1 S1 H' S', fun H' ⟨S', h1, h2⟩ => ⟨n - (i + 1), by omega, S', rfl, h1, h2⟩, fun v H3 y => ?_⟩
    obtain ⟨b3, rv⟩ := yl v H3 y
    refine hgd N v x (wipe σ (own.map (·.2))) (wipeD δ (own.map (·.2))) H3 S2 _ _ rv (re_wipe (re2.le (b2.rs.le b3.fr)) _) b3.rs hgx fun σ4 H4 δ4 S4 e4 b4 re4 q4 => ?_
    refine ⟨e4.trans (wipe_wipe _ _), N, δ4, S4, _, re4, b4.rs, q4, fun c S5 H5 b5 q5 => ?_⟩
    have b25 := (b3.trans b4).trans b5
    cases c with
    | false =>
      rw [if_neg Bool.false_ne_true] at q5
      exact iteF ⟨S5, q5, b2.trans b25⟩
    | true =>
      rw [if_pos rfl] at q5
      have re5 := re4.le (b4.rs.le b5.fr)
      refine iteT ⟨N, δ4, S5, _, re5, b5.rs, q5, fun y S6 u H6 b6 r6 q6 => ?_⟩
      refine ⟨N, δ4, S6, _, re5.le (b5.rs.le b6.fr), b6.rs, q6, fun z S7 t H7 b7 r7 q7 => ?_⟩
      obtain ⟨kvs, κ, hk, e7, hl, w7⟩ := q7
      have ey := keyD_eq hk
      subst ey
      obtain ⟨ks, h1, h2, h3⟩ := b7.rs.ob A _ e7
      have hll : ks.length = kvs.length := by simpa using congrArg List.length h2
      obtain ⟨p1, p2⟩ := rel_put h2 h3 κ r7
      obtain ⟨c1, c2⟩ := b7.rs.write (o := .dK (putK ks κ t)) (m' := .dk (putD kvs κ z)) e7 fun le => ⟨_, upd_same, p1, p2.le le⟩
      exact ⟨ks, κ, r6.at_, h1, by omega, _, w7, (b2.trans ((b25.trans b6).trans b7)).trans ⟨c2, c1⟩⟩
variable {kx vx tg iter : Expr} {ifs : List Expr} {scope : Scope} {pos : Pos} {wi : TDI} {gv : TG} {g : TDG} {tt : TDT} {tk tv : TDE}
theorem de_dc (own : List (Str × Nat)) (hc : X.calm = true) (hN : X.N.Nodup) (hi : PI X tg iter (lI X.K wi)) (ok : BlkOk X.N X.env.scope scope own)
    (hg : ∀ (s : Shared) (H : Hp) (C : Addr) (cl : List (Str × Addr)) (fp : List Addr), PG (X.blk s H scope (compEnvC scope cl C X.env) fp) tg gv) (hgd : ∀ N, TgC ⟨X.K, N⟩ (own.map (·.2)) gv g) (ht : ∀ (s : Shared) (H : Hp) (C : Addr) (cl : List (Str × Addr)) (fp : List Addr), PTs (X.blk s H scope (compEnvC scope cl C X.env) fp) ifs (lT X.K tt))
    (hk : ∀ (s : Shared) (H : Hp) (C : Addr) (cl : List (Str × Addr)) (fp : List Addr), PE (X.blk s H scope (compEnvC scope cl C X.env) fp) kx (lE X.K tk)) (he : ∀ (s : Shared) (H : Hp) (C : Addr) (cl : List (Str × Addr)) (fp : List Addr), PE (X.blk s H scope (compEnvC scope cl C X.env) fp) vx (lE X.K tv))
    (hs : ∀ x, foldedSetIterable iter X.env x = pure x := by intro _; rfl) : PE X (.DictComp kx vx [⟨tg, iter, ifs, 0⟩] scope pos) (lE X.K (dDc wi g tt tk tv (own.map (·.2)))) :=
  PE.wk (pe_dc hc hN hi ok hg ht hk he hs) fun σ H Q h => lift_dc own hgd h
theorem ps_setDc {i : Nat} {y : Str} {py spos : Pos} {own : List (Str × Nat)} {wv : TI} {ttv : TT} {tkv tvv : TE} (hc : X.calm = true) (hN : X.N.Nodup) (hy : X.N[i]? = some y) (hyl : X.env.scope.names.lookup y = some .local)
    (hsw : swapsWith (.DictComp kx vx [⟨tg, iter, ifs, 0⟩] scope pos) (some (.Name y py)) spos.line X.env = pure true) (hi : PI X tg iter wv) (ok : BlkOk X.N X.env.scope scope own)
    (hg : ∀ (s : Shared) (H : Hp) (C : Addr) (cl : List (Str × Addr)) (fp : List Addr), PG (X.blk s H scope (compEnvC scope cl C X.env) fp) tg gv) (ht : ∀ (s : Shared) (H : Hp) (C : Addr) (cl : List (Str × Addr)) (fp : List Addr), PTs (X.blk s H scope (compEnvC scope cl C X.env) fp) ifs ttv)
    (hk : ∀ (s : Shared) (H : Hp) (C : Addr) (cl : List (Str × Addr)) (fp : List Addr), PE (X.blk s H scope (compEnvC scope cl C X.env) fp) kx tkv) (he : ∀ (s : Shared) (H : Hp) (C : Addr) (cl : List (Str × Addr)) (fp : List Addr), PE (X.blk s H scope (compEnvC scope cl C X.env) fp) vx tvv)
    (hs : ∀ x, foldedSetIterable iter X.env x = pure x := by intro _; rfl) : PS X (.Assign [.Name y py] (.DictComp kx vx [⟨tg, iter, ifs, 0⟩] scope pos) spos) (tAsg (tDc wv gv ttv tkv tvv (own.map (·.2))) (gName i)) := by
  refine ⟨fun pins s σ H D I h => ?_⟩
  rw [exec_Assign_Name_used _ _ _ _ hsw]
  refine wpAny_bind (wpAny_standAt (wpAny_bind ?_))
  change wpAny _ X.A (do let _ ← comprehension (.DictComp kx vx [⟨tg, iter, ifs, 0⟩] scope pos) scope X.env (firstIterPos [⟨tg, iter, ifs, 0⟩] pos) newDict false (eval iter X.env) (some (assign (.Name y py) X.env))) _ _ s
  have h' : tDc wv gv ttv tkv tvv (own.map (·.2)) σ H (fun x H1 => gName i x σ H1 D.nx) := h
  refine wpAny_bind (thn (dc_core (Qf := fun _ s' => SP X pins D .next s') hc hN I hi ok hg ht hk he hs h' fun L C s' m H' I' q hn f => ?_) fun _ s' hq => wpAny_pure (wpAny_pure hq))
  change wpAny _ _ (assign (.Name y py) X.env (.ref L)) _ _ _
  refine wpAny_assign_Name (store_ok2 (v := V.ref L) I' hN hy (.inl hyl) rfl (fun s2 I2 ⟨a, sb, ha⟩ => ?_) (.inr hyl))
  obtain ⟨f0, f1, f2, f3, f4, f5⟩ := f
  have nC : C ≠ a := by
    rcases ha with z | z
    · rw [z]; exact f1
    · exact fun e => f4 y a z e.symm
  exact ⟨m, hn.sameBut sb nC, fun h3 sb3 => ⟨_, H', I2.turned (t' := s2.toks) (fun b o hb e => (sb3.2 b hb).trans e) f0 f1 f3 f4 f5, q⟩⟩
theorem sw_trueD {gs : List Comprehension} {scope : Scope} {pos py : Pos} {y : Str} {l : Nat} {env : Env} (hk : env.scope.kind = .function) (hy : env.scope.names.lookup y = some .local) (hl : (py.line == pos.line) = true)
    (ha : (scope.names.any fun (n, k) => n == y && (k == .local || k == .cell)) = false) : swapsWith (.DictComp kx vx gs scope pos) (some (.Name y py)) l env = pure true := by
  have ky : env.kindOf y = some .local := hy
  have hb : env.blockKind = .function := by unfold Env.blockKind; rw [hk]; rfl
  unfold swapsWith
  simp only [hb, ky, ha, Expr.pos, hl]
  rfl
theorem ds_setDc (i : Nat) {y : Str} {py spos : Pos} (own : List (Str × Nat)) (hc : X.calm = true) (hN : X.N.Nodup) (hi : PI X tg iter (lI X.K wi)) (ok : BlkOk X.N X.env.scope scope own)
    (hg : ∀ (s : Shared) (H : Hp) (C : Addr) (cl : List (Str × Addr)) (fp : List Addr), PG (X.blk s H scope (compEnvC scope cl C X.env) fp) tg gv) (hgd : ∀ N, TgC ⟨X.K, N⟩ (own.map (·.2)) gv g) (ht : ∀ (s : Shared) (H : Hp) (C : Addr) (cl : List (Str × Addr)) (fp : List Addr), PTs (X.blk s H scope (compEnvC scope cl C X.env) fp) ifs (lT X.K tt))
    (hk : ∀ (s : Shared) (H : Hp) (C : Addr) (cl : List (Str × Addr)) (fp : List Addr), PE (X.blk s H scope (compEnvC scope cl C X.env) fp) kx (lE X.K tk)) (he : ∀ (s : Shared) (H : Hp) (C : Addr) (cl : List (Str × Addr)) (fp : List Addr), PE (X.blk s H scope (compEnvC scope cl C X.env) fp) vx (lE X.K tv))
    (hs : ∀ x, foldedSetIterable iter X.env x = pure x := by intro _; rfl) (hy : X.N[i]? = some y := by rfl) (hyl : X.env.scope.names.lookup y = some .local := by rfl)
    (hsw : swapsWith (.DictComp kx vx [⟨tg, iter, ifs, 0⟩] scope pos) (some (.Name y py)) spos.line X.env = pure true := by exact sw_trueD rfl rfl rfl (by decide +kernel)) :
    PS X (.Assign [.Name y py] (.DictComp kx vx [⟨tg, iter, ifs, 0⟩] scope pos) spos) (lS X.K (dAsg (dDc wi g tt tk tv (own.map (·.2))) (gdName i))) :=
  PS.wk (ps_setDc hc hN hy hyl hsw hi ok hg ht hk he hs) fun D σ H ⟨N, δ, S, D', re, rs, q, l⟩ => lift_dc own hgd ⟨N, δ, S, _, re, rs, q, fun d S1 v H1 b1 r1 q1 => l.nx _ S1 _ H1 b1 ((re.le (rs.le b1.fr)).set r1 i) q1⟩

/-! ### a written dict of texts -/
def lookS (kvs : List (Str × Str)) (z : Str) : Option Str := (kvs.find? fun q => q.1 == z).map (·.2)
def GDt (K : PySem.W.Frag) (w : World) (mg : Str → Option Value) (x : Str) (kvs : List (Str × Str)) : Prop := ∃ a, mg x = some (.ref a) ∧ ∀ z v, lookS kvs z = some v → KDct K w a z (.str v)
def dGix (kvs : List (Str × Str)) (t : TDE) : TDE := fun δ S Q => t δ S fun y S1 => ∃ z v, y = .str z ∧ lookS kvs z = some v ∧ Q (.str v) S1
theorem de_gix {x : Str} {kvs : List (Str × Str)} {e : Expr} {te : TDE} {p pos : Pos} (G : GDt X.K X.w X.mg x kvs) (he : PE X e (lE X.K te)) (hg : Gl X x := by rfl) (hd : (x == ("__debug__" : Str)) = false := by decide) (hs : PlainIx e := by exact fun _ _ => rfl) : PE X (.Subscript (.Name x p) e pos) (lE X.K (dGix kvs te)) := by
  obtain ⟨a, m, G⟩ := G
  refine PE.wk (pe_ix ix_kdict (pe_glob (v := .ref a) hg m rfl hd) he hs) fun σ H Q ⟨N, δ, S, Q', re, rs, q, kk⟩ => ?_
  refine ⟨N, δ, S, _, re, rs, q, fun y S1 v H1 b1 ry q1 => ?_⟩
  obtain ⟨z, u, rfl, hl, q1⟩ := q1
  exact ⟨a, z, .str u, rfl, ry.at_, G z u hl, kk _ S1 _ H1 b1 (.of _) q1⟩

/-! ### list.extend by a tuple or a list -/
theorem extend_tup (l : Addr) (items : Array Value) (n : Nat) (b : Addr) (items2 : Array Value) (n2 : Nat) (dd : Option Addr) (sl : Array (Option Value)) (h0 : ¬(!items.isEmpty && Builtin.List.listTooLong (items.size + items2.size)) = true) (h1 : items.size ≤ sizeLine) (h2 : items.size + items2.size ≤ sizeLine + 1) :
    Meets (Builtin.«list.extend» ⟨[.ref l, .ref b], []⟩) (fun _ R s => s.heap.get? l = some { cls := .type "list", dict := none, data := .seq items n, slots := #[] } ∧ s.heap.get? b = some { cls := .type "tuple", dict := dd, data := .seq items2 n2, slots := sl } ∧ R (.ok (.ret Value.none)) { s with heap := s.heap.update l (Obj.mapSeq fun x => x ++ items2), toks := s.toks }) :=
  .of_wp fun prog w A R s h => by
    obtain ⟨hp, g, d, tk, os⟩ := s
    obtain ⟨hl, hb, h⟩ := h
    have f1 := PySem.AutoSeq1.idx_int
    have f2 := PySem.F.sub_tuple_tuple
    have f3 := PySem.F.sub_list_list
    have f4 := PySem.F.sub_tuple_list
    have f5 := PySem.F.sub_list_tuple
    have hz' : (items ++ items2).size ≤ sizeLine + 1 := by rw [Array.size_append]; exact h2
    wp_walk using (wpAny_updateSeq hl rfl (hz := h1) (_hz' := hz')), AutoSeq1.wpAny_loadPart' hl, AutoSeq1.wpAny_loadPart' hb
    exact ⟨_, rfl, h⟩
def rExtT (K : PySem.W.Frag) : V → List V → Hp → VK → Prop := fun x vs H Q => ∃ (l b : Addr) (xs zs : List V), x = .ref l ∧ vs = [.ref b] ∧ H l = some (.lst xs) ∧ SqT K H b zs ∧ xs.length + zs.length ≤ sizeLine ∧ Q .non (upd H l (.lst (xs ++ zs)))
theorem mt_extT : MtM X "list.extend" (rExtT X.K) := by
  intro pins s σ H x vs v us Q I rx rv h
  obtain ⟨l, b, xs, zs, rfl, rfl, hH, hB, hz, q⟩ := h
  obtain rfl : v = Value.ref l := rx
  obtain ⟨u, rfl, ru⟩ := rv.one
  obtain rfl : u = Value.ref b := ru
  obtain ⟨z, its, n, r, hl, e⟩ := I.lstM hH
  obtain ⟨its2, r2, ⟨⟨c2, d2, dt2, s2⟩, e2, hc, n2, hd⟩, z2⟩ := I.tuple hB
  simp only at hc hd
  subst hc
  subst hd
  have l2 := r2.length
  have hsz : its.toArray.size + its2.toArray.size ≤ sizeLine := by rw [List.size_toArray, List.size_toArray]; omega
  have nl : ¬ (!its.toArray.isEmpty && Builtin.List.listTooLong (its.toArray.size + its2.toArray.size)) = true := by
    rw [notLongL hsz, Bool.and_false]
    exact Bool.false_ne_true
  refine call_meets PySem.F.slot_list_extend ⟨_, e, rfl⟩ PySem.F.entry_list_extend (PySem.F.args_list_extend_2 _ _) (extend_tup l its.toArray n b its2.toArray n2 d2 s2 nl (by omega) (by omega)) ⟨e, e2, ?_⟩
  refine ⟨.non, _, I.lset (its' := its ++ its2) hH e (by simp) (r.append r2) ?_, rfl, q⟩
  rw [List.length_append]
  omega
def tpOf : D → Option (List D)
  | .tup xs => some xs
  | .wt xs => some xs
  | _ => none
def extT : RDM := fun x ys S Q => ∃ a xs y zs, x = .ref a ∧ ys = [y] ∧ S a = some (.lst xs) ∧ tpOf y = some zs ∧ xs.length + zs.length ≤ sizeLine ∧ Q .non (up S a (.lst (xs ++ zs)))
theorem md_extT : MtR X "list.extend" (lM X.K extT) := by
  intro pins s σ H v vs vv us Q I rv rvs hh
  obtain ⟨N, x, ys, S, Q', rx, rxs, rs, ⟨a, xs, y, zs, rfl, rfl, e, hy, hz, q⟩, kk⟩ := hh
  obtain ⟨w, rfl, rw'⟩ := rxs.one'
  obtain ⟨ws, h1, h2⟩ := rs.ob a _ e
  obtain ⟨b, vs, rfl, hs, r3⟩ : ∃ b vs, w = .ref b ∧ SqT X.K H b vs ∧ RDs ⟨X.K, N⟩ H S vs zs := by
    cases y with
    | tup ds =>
      cases hy
      obtain ⟨b, vs, rfl, t, r⟩ := rw'.tup_
      exact ⟨b, vs, rfl, .of t, r⟩
    | wt ds =>
      cases hy
      obtain ⟨b, vs, rfl, t, r⟩ := rw'.wt_
      exact ⟨b, vs, rfl, .inr t, r⟩
    | _ => cases hy
  obtain ⟨b1, b2⟩ := rs.write (o := .lst (ws ++ vs)) (m' := .lst (xs ++ zs)) e fun le => ⟨_, upd_same, (h2.append r3).le le⟩
  exact mt_extT pins s σ H v _ vv us Q I rv rvs ⟨a, b, ws, vs, rx.at_, rfl, h1, hs, by rw [h2.length, r3.length]; exact hz, kk _ _ _ _ ⟨b2, b1⟩ (.of _) q⟩
end
end DL

/-! Data layer, sixteenth part: isinstance, int(bool), lists times, written-out dicts, lists taken apart, sorted(dict). -/
namespace DL
open PySem L2 PyProof.Rows
section
variable {X : Cx} {k : Nat}

/-! ### isinstance(x, T), T a built-in class -/
def tyN (S : Sto) : D → Option String
  | .at .non => some "NoneType"
  | .at (.bl _) => some "bool"
  | .at (.int _) => some "int"
  | .at (.str _) => some "str"
  | .at (.ref a) => match S a with
    | some (.lst _) => some "list"
    | some (.dk _) => some "dict"
    | some (.dt _) => some "dict"
    | _ => none
  | .tup _ => some "tuple"
  | .wt _ => some "tuple"
  | .fl _ => some "list"
  | _ => none
def kis (t c : String) : Bool := t == c || (t == "bool" && c == "int")
theorem kis_ok (K : PySem.W.Frag) : ∀ t ∈ ["NoneType", "bool", "int", "str", "list", "dict", "tuple"], ∀ c ∈ ["bool", "int", "str", "list", "dict", "tuple"], PySem.W.kitOne K (.type t) (.type c) = some (kis t c) := by
  intro t ht c hc
  simp only [List.mem_cons, List.not_mem_nil, or_false] at ht hc
  rcases ht with rfl | rfl | rfl | rfl | rfl | rfl | rfl <;> rcases hc with rfl | rfl | rfl | rfl | rfl | rfl <;> rfl
theorem tyN_mem {S : Sto} {x : D} {t : String} (h : tyN S x = some t) : t ∈ ["NoneType", "bool", "int", "str", "list", "dict", "tuple"] := by
  unfold tyN at h
  split at h <;> first | (cases h; simp) | (split at h <;> first | (cases h; simp) | cases h) | cases h
theorem tyX_of {K : Kx} {H : Hp} {S : Sto} {v : V} {x : D} {t : String} (rs : RS K H S) (r : RD K H S v x) (h : tyN S x = some t) : TyX K.k H v (.type t) := by
  cases x with
  | tup xs =>
    cases h
    obtain ⟨a, vs, rfl, e, _⟩ := r.tup_
    exact .base (.tup e)
  | wt xs =>
    cases h
    obtain ⟨a, vs, rfl, ⟨o, its, n, e, c, _⟩, _⟩ := r.wt_
    exact .kTuple e c
  | fl xs =>
    cases h
    obtain ⟨a, vs, rfl, fz, _⟩ := r.fl_
    rcases fz with ⟨e, _, _⟩ | ⟨o, its, n, e, c, _⟩
    · rcases e with e | ⟨o, e⟩
      · exact .base (.lst e)
      · exact .base (.frz e)
    · exact .kList e c
  | «at» v' =>
    have e := r.at_
    subst e
    cases v with
    | non => cases h; exact .base .non
    | bl b => cases h; exact .base (.bl b)
    | int i => cases h; exact .base (.int i)
    | str z => cases h; exact .base (.str z)
    | ref a =>
      unfold tyN at h
      dsimp only at h
      split at h
      · rename_i ys e
        cases h
        obtain ⟨vs, h1, _⟩ := rs.ob a _ e
        exact .base (.lst h1)
      · rename_i ys e
        cases h
        obtain ⟨vs, h1, _⟩ := rs.ob a _ e
        exact .base (.dK h1)
      · rename_i ys e
        cases h
        obtain ⟨vs, h1, _⟩ := rs.ob a _ e
        exact .base (.dT h1)
      · cases h
    | _ => cases h
def dIsi (T : String) (te : TDE) : TDE := fun δ S Q => te δ S fun x S1 => ∃ t, tyN S1 x = some t ∧ Q (.bl (kis t T)) S1
theorem de_isi {T : Str} {tn : String} {e : Expr} {te : TDE} {p p2 pos : Pos} (hg : Gl X "isinstance") (hm : X.mg "isinstance" = none) (hg2 : Gl X T) (hm2 : X.mg T = none) (he : PE X e (lE X.K te))
    (hv2 : bootBuiltins T = some (.type tn) := by decide +kernel) (hT : tn ∈ ["bool", "int", "str", "list", "dict", "tuple"] := by decide) (hn : T ≠ "__name__" := by decide) (hd : (T == ("__debug__" : Str)) = false := by decide)
    (hs2 : starEach [.Name T p2] X.env = (false, eval (.Name T p2) X.env) :: starEach [] X.env := by rfl) (hs : starEach [e, .Name T p2] X.env = (false, eval e X.env) :: starEach [.Name T p2] X.env := by rfl) (hpl : (backTo pos (starEach [.Name T p2] X.env)).any (·.1) = false := by rfl) :
    PE X (.Call (.Name "isinstance" p) [e, .Name T p2] [] pos) (lE X.K (dIsi tn te)) :=
  PE.wk (pe_callB call_isi hg hm (by decide +kernel) (pa_cons he (pa_cons (pe_bltn (v := .ty tn) hg2 hm2 hv2 rfl hn hd) pa_nil hs2) hs) (by decide) (by decide) hs hpl) fun σ H Q ⟨N, δ, S, Q', re, rs, q, kk⟩ => by
    refine ⟨N, δ, S, _, re, rs, q, fun x S1 v H1 b1 rx q1 => ?_⟩
    obtain ⟨t, ht, q1⟩ := q1
    exact ⟨v, .ty tn, .type t, .type tn, kis t tn, rfl, .ty tn, tyX_of b1.rs rx ht, kis_ok _ t (tyN_mem ht) tn hT, kk _ S1 _ H1 b1 (.of _) q1⟩

/-! ### int(b) -/
def intB : RDL := fun ds S Q => (∃ b, ds = [.bl b] ∧ Q (.int (if b then 1 else 0)) S) ∨ ∃ i, ds = [.int i] ∧ Q (.int i) S
theorem cd_int1 : CallR X (.type "int") (lL X.K intB) := by
  intro pins s σ H vs us Q I r hh
  obtain ⟨N, ds, S, Q', rd, rs, q, kk⟩ := hh
  rcases q with ⟨b, rfl, q⟩ | ⟨b, rfl, q⟩
  · obtain ⟨v, rfl, rx⟩ := rd.one'
    exact call_int1 pins s σ H _ us Q I r (.inr ⟨b, by rw [rx.at_], kk _ S _ H (.refl rs) (.of _) q⟩)
  · obtain ⟨v, rfl, rx⟩ := rd.one'
    exact call_int1 pins s σ H _ us Q I r (.inl ⟨b, by rw [rx.at_], kk _ S _ H (.refl rs) (.of _) q⟩)

/-! ### a list times an int -/
def mulL : RD2 := fun x y S Q => ∃ a i xs, x = .ref a ∧ y = .int i ∧ S a = some (.lst xs) ∧ -(2 ^ 63) ≤ i ∧ i < 2 ^ 63 ∧ xs.length * i.toNat ≤ sizeLine ∧ Q (.fl (List.replicate i.toNat xs).flatten) S
theorem rds_rep {K : Kx} {H : Hp} {S : Sto} {vs : List V} {ds : List D} (r : RDs K H S vs ds) : ∀ n, RDs K H S (List.replicate n vs).flatten (List.replicate n ds).flatten
  | 0 => .nil
  | n + 1 => by
    rw [List.replicate_succ, List.replicate_succ, List.flatten_cons, List.flatten_cons]
    exact r.append (rds_rep r n)
theorem od_mulL : OpR X (binaryOp .Mult) (l2 X.K mulL) := by
  intro pins s σ H v u vv uu Q I rv ru h'
  obtain ⟨N, x, y, S, Q', rx, ry, rs, ⟨a, i, xs, rfl, rfl, e, h1, h2, hz, q⟩, kk⟩ := h'
  obtain ⟨vs, h3, h4⟩ := rs.ob a _ e
  refine op_rep pins s σ H _ _ _ _ Q I rv ru ⟨a, i, vs, rx.at_, ry.at_, h3, h1, h2, by rw [h4.length]; exact hz, fun p np => ?_⟩
  obtain ⟨b1, r1⟩ := new_fl rs np (rds_rep h4 i.toNat)
  exact kk _ S _ _ b1 r1 q

/-! ### {"a": 1, ..}, all written -/
def dDlit (kvs : List (Key × V)) : TDE := fun _ S Q => ∀ p, S p = none → Q (.ref p) (up S p (.dk ((mergeK [] kvs).map fun q => (q.1, .at q.2))))
theorem tPairs_lit : ∀ (kvs : List (Key × V)) (σ : L2.St) (H : Hp) (Q : List (V × V) → Hp → Prop), Q (kvs.map fun kv => (kV kv.1, kv.2)) H → tPairs (kvs.map fun kv => (tC (kV kv.1), tC kv.2)) σ H Q
  | [], _, _, _, q => q
  | (k, v) :: r, σ, H, Q, q => tPairs_lit r σ H _ q
theorem de_dlit (kvs : List (Key × V)) {keys : List (Option Expr)} {values : List Expr} {pos : Pos} (h : PPs X pos keys values (kvs.map fun kv => (tC (kV kv.1), tC kv.2))) (hall : keys.all (·.isSome) = true := by rfl) (hl : keys.length = values.length := by rfl) (h0 : keys ≠ [] := by exact List.cons_ne_nil _ _)
    (h15 : keys.length ≤ 15 := by decide) (h16 : kvs.length ≤ 15 := by decide) : PE X (.Dict keys values pos) (lE X.K (dDlit kvs)) :=
  PE.wk (pe_disp h hall hl h0 h15) fun σ H Q ⟨N, δ, S, Q', re, rs, q, kk⟩ p np => by
    refine tPairs_lit kvs σ _ _ ⟨upd_same, kvs, rfl, h16, ?_⟩
    have e : upd (upd H p (.dK [])) p (.dK (mergeK [] kvs)) = upd H p (.dK (mergeK [] kvs)) := by
      funext a
      unfold upd
      split <;> rfl
    rw [e]
    obtain ⟨b1, b2⟩ := rs.new (o := .dK (mergeK [] kvs)) (m := .dk ((mergeK [] kvs).map fun q => (q.1, .at q.2))) np fun le => ⟨_, upd_same, by rw [List.map_map]; rfl, by
      have := RDs.of_atoms (K := ⟨X.K, N⟩) (H := upd H p (.dK (mergeK [] kvs))) (S := up S p (.dk ((mergeK [] kvs).map fun q => (q.1, .at q.2)))) ((mergeK [] kvs).map (·.2))
      rw [List.map_map] at this ⊢
      exact this⟩
    exact kk _ _ _ _ ⟨b2, b1⟩ (.of _) (q p (rs.free np))

/-! ### a, b, .. = a list -/
def gdLst (n : Nat) (t : TDGs) : TDG := fun d δ S Q => ∃ ds, lsOf S d = some ds ∧ ds.length = n ∧ t ds δ S Q
theorem dg_lst {es : List Expr} {kk : Nat} {pos : Pos} {t : TDGs} {n : Nat} (hc : X.calm = true) (h : PGs X es (lGs X.K t))
    (hn : (assignEach es X.env).length = n := by rfl) (hst : (assignEach es X.env).findIdx? (·.1) = none := by rfl) : PG X (.Tuple es kk pos) (lG X.K (gdLst n t)) :=
  PG.wk (pg_unl hc h hn hst) fun v σ H Q ⟨N, d, δ, S, Q', rd, re, rs, q, k⟩ => by
    obtain ⟨ds, hl, hn', q⟩ := q
    obtain ⟨a, vs, rfl, sq, rv⟩ := ls_sq rs rd hl
    exact ⟨a, vs, rfl, sq, by rw [rv.length, hn'], N, ds, δ, S, Q', rv, re, rs, q, k⟩

/-! ### sorted(d), fewer than 64 keys, texts -/
def srtDk : RDL := fun ds S Q => ∃ a kvs, ∃ ks : List Str, ds = [.ref a] ∧ S a = some (.dk kvs) ∧ kvs.map (·.1) = ks.map Sum.inr ∧ ks.length < 64 ∧ ∀ ys : List Str, ys.Perm ks → sortedS ys = true → Q (.fl (ys.map D.str)) S
theorem cd_sortedDk (hc : X.calm = true) : CallR X (.builtin "sorted") (lL X.K srtDk) := by
  intro pins s σ H vs us Q I r hh
  obtain ⟨N, ds, S, Q', rd, rs, ⟨a, kvs, ks, rfl, e, hk, h64, q⟩, kk⟩ := hh
  obtain ⟨v, rfl, rx⟩ := rd.one'
  have := rx.at_
  subst this
  obtain ⟨gs, h1, h2, h3⟩ := rs.ob a _ e
  refine call_sortedD hc pins s σ H _ us Q I r ⟨a, gs, ks, rfl, .inl h1, h2.trans hk, h64, fun ys p hp hs np => ?_⟩
  obtain ⟨b1, r1⟩ := new_fl rs np (rds_strs ys)
  exact kk _ S _ _ b1 r1 (q ys hp hs)
end
end DL

/-! Data layer, seventeenth part: a written dict's facts. -/
namespace DL
open PySem L2 PyProof.Rows
theorem look_all {K : PySem.W.Frag} {w : World} {a : Addr} (kvs : List (Str × Str)) (h : ∀ q ∈ kvs, KDct K w a q.1 (.str q.2)) : ∀ z v, lookS kvs z = some v → KDct K w a z (.str v) := by
  intro z v e
  unfold lookS at e
  obtain ⟨q, hq, rfl⟩ := Option.map_eq_some_iff.mp e
  have h1 := List.find?_some hq
  have h2 : q.1 = z := by simpa using h1
  subst h2
  exact h q (List.mem_of_find?_eq_some hq)
end DL

/-! Data layer, eighteenth part: words for the newer readings. -/
namespace DL
open PySem L2 PyProof.Rows
theorem zip_at {a b : D} {ds es : List D} {S : Sto} {i : Nat} {x y : D} (h1 : sdOf S a = some ds) (h2 : sdOf S b = some es) (hx : ds[i]? = some x) (hy : es[i]? = some y) : zipMI a b i S = some (some (.tup [x, y])) := by
  have l1 := (List.getElem?_eq_some_iff.mp hx).1
  have l2 := (List.getElem?_eq_some_iff.mp hy).1
  unfold zipMI
  rw [h1, h2]
  simp only [Option.bind_some]
  rw [if_pos ⟨by omega, by omega⟩, hx, hy]
  rfl
theorem zip_no {a b : D} {ds es : List D} {S : Sto} {i : Nat} (h1 : sdOf S a = some ds) (h2 : sdOf S b = some es) (hi : i ≤ ds.length) (hj : i ≤ es.length) (he : i = ds.length ∨ i = es.length) : zipMI a b i S = some none := by
  unfold zipMI
  rw [h1, h2]
  simp only [Option.bind_some]
  rw [if_pos ⟨hi, hj⟩]
  rcases he with rfl | rfl
  · rw [List.getElem?_eq_none (Nat.le_refl _)]; rfl
  · rw [List.getElem?_eq_none (l := es) (Nat.le_refl _)]
    cases ds[es.length]? <;> rfl
theorem sl_t {xs : List D} {lo hi : Option Int} {S : Sto} {Q : KD} {mu : Bool} (q : Q (.tup (cutD xs lo hi)) S) : sliceD mu (.tup xs) lo hi S Q := q
theorem cut_1 (x : D) (xs : List D) : cutD (x :: xs) (some 1) none = xs := by
  unfold cutD
  simp [HT.sIx]
/-- a list that is handed back and that nobody else holds -/
theorem rt_fl {p : Addr} {ds : List D} {S : Sto} {Q : KD} (h : S p = some (.lst ds)) (q : Q (.fl ds) (del S p)) : ∃ d1 S1, VW (.ref p) S d1 S1 ∧ Q d1 S1 := ⟨_, _, .fz sub_del h del_same, q⟩
theorem del_up {S : Sto} {p : Addr} {o : MO} (h : S p = none) : del (up S p o) p = S := by
  funext a
  by_cases e : a = p
  · subst e; rw [del_same, h]
  · rw [del_ne e, up_ne e]
/-- a dict made of items that stand -/
theorem dc_seq {ds : List D} {S0 : Sto} {Nx : Sto → Prop} {B : (Nat → Sto → Prop) → Nat → D → Sto → Prop} (Pv : Nat → Sto → Prop) (h0 : Pv 0 S0)
    (hs : ∀ i x S, ds[i]? = some x → Pv i S → B Pv i x S) (hd : ∀ i S, ds.length ≤ i → Pv i S → Nx S) :
    ∃ (W : Nat → Sto → Prop) (n : Nat), W 0 S0 ∧ ∀ i S2, W i S2 → ∃ r, seqI ds i S2 = some r ∧ (r = none → Nx S2) ∧ ∀ x, r = some x → i < n ∧ B W i x S2 :=
  ⟨Pv, ds.length, h0, fun i S p => ⟨ds[i]?, rfl, fun e => hd i S (List.getElem?_eq_none_iff.mp e) p, fun x e => ⟨(List.getElem?_eq_some_iff.mp e).1, hs i x S e p⟩⟩⟩
/-- handed back, and a thing forgotten that was new -/
theorem rt_up {d : D} {p : Addr} {o : MO} {S : Sto} {Q : KD} (h : S p = none) (q : Q d S) : ∃ d1 S1, VW d (up S p o) d1 S1 ∧ Q d1 S1 := by
  have e : Sub S (up S p o) := by
    have := sub_del (S := up S p o) (p := p)
    rw [del_up h] at this
    exact this
  exact rt_sub e q
end DL

/-! Data layer: objects of own classes: made, read, stored, their methods; lists of a comprehension that will be changed. -/
namespace DL
open PySem L2 PyProof.Rows
/-! ### attributes -/
def putFD (f : Str) (d : D) : List (Str × D) → List (Str × D)
  | [] => [(f, d)]
  | (g, w) :: r => if g = f then (g, d) :: r else (g, w) :: putFD f d r
theorem put_rel {K : Kx} {H : Hp} {S : Sto} {f : Str} {v : V} {d : D} (rv : RD K H S v d) : ∀ {gs : List (Str × V)} {fs : List (Str × D)}, gs.map (·.1) = fs.map (·.1) → RDs K H S (gs.map (·.2)) (fs.map (·.2)) →
    (L2.putF f v gs).map (·.1) = (putFD f d fs).map (·.1) ∧ RDs K H S ((L2.putF f v gs).map (·.2)) ((putFD f d fs).map (·.2))
  | [], [], _, _ => ⟨rfl, .cons rv .nil⟩
  | [], _ :: _, e, _ => by cases e
  | _ :: _, [], e, _ => by cases e
  | (g, w) :: gs, (g', w') :: fs, e, r => by
    rw [List.map_cons, List.map_cons, List.cons.injEq] at e
    obtain ⟨e1, e2⟩ := e
    dsimp only at e1
    subst e1
    obtain ⟨r1, r2⟩ := RDs.of_cons r
    show ((if g = f then (g, v) :: gs else (g, w) :: L2.putF f v gs) : List (Str × V)).map (·.1) = _ ∧ RDs K H S (((if g = f then (g, v) :: gs else (g, w) :: L2.putF f v gs) : List (Str × V)).map (·.2)) _
    unfold putFD
    by_cases h : g = f
    · rw [if_pos h, if_pos h]
      exact ⟨by rw [List.map_cons, List.map_cons, e2], .cons rv r2⟩
    · rw [if_neg h, if_neg h]
      obtain ⟨a, b⟩ := put_rel rv e2 r2
      exact ⟨by rw [List.map_cons, List.map_cons, a], .cons r1 b⟩
theorem look_rel {K : Kx} {H : Hp} {S : Sto} {f : Str} : ∀ {gs : List (Str × V)} {fs : List (Str × D)}, gs.map (·.1) = fs.map (·.1) → RDs K H S (gs.map (·.2)) (fs.map (·.2)) →
    (fs.lookup f = none → gs.lookup f = none) ∧ ∀ d, fs.lookup f = some d → ∃ v, gs.lookup f = some v ∧ RD K H S v d
  | [], [], _, _ => ⟨fun _ => rfl, fun _ e => by cases e⟩
  | [], _ :: _, e, _ => by cases e
  | _ :: _, [], e, _ => by cases e
  | (g, w) :: gs, (g', w') :: fs, e, r => by
    rw [List.map_cons, List.map_cons, List.cons.injEq] at e
    obtain ⟨e1, e2⟩ := e
    dsimp only at e1
    subst e1
    obtain ⟨r1, r2⟩ := RDs.of_cons r
    obtain ⟨a, b⟩ := look_rel (f := f) e2 r2
    rw [List.lookup_cons, List.lookup_cons]
    cases h : (f == g) with
    | true => exact ⟨fun e => (nomatch (show some w' = none from e)), fun d e => by
      have e : some w' = some d := e
      cases e
      exact ⟨w, rfl, r1⟩⟩
    | false => exact ⟨a, b⟩
section
variable {X : Cx} {CX : CXT} {k k' : Nat} {f C : Addr} {fd : FuncData} {ps : List Str} {sp : Sp} {E : XK}
variable {x m fn : Str} {p pos apos : Pos} {e o value : Expr} {es : List Expr} {ta : TE} {t : TA} {dv : List V} {ds : List Value}
theorem pg_meth {pl : Sem Bool} (he : PE X o ta) (c : Cls X.K C) (hm : Meth X.K C m f) (G : CallG X f sp E dv) (ha : PA X (e :: es) t)
    (hst : starEach (e :: es) X.env = (false, eval e X.env) :: starEach es X.env := by rfl) (hpl : (backTo pos (starEach es X.env)).any (·.1) = false := by rfl)
    (ht : eval (.Call (.Attribute o m apos) (e :: es) [] pos) X.env = (do
      let ov ← eval o X.env
      standAt apos.atName
      let (f, first) ← holding [ov] (getMethod ov m pl)
      callWith pos f first (backTo pos (starEach (e :: es) X.env)) (backToKw pos (keywordEach [] X.env))) := by rfl) :
    PE X (.Call (.Attribute o m apos) (e :: es) [] pos) (tMeth C m sp dv E ta t) := by
  constructor
  intro pins s σ H Q I h
  refine PySem.W.methodCall_KW (thn (he.run pins s σ H _ I h) ?_) ht
  rintro u s1 ⟨x, H1, I1, rx, a, dx, fs, rfl, ea, l, q⟩
  cases rx
  refine getmeth_ok I1 ea c hm l ?_
  refine PySem.W.callWith_K (h₀ := X.base) I1.ok.mod.kin hm.kp ?_ hst hpl
  refine thn (ha.run pos pins s1 σ H1 _ I1 q) ?_
  rintro us s2 ⟨vs, H2, I2, r, q2⟩
  exact ⟨I2.kIn, G pins σ H2 s2 Q (.ref a :: us) (.ref a :: vs) I2 (.cons rfl r) q2⟩
theorem pg_meth0 {pl : Sem Bool} (he : PE X o ta) (c : Cls X.K C) (hm : Meth X.K C m f) (G : CallG X f sp E dv)
    (ht : eval (.Call (.Attribute o m apos) [] [] pos) X.env = (do
      let ov ← eval o X.env
      standAt apos.atName
      let (f, first) ← holding [ov] (getMethod ov m pl)
      callWith pos f first (backTo pos (starEach [] X.env)) (backToKw pos (keywordEach [] X.env))) := by rfl) :
    PE X (.Call (.Attribute o m apos) [] [] pos) (tMeth C m sp dv E ta tNil) := by
  constructor
  intro pins s σ H Q I h
  refine PySem.W.methodCall_KW (thn (he.run pins s σ H _ I h) ?_) ht
  rintro u s1 ⟨x, H1, I1, rx, a, dx, fs, rfl, ea, l, q⟩
  cases rx
  refine getmeth_ok I1 ea c hm l ?_
  refine PySem.W.callWith_K0 I1.kIn hm.kp ?_
  exact G pins σ H1 s1 Q [.ref a] [.ref a] I1 (.cons rfl .nil) q
theorem run_makeG {pins : List (Addr × Obj)} {σ : L2.St} {H : Hp} {s : Shared} {Q : VK} {us : List Value} {vs : List V} (M : Mk X.K C f) (F : FnG X.prog X.w X.K X.mg X.base CX k f fd ps sp) (hr : Rg (k + 1) X.A) (hb : Binds X.K fd ps ds) (hd : Vals dv ds) (hx : Passes CX X E) (I : Inv X pins σ H s) (r : Vals vs us)
    (h : ∀ x dx : Addr, H x = none → H dx = none → dx ≠ x → sp (V.ref x :: (vs ++ dv)) (upd (upd H dx (.own x)) x (.ins C dx [])) (fun v H2 => v = V.non ∧ Q (V.ref x) H2) E) :
    wpAny (model X.prog X.w) X.A (call (.ref C) us) (EP X pins σ Q) X.xe s := by
  have hq := h (s.heap.objs.size + 1) s.heap.objs.size (I.hok.fresh (Nat.le_succ _)) (I.hok.fresh (Nat.le_refl _)) (Nat.ne_of_lt (Nat.lt_succ_self _))
  have I2 := I.made (C := C)
  have r2 : Vals (V.ref (s.heap.objs.size + 1) :: (vs ++ dv)) (Value.ref (s.heap.objs.size + 1) :: (us ++ ds)) := .cons rfl (r.append hd)
  have hl : (Value.ref (s.heap.objs.size + 1) :: (us ++ ds)).length = ps.length := r2.length.symm.trans (F.len _ _ _ _ hq)
  apply wpAny_call
  refine make_map I.kIn M.makes M.init (beq_iff_eq.mp M.fn) ?_
  refine codeAny_mono (F.run (X.A.under (Code.builtin "type.__call__" { pos := Value.ref C :: us })) X.stack _ _ ⟨Value.ref (s.heap.objs.size + 1) :: us, []⟩ (Value.ref (s.heap.objs.size + 1) :: (us ++ ds)) (V.ref (s.heap.objs.size + 1) :: (vs ++ dv)) _ E (hr.r.make C us []) ?_ (Env0.make I2.env0 C us []) (hb _ (Value.ref (s.heap.objs.size + 1) :: us) I2.kIn hl) r2 hq) ?_
  · have e : Code.guards (Code.builtin "type.__call__" { pos := Value.ref C :: us }) = [] := by
      unfold Code.guards
      rw [if_neg (by simp [Code.isGuard]; decide +kernel)]
    unfold Around.under
    dsimp only
    rw [e, hr.g]
    rfl
  · intro res s' hq'
    match res, hq' with
    | .error e, hq' => exact hx pins σ _ _ e s' I2 hq'
    | .ok .next, hq' => exact hq'.elim
    | .ok .brk, hq' => exact hq'.elim
    | .ok .cont, hq' => exact hq'.elim
    | .ok (.ret u), hq' =>
      obtain ⟨v, H', I3, rv, ev, q3⟩ := I2.after hq'
      subst ev
      exact ⟨rv, V.ref (s.heap.objs.size + 1), H', I3, rfl, q3⟩
theorem pg_make (M : Mk X.K C f) (F : FnG X.prog X.w X.K X.mg X.base CX k f fd ps sp) (hr : Rg (k + 1) X.A) (hg : Gl X x) (hm : X.mg x = some (.ref C)) (hb : Binds X.K fd ps ds) (hd : Vals dv ds) (hx : Passes CX X E) (ha : PA X (e :: es) t) (hdb : (x == ("__debug__" : Str)) = false := by decide)
    (he : starEach (e :: es) X.env = (false, eval e X.env) :: starEach es X.env := by rfl) (hpl : (backTo pos (starEach es X.env)).any (·.1) = false := by rfl) : PE X (.Call (.Name x p) (e :: es) [] pos) (tMake C sp dv E t) := by
  constructor
  intro pins s σ H Q I h
  apply wpAny_Call_Name_kw
  apply ld_glob I hg hm _ hdb
  apply PySem.W.callWith_K (h₀ := X.base) I.ok.mod.kin M.kp _ he hpl
  apply thn (ha.run pos pins s σ H _ I h)
  rintro us s1 ⟨vs, H1, I1, rv, q⟩
  exact ⟨I1.kIn, run_makeG M F hr hb hd hx I1 rv q⟩
theorem pg_make0 (M : Mk X.K C f) (F : FnG X.prog X.w X.K X.mg X.base CX k f fd ps sp) (hr : Rg (k + 1) X.A) (hg : Gl X x) (hm : X.mg x = some (.ref C)) (hb : Binds X.K fd ps ds) (hd : Vals dv ds) (hx : Passes CX X E) (hdb : (x == ("__debug__" : Str)) = false := by decide) : PE X (.Call (.Name x p) [] [] pos) (tMake C sp dv E tNil) := by
  constructor
  intro pins s σ H Q I h
  apply wpAny_Call_Name_kw
  apply ld_glob I hg hm _ hdb
  apply PySem.W.callWith_K0 I.kIn M.kp
  exact run_makeG M F hr hb hd hx I .nil h
end
/-! ### over data -/
section
variable {X : Cx} {k k' : Nat} {C : Addr} {ps : List Str} {sp : SpD} {st : Stmt}
variable {x m qual fn : Str} {p pos apos : Pos} {e o value : Expr} {es : List Expr} {ta tv : TDE} {t : TDA}
/-- the attribute's value -/
def dFld (C : Addr) (f : Str) (ta : TDE) : TDE := fun δ S Q => ta δ S fun x S1 => ∃ a fs d, x = .ref a ∧ S1 a = some (.ins C fs) ∧ fs.lookup f = some d ∧ Q d S1
theorem de_fld (c : Cls X.K C) (n : NoAttr X.K C fn) (he : PE X o (lE X.K ta)) (hb : attributeBase o fn X.env (eval o X.env) = eval o X.env := by rfl) : PE X (.Attribute o fn pos) (lE X.K (dFld C fn ta)) :=
  PE.wk (pe_fld he hb) fun σ H Q ⟨N, δ, S, Q', re, rs, q, kk⟩ => by
    refine ⟨N, δ, S, _, re, rs, q, fun x S1 v H1 b1 rx q1 => ?_⟩
    obtain ⟨a, fs, d, rfl, e, l, q1⟩ := q1
    obtain ⟨dx, gs, h1, h2, h3⟩ := b1.rs.ob a _ e
    obtain ⟨w, h4, h5⟩ := (look_rel h2 h3).2 d l
    exact ⟨a, C, dx, gs, w, rx.at_, h1, c, n, h4, kk d S1 w H1 b1 h5 q1⟩
/-- o.f = value -/
def dFldSet (C : Addr) (f : Str) (ta tv : TDE) : TDS := fun D δ S => tv δ S fun y S1 => ta δ S1 fun x S2 => ∃ a fs, x = .ref a ∧ S2 a = some (.ins C fs) ∧ fs.length < 1000 ∧ D.nx δ (up S2 a (.ins C (putFD f y fs)))
theorem ds_fld (c : Cls X.K C) (n : NoAttr X.K C fn) (ho : PE X o (lE X.K ta)) (hv : PE X value (lE X.K tv)) (hs : swapsWith value (some (.Attribute o fn apos)) pos.line X.env = pure false := by rfl) : PS X (.Assign [.Attribute o fn apos] value pos) (lS X.K (dFldSet C fn ta tv)) :=
  PS.wk (ps_fld ho hv hs) fun D σ H ⟨N, δ, S, D', re, rs, q, l⟩ => by
    refine ⟨N, δ, S, _, re, rs, q, fun y S1 v H1 b1 ry q1 => ?_⟩
    refine ⟨N, δ, S1, _, re.le (rs.le b1.fr), b1.rs, q1, fun x S2 u H2 b2 rx q2 => ?_⟩
    obtain ⟨a, fs, rfl, e, hl, q2⟩ := q2
    obtain ⟨dx, gs, h1, h2, h3⟩ := b2.rs.ob a _ e
    have ry2 := ry.le (b1.rs.le b2.fr)
    obtain ⟨p1, p2⟩ := put_rel (f := fn) ry2 h2 h3
    obtain ⟨c1, c2⟩ := b2.rs.write (o := .ins C dx (L2.putF fn v gs)) (m' := .ins C (putFD fn y fs)) e fun le => ⟨dx, _, upd_same, p1, p2.le le⟩
    have bb := (b1.trans b2).trans ⟨c2, c1⟩
    refine ⟨a, C, dx, gs, rx.at_, h1, c, n, ?_, l.nx δ _ σ _ bb (re.le (rs.le bb.fr)) q2⟩
    have := congrArg List.length h2
    rw [List.length_map, List.length_map] at this
    omega
/-- o.f += value, of ints -/
def dFldAdd (C : Addr) (f : Str) (ta tv : TDE) : TDS := fun D δ S => ta δ S fun x S1 => ∃ a fs i, x = .ref a ∧ S1 a = some (.ins C fs) ∧ fs.lookup f = some (.int i) ∧ tv δ S1 fun y S2 => ∃ j fs', y = .int j ∧ S2 a = some (.ins C fs') ∧ fs'.length < 1000 ∧ D.nx δ (up S2 a (.ins C (putFD f (.int (i + j)) fs')))
theorem ds_fldAdd (c : Cls X.K C) (n : NoAttr X.K C fn) (ho : PE X o (lE X.K ta)) (hv : PE X value (lE X.K tv)) : PS X (.AugAssign (.Attribute o fn apos) .Add value pos) (lS X.K (dFldAdd C fn ta tv)) :=
  PS.wk (ps_fldaug ho hv in_add) fun D σ H ⟨N, δ, S, D', re, rs, q, l⟩ => by
    refine ⟨N, δ, S, _, re, rs, q, fun x S1 v H1 b1 rx q1 => ?_⟩
    obtain ⟨a, fs, i, rfl, e, l0, q1⟩ := q1
    obtain ⟨dx, gs, h1, h2, h3⟩ := b1.rs.ob a _ e
    obtain ⟨w, h4, h5⟩ := (look_rel h2 h3).2 _ l0
    refine ⟨a, C, dx, gs, w, rx.at_, h1, c, n, h4, N, δ, S1, _, re.le (rs.le b1.fr), b1.rs, q1, fun y S2 u H2 b2 ry q2 => ?_⟩
    obtain ⟨j, fs', rfl, e', hl, q2⟩ := q2
    obtain ⟨dx', gs', g1, g2, g3⟩ := b2.rs.ob a _ e'
    refine ⟨i, j, h5.at_, ry.at_, dx', gs', g1, ?_, ?_⟩
    · have := congrArg List.length g2
      rw [List.length_map, List.length_map] at this
      omega
    · obtain ⟨p1, p2⟩ := put_rel (f := fn) (RD.of (K := ⟨X.K, N⟩) (H := H2) (S := S2) (.int (i + j))) g2 g3
      obtain ⟨c1, c2⟩ := b2.rs.write (o := .ins C dx' (L2.putF fn (.int (i + j)) gs')) (m' := .ins C (putFD fn (.int (i + j)) fs')) e' fun le => ⟨dx', _, upd_same, p1, p2.le le⟩
      have bb := (b1.trans b2).trans ⟨c2, c1⟩
      exact l.nx δ _ σ _ bb (re.le (rs.le bb.fr)) q2
/-- a method of own classes, as its callers know it -/
structure CalM (P : Program) (w : World) (K : PySem.W.Frag) (mg : Str → Option Value) (base : Heap) (k : Nat) (C : Addr) (m qual : Str) (st : Stmt) (ps : List Str) (sp : SpD) : Prop where
  ex : ∃ f fd, FnD P w K mg base CX0 k f fd ps sp ∧ Binds K fd ps [] ∧ Meth K C m f ∧ Fun K m qual st f fd
/-- how an instance is made -/
structure CalI (P : Program) (w : World) (K : PySem.W.Frag) (mg : Str → Option Value) (base : Heap) (k : Nat) (C : Addr) (x qual : Str) (st : Stmt) (ps : List Str) (sp : SpD) : Prop where
  ex : ∃ f fd, FnD P w K mg base CX0 k f fd ps sp ∧ Binds K fd ps [] ∧ Mk K C f ∧ mg x = some (.ref C) ∧ Fun K "__init__" qual st f fd
def dMeth (C : Addr) (m : Str) (sp : SpD) (E : XD) (ta : TDE) (t : TDA) : TDE := fun δ S Q => ta δ S fun x S1 => ∃ a fs, x = .ref a ∧ S1 a = some (.ins C fs) ∧ fs.lookup m = none ∧ t δ S1 fun ds S2 => sp (.ref a :: ds) S2 Q E
theorem lift_meth {σ : L2.St} {H : Hp} {Q : VK} (h : lE X.K (dMeth C m sp X0 ta t) σ H Q) : tMeth C m (lSp X.K sp) [] E0 (lE X.K ta) (lA X.K t) σ H Q := by
  obtain ⟨N, δ, S, Q', re, rs, q, kk⟩ := h
  refine ⟨N, δ, S, _, re, rs, q, fun x S1 v H1 b1 rx q1 => ?_⟩
  obtain ⟨a, fs, rfl, e, l, q1⟩ := q1
  obtain ⟨dx, gs, h1, h2, h3⟩ := b1.rs.ob a _ e
  refine ⟨a, dx, gs, rx.at_, h1, (look_rel h2 h3).1 l, N, δ, S1, _, re.le (rs.le b1.fr), b1.rs, q1, fun ds S2 vs H2 b2 r2 q2 => ?_⟩
  show lSp X.K sp (v :: (vs ++ [])) H2 Q E0
  rw [List.append_nil, ← lX0 (K := X.K), rx.at_]
  exact lift_sp (.cons (.of _) r2) b2.rs q2 fun d S' v H' b3 => kk d S' v H' ((b1.trans b2).trans b3)
theorem de_mt (M : CalM X.prog X.w X.K X.mg X.base k C m qual st ps sp) (c : Cls X.K C) (hr : Rg k' X.A) (ho : PE X o (lE X.K ta)) (ha : PA X (e :: es) (lA X.K t)) (hk : k ≤ k' := by decide) {pl : Sem Bool}
    (hst : starEach (e :: es) X.env = (false, eval e X.env) :: starEach es X.env := by rfl) (hpl : (backTo pos (starEach es X.env)).any (·.1) = false := by rfl)
    (ht : eval (.Call (.Attribute o m apos) (e :: es) [] pos) X.env = (do
      let ov ← eval o X.env
      standAt apos.atName
      let (f, first) ← holding [ov] (getMethod ov m pl)
      callWith pos f first (backTo pos (starEach (e :: es) X.env)) (backToKw pos (keywordEach [] X.env))) := by rfl) :
    PE X (.Call (.Attribute o m apos) (e :: es) [] pos) (lE X.K (dMeth C m sp X0 ta t)) := by
  obtain ⟨f, fd, F, b, mm, fn⟩ := M.ex
  exact PE.wk (pg_meth ho c mm (F.call (hr.mono hk) b .nil pass0) ha hst hpl ht) fun σ H Q h => lift_meth h
theorem de_mt0 (M : CalM X.prog X.w X.K X.mg X.base k C m qual st ps sp) (c : Cls X.K C) (hr : Rg k' X.A) (ho : PE X o (lE X.K ta)) (hk : k ≤ k' := by decide) {pl : Sem Bool}
    (ht : eval (.Call (.Attribute o m apos) [] [] pos) X.env = (do
      let ov ← eval o X.env
      standAt apos.atName
      let (f, first) ← holding [ov] (getMethod ov m pl)
      callWith pos f first (backTo pos (starEach [] X.env)) (backToKw pos (keywordEach [] X.env))) := by rfl) :
    PE X (.Call (.Attribute o m apos) [] [] pos) (lE X.K (dMeth C m sp X0 ta dNil)) := by
  obtain ⟨f, fd, F, b, mm, fn⟩ := M.ex
  refine PE.wk (pg_meth0 ho c mm (F.call (hr.mono hk) b .nil pass0) ht) fun σ H Q h => ?_
  obtain ⟨N, δ, S, Q', re, rs, q, kk⟩ := h
  refine ⟨N, δ, S, _, re, rs, q, fun x S1 v H1 b1 rx q1 => ?_⟩
  obtain ⟨a, fs, rfl, e, l, q1⟩ := q1
  obtain ⟨dx, gs, h1, h2, h3⟩ := b1.rs.ob a _ e
  refine ⟨a, dx, gs, rx.at_, h1, (look_rel h2 h3).1 l, ?_⟩
  show lSp X.K sp ([v] ++ []) H1 Q E0
  rw [List.append_nil, ← lX0 (K := X.K), rx.at_]
  exact lift_sp (.cons (.of _) .nil) b1.rs q1 fun d S' v H' b3 => kk d S' v H' (b1.trans b3)
def dMake (C : Addr) (sp : SpD) (E : XD) (t : TDA) : TDE := fun δ S Q => t δ S fun ds S1 => ∀ x, S1 x = none → sp (.ref x :: ds) (up S1 x (.ins C [])) (fun d S2 => d = .non ∧ Q (.ref x) S2) E
theorem make_rs {K : Kx} {H : Hp} {S : Sto} (rs : RS K H S) {x dx : Addr} (nx : H x = none) (ndx : H dx = none) (ne : dx ≠ x) : Bh K H S (upd (upd H dx (.own x)) x (.ins C dx [])) (up S x (.ins C [])) := by
  obtain ⟨r1, f1, _⟩ := rs.laid (o := .own x) ndx
  have n2 : (upd H dx (.own x)) x = none := by rw [upd_ne ne.symm]; exact nx
  obtain ⟨r2, f2⟩ := r1.new (o := .ins C dx []) (m := .ins C []) n2 fun _ => ⟨dx, [], upd_same, rfl, .nil⟩
  exact ⟨f1.trans f2, r2⟩
theorem de_mk (M : CalI X.prog X.w X.K X.mg X.base k C x qual st ps sp) (hr : Rg k' X.A) (ha : PA X (e :: es) (lA X.K t)) (hk : k + 1 ≤ k' := by decide) (hg : Gl X x := by rfl) (hdb : (x == ("__debug__" : Str)) = false := by decide)
    (he : starEach (e :: es) X.env = (false, eval e X.env) :: starEach es X.env := by rfl) (hpl : (backTo pos (starEach es X.env)).any (·.1) = false := by rfl) : PE X (.Call (.Name x p) (e :: es) [] pos) (lE X.K (dMake C sp X0 t)) := by
  obtain ⟨f, fd, F, b, mm, mg, fn⟩ := M.ex
  refine PE.wk (pg_make mm F (hr.mono hk) hg mg b .nil pass0 ha hdb he hpl) fun σ H Q h => ?_
  obtain ⟨N, δ, S, Q', re, rs, q, kk⟩ := h
  refine ⟨N, δ, S, _, re, rs, q, fun ds S1 vs H1 b1 r1 q1 x dx nx ndx ne => ?_⟩
  have bm := make_rs (C := C) b1.rs nx ndx ne
  rw [List.append_nil, ← lX0 (K := X.K)]
  exact lift_sp (.cons (.of _) (r1.le (b1.rs.le bm.fr))) bm.rs (q1 x (b1.rs.free nx)) fun d S' v H' b3 rv q3 => by
    obtain ⟨rfl, q3⟩ := q3
    exact ⟨rv.at_, kk _ S' _ H' ((b1.trans bm).trans b3) (.of _) q3⟩
theorem de_mk0 (M : CalI X.prog X.w X.K X.mg X.base k C x qual st ps sp) (hr : Rg k' X.A) (hk : k + 1 ≤ k' := by decide) (hg : Gl X x := by rfl) (hdb : (x == ("__debug__" : Str)) = false := by decide) : PE X (.Call (.Name x p) [] [] pos) (lE X.K (dMake C sp X0 dNil)) := by
  obtain ⟨f, fd, F, b, mm, mg, fn⟩ := M.ex
  refine PE.wk (pg_make0 mm F (hr.mono hk) hg mg b .nil pass0 hdb) fun σ H Q h => ?_
  obtain ⟨N, δ, S, Q', re, rs, q, kk⟩ := h
  show ∀ x dx, _
  intro x dx nx ndx ne
  have bm := make_rs (C := C) rs nx ndx ne
  show lSp X.K sp (V.ref x :: ([] ++ [])) _ _ E0
  rw [List.append_nil, ← lX0 (K := X.K)]
  exact lift_sp (.cons (.of _) .nil) bm.rs (q x (rs.free nx)) fun d S' v H' b3 rv q3 => by
    obtain ⟨rfl, q3⟩ := q3
    exact ⟨rv.at_, kk _ S' _ H' (bm.trans b3) (.of _) q3⟩
end
/-! ### lists of a comprehension that will be changed -/
section
variable {X : Cx}
/-- [e for x in .. if ..]: W by the turn, what is made so far, the store; nobody will change the new list -/
def dLcM (wi : TDI) (g : TDG) (tt : TDT) (te : TDE) (vs : List Nat) : TDE := fun δ S Q => wi δ S fun J S1 => ∃ (W : Nat → List DL.D → Sto → Prop) (n : Nat), W 0 [] S1 ∧ ∀ i acc S2, W i acc S2 → ∃ r, J i S2 = some r ∧
  (r = none → ∀ A : Addr, S2 A = none → Q (.ref A) (up S2 A (.lst acc))) ∧
  ∀ x, r = some x → i < n ∧ acc.length < sizeLine ∧ g x (wipeD δ vs) S2 fun δ2 S3 => tt δ2 S3 fun b S4 =>
    if b = true then te δ2 S4 fun y S5 => W (i + 1) (acc ++ [y]) S5 else W (i + 1) acc S4
theorem lift_lcM {K : PySem.W.Frag} {wi : TDI} {gv : TG} {g : TDG} {tt : TDT} {te : TDE} (own : List (Str × Nat)) (hgd : ∀ N, TgC ⟨K, N⟩ (own.map (·.2)) gv g) {σ : L2.St} {H : Hp} {Q : VK} (h : lE K (dLcM wi g tt te (own.map (·.2))) σ H Q) : tLc (lI K wi) gv (lT K tt) (lE K te) (own.map (·.2)) σ H Q := by
  obtain ⟨N, δ, S, Q', re, rs, q, kk⟩ := h
  refine ⟨N, δ, S, _, re, rs, q, fun J S1 Jv H1 b1 rel q1 A hA => ?_⟩
  obtain ⟨W, n, w0, turn⟩ := q1
  have re1 := re.le (rs.le b1.fr)
  have nA := b1.rs.nhid hA
  have sA := b1.rs.free hA
  obtain ⟨M, hM⟩ : ∃ M : Addr → Prop, M = fun a => N a ∨ a = A := ⟨_, rfl⟩
  -- the new list is hidden while it is made
  obtain ⟨rsA, frA, leA⟩ := b1.rs.laid (o := .lst []) hA
  have leM : ∀ {H2 : Hp} {S2 : Sto}, TupLe ⟨K, M⟩ H2 S2 ⟨K, N⟩ H2 S2 := fun {H2 S2} => ⟨fun a xs z => z, fun _ _ z => z, fun a xs z => z.elim (fun ⟨z1, z2, z3⟩ => .inl ⟨z1, z2, fun hn => z3 (by rw [hM]; exact .inl hn)⟩) .inr⟩
  have leN : TupLe ⟨K, N⟩ H1 S1 ⟨K, M⟩ (upd H1 A (.lst [])) S1 := by
    refine ⟨leA.t, fun _ _ z => z, fun a xs z => ?_⟩
    rcases z with ⟨z1, z2, z3⟩ | z
    · have ne : a ≠ A := fun e => by subst e; rcases z1 with z1 | ⟨o, z1⟩ <;> (rw [hA] at z1; cases z1)
      refine .inl ⟨?_, z2, fun hm => ?_⟩
      · rcases z1 with z1 | ⟨o, z1⟩
        · exact .inl (by rw [upd_ne ne]; exact z1)
        · exact .inr ⟨o, by rw [upd_ne ne]; exact z1⟩
      · rw [hM] at hm; exact hm.elim z3 ne
    · exact .inr z
  have bM : Bh ⟨K, M⟩ H1 S1 (upd H1 A (.lst [])) S1 := by
    refine ⟨frA, fun a o e => ?_, fun a ha => ?_, fun a ha => ?_⟩
    · have ne : a ≠ A := fun z => by subst z; rw [sA] at e; cases e
      exact (b1.rs.ob a o e).le leN (upd_ne ne)
    · rw [hM] at ha
      rcases ha with ha | ha
      · exact hid_upd b1.rs.hid a ha
      · exact ⟨_, by rw [ha]; exact upd_same⟩
    · rw [hM] at ha
      rcases ha with ha | ha
      · exact b1.rs.hidS a ha
      · rw [ha]; exact sA
  -- what a turn leaves: seen without the new list
  have toN : ∀ {H2 : Hp} {S2 : Sto}, Bh ⟨K, M⟩ H1 S1 H2 S2 → Bh ⟨K, N⟩ H1 S1 H2 S2 := fun {H2 S2} b => ⟨b.fr, fun a o e => (b.rs.ob a o e).le leM rfl, fun a ha => b.rs.hid a (by show M a; rw [hM]; exact .inl ha), fun a ha => b.rs.hidS a (by show M a; rw [hM]; exact .inl ha)⟩
  have reM : RE ⟨K, M⟩ (upd H1 A (.lst [])) S1 σ δ := re1.le leN
  refine ⟨fun i m H2 => ∃ acc S2 vs, m = n - i ∧ W i acc S2 ∧ (Bh ⟨K, M⟩ H1 S1 H2 S2 ∧ TupLe ⟨K, N⟩ H1 S1 ⟨K, M⟩ H2 S2) ∧ RE ⟨K, M⟩ H2 S2 σ δ ∧ H2 A = some (.lst vs) ∧ S2 A = none ∧ RDs ⟨K, M⟩ H2 S2 vs acc, ⟨n, [], S1, [], rfl, w0, ⟨bM, leN⟩, reM, upd_same, sA, .nil⟩, ?_⟩
  rintro i m H2 ⟨acc, S2, us, rfl, w2, ⟨b2, l2⟩, re2, hA2, sA2, ra⟩
  obtain ⟨r, hr, hn, hgo⟩ := turn i acc S2 w2
  obtain ⟨r1, r2⟩ := rel M i H2 S2 b2 l2
  cases r with
  | none =>
    refine .inl ⟨r1 hr, ?_⟩
    have leU : TupLe ⟨K, M⟩ H2 S2 ⟨K, N⟩ H2 (up S2 A (.lst acc)) := ⟨fun a xs z => z, fun _ _ z => z, fun a xs z => z.elim (fun ⟨z1, z2, z3⟩ => .inl ⟨z1, by rw [up_ne (fun e => z3 (by show M a; rw [hM]; exact .inr e))]; exact z2, fun hn => z3 (by show M a; rw [hM]; exact .inl hn)⟩) .inr⟩
    have bU : Bh ⟨K, N⟩ H1 S1 H2 (up S2 A (.lst acc)) := by
      refine ⟨fun a o e n => ?_, fun a o e => ?_, fun a ha => b2.rs.hid a (by show M a; rw [hM]; exact .inl ha), fun a ha => ?_⟩
      · have ne : a ≠ A := fun z => by subst z; rw [hA] at e; cases e
        obtain ⟨z1, z2⟩ := b2.fr a o e n
        exact ⟨z1, by rw [up_ne ne]; exact z2⟩
      · by_cases z : a = A
        · subst z
          rw [up_same] at e
          cases e
          exact ⟨_, hA2, ra.le leU⟩
        · rw [up_ne z] at e
          exact (b2.rs.ob a o e).le leU rfl
      · have ne : a ≠ A := fun z => by subst z; exact nA ha
        rw [up_ne ne]
        exact b2.rs.hidS a (by show M a; rw [hM]; exact .inl ha)
    exact kk _ _ _ H2 (b1.trans bU) (.of _) (hn rfl A sA2)
  | some x =>
    obtain ⟨hlt, hsz, hgx⟩ := hgo x rfl
    obtain ⟨go, yl⟩ := r2 x hr
    refine .inr ⟨go, fun H' => ∃ acc' S' vs', W (i + 1) acc' S' ∧ (Bh ⟨K, M⟩ H1 S1 H' S' ∧ TupLe ⟨K, N⟩ H1 S1 ⟨K, M⟩ H' S') ∧ RE ⟨K, M⟩ H' S' σ δ ∧ H' A = some (.lst vs') ∧ S' A = none ∧ RDs ⟨K, M⟩ H' S' vs' acc', fun H' ⟨a', S', v', h1, h2, h3, h4, h5, h6⟩ => ⟨n - (i + 1), by omega, a', S', v', rfl, h1, h2, h3, h4, h5, h6⟩, fun v H3 y => ?_⟩
    obtain ⟨b3, rv⟩ := yl v H3 y
    have le3 := b2.rs.le b3.fr
    have fin : ∀ {H' : Hp} {S' : Sto}, Bh ⟨K, M⟩ H2 S2 H' S' → H' A = some (.lst us) ∧ S' A = none := fun {H' S'} b => b.fr A _ hA2 sA2
    -- a turn that adds nothing
    have skip : ∀ {H' : Hp} {S' : Sto}, Bh ⟨K, M⟩ H2 S2 H' S' → W (i + 1) acc S' → ∃ acc' S' vs', W (i + 1) acc' S' ∧ (Bh ⟨K, M⟩ H1 S1 H' S' ∧ TupLe ⟨K, N⟩ H1 S1 ⟨K, M⟩ H' S') ∧ RE ⟨K, M⟩ H' S' σ δ ∧ H' A = some (.lst vs') ∧ S' A = none ∧ RDs ⟨K, M⟩ H' S' vs' acc' := fun {H' S'} b w =>
      have le := b2.rs.le b.fr
      ⟨acc, S', us, w, ⟨b2.trans b, l2.trans le⟩, re2.le le, (fin b).1, (fin b).2, ra.le le⟩
    refine hgd M v x (wipe σ (own.map (·.2))) (wipeD δ (own.map (·.2))) H3 S2 _ _ rv (re_wipe (re2.le le3) _) b3.rs hgx fun σ4 H4 δ4 S4 e4 b4 re4 q4 => ?_
    refine ⟨e4.trans (wipe_wipe _ _), ?_⟩
    have b24 := b3.trans b4
    refine ⟨M, δ4, S4, _, re4, b4.rs, q4, fun c S5 H5 b5 q5 => ?_⟩
    have b25 := b24.trans b5
    cases c with
    | false =>
      rw [if_neg Bool.false_ne_true] at q5
      exact iteF (skip b25 q5)
    | true =>
      rw [if_pos rfl] at q5
      refine iteT ⟨M, δ4, S5, _, re4.le (b4.rs.le b5.fr), b5.rs, q5, fun y S6 u H6 b6 r6 q6 => ?_⟩
      have b26 := b25.trans b6
      obtain ⟨hA6, sA6⟩ := fin b26
      have le6 := b2.rs.le b26.fr
      refine ⟨us, hA6, by rw [ra.length]; exact hsz, ?_⟩
      have le7 : TupLe ⟨K, M⟩ H6 S6 ⟨K, M⟩ (upd H6 A (.lst (us ++ [u]))) S6 := by
        refine ⟨fun a xs z => ?_, fun _ _ z => z, fun a xs z => ?_⟩
        · rw [upd_ne (ne_of z hA6 (by intro w; cases w))]; exact z
        · rcases z with ⟨z1, z2, z3⟩ | z
          · have ne : a ≠ A := fun e => z3 (by show M a; rw [hM]; exact .inr e)
            refine .inl ⟨?_, z2, z3⟩
            rcases z1 with z1 | ⟨o, z1⟩
            · exact .inl (by rw [upd_ne ne]; exact z1)
            · exact .inr ⟨o, by rw [upd_ne ne]; exact z1⟩
          · exact .inr z
      have bb := b2.trans b26
      refine ⟨acc ++ [y], S6, us ++ [u], q6, ⟨⟨fun a o e n => ?_, fun a o e => ?_, fun a ha => hid_upd bb.rs.hid a ha, bb.rs.hidS⟩, (l2.trans le6).trans le7⟩, (re2.le le6).le le7, upd_same, sA6, ((ra.le le6).append (.cons r6 .nil)).le le7⟩
      · obtain ⟨z1, z2⟩ := bb.fr a o e n
        exact ⟨by rw [upd_ne (ne_of_none e hA)]; exact z1, z2⟩
      · have ne : a ≠ A := fun z => by subst z; rw [sA6] at e; cases e
        exact (bb.rs.ob a o e).le le7 (upd_ne ne)
theorem de_lcM {elt tg iter : Expr} {ifs : List Expr} {scope : Scope} {pos : Pos} {wi : TDI} {gv : TG} {g : TDG} {tt : TDT} {te : TDE} (own : List (Str × Nat)) (hc : X.calm = true) (hN : X.N.Nodup) (hi : PI X tg iter (lI X.K wi)) (ok : BlkOk X.N X.env.scope scope own)
    (hg : ∀ (s : Shared) (H : Hp) (C : Addr) (cl : List (Str × Addr)) (fp : List Addr), PG (X.blk s H scope (compEnvC scope cl C X.env) fp) tg gv) (hgd : ∀ N, TgC ⟨X.K, N⟩ (own.map (·.2)) gv g) (ht : ∀ (s : Shared) (H : Hp) (C : Addr) (cl : List (Str × Addr)) (fp : List Addr), PTs (X.blk s H scope (compEnvC scope cl C X.env) fp) ifs (lT X.K tt))
    (he : ∀ (s : Shared) (H : Hp) (C : Addr) (cl : List (Str × Addr)) (fp : List Addr), PE (X.blk s H scope (compEnvC scope cl C X.env) fp) elt (lE X.K te)) (hs : ∀ x, foldedSetIterable iter X.env x = pure x := by intro _; rfl) :
    PE X (.ListComp elt [⟨tg, iter, ifs, 0⟩] scope pos) (lE X.K (dLcM wi g tt te (own.map (·.2)))) := PE.wk (pe_lc hc hN hi ok hg ht he hs) fun σ H Q h => lift_lcM own hgd h
/-- name = [..] -/
theorem ds_setLcM (i : Nat) {y : Str} {py spos : Pos} {elt tg iter : Expr} {ifs : List Expr} {scope : Scope} {pos : Pos} {wi : TDI} {gv : TG} {g : TDG} {tt : TDT} {te : TDE} (own : List (Str × Nat)) (hc : X.calm = true) (hN : X.N.Nodup) (hi : PI X tg iter (lI X.K wi)) (ok : BlkOk X.N X.env.scope scope own)
    (hg : ∀ (s : Shared) (H : Hp) (C : Addr) (cl : List (Str × Addr)) (fp : List Addr), PG (X.blk s H scope (compEnvC scope cl C X.env) fp) tg gv) (hgd : ∀ N, TgC ⟨X.K, N⟩ (own.map (·.2)) gv g) (ht : ∀ (s : Shared) (H : Hp) (C : Addr) (cl : List (Str × Addr)) (fp : List Addr), PTs (X.blk s H scope (compEnvC scope cl C X.env) fp) ifs (lT X.K tt))
    (he : ∀ (s : Shared) (H : Hp) (C : Addr) (cl : List (Str × Addr)) (fp : List Addr), PE (X.blk s H scope (compEnvC scope cl C X.env) fp) elt (lE X.K te)) (hs : ∀ x, foldedSetIterable iter X.env x = pure x := by intro _; rfl)
    (hy : X.N[i]? = some y := by rfl) (hyl : X.env.scope.names.lookup y = some .local := by rfl) (hsw : swapsWith (.ListComp elt [⟨tg, iter, ifs, 0⟩] scope pos) (some (.Name y py)) spos.line X.env = pure true := by exact sw_true rfl rfl rfl (by decide +kernel)) :
    PS X (.Assign [.Name y py] (.ListComp elt [⟨tg, iter, ifs, 0⟩] scope pos) spos) (lS X.K (dAsg (dLcM wi g tt te (own.map (·.2))) (gdName i))) :=
  PS.wk (ps_setLc hc hN hy hyl hsw hi ok hg ht he hs) fun D σ H ⟨N, δ, S, D', re, rs, q, l⟩ => lift_lcM own hgd ⟨N, δ, S, _, re, rs, q, fun d S1 v H1 b1 r1 q1 => l.nx _ S1 _ H1 b1 ((re.le (rs.le b1.fr)).set r1 i) q1⟩
end
end DL

/-! Data layer: a tuple times an int, empty dicts shown, three names at once, str(int), ints of the module. -/
namespace DL
open PySem L2 PyProof.Rows
theorem tuple_mul0 (l : Addr) (items : Array Value) (n : Nat) (dd : Option Addr) (sl : Array (Option Value)) (x : Int) (u : Tok) (c0 : (decide (x < -2 ^ 63) || decide (x ≥ 2 ^ 63)) = false) (c1 : (items.isEmpty || x == 1) = false) (c2 : (decide (x ≤ 0) || items.isEmpty) = true) :
    Meets (Builtin.«tuple.__mul__» { pos := [Value.ref l, Value.int x u] }) fun x_1 R s =>
      s.heap.get? l = some { cls := Value.type "tuple", dict := dd, data := Data.seq items n, slots := sl } ∧ R (Except.ok (Flow.ret (Value.ref s.heap.objs.size))) { heap := s.heap.push { cls := Value.type "tuple", data := Data.seq #[] }, gens := s.gens, drawn := s.drawn, toks := s.toks, os := s.os } := by
  refine Meets.of_wp fun prog w A R s h => ?_
  obtain ⟨hp, g, d, tk, os⟩ := s
  obtain ⟨hl, h⟩ := h
  have f1 := AutoSeq1.idx_int
  refine wpAny_ite_false (decide_eq_false (by rw [c0]; exact Bool.false_ne_true)) ?_
  refine wpAny_bind ?_
  refine wpAny_bind ?_
  refine wpAny_bind (wpAny_load' hl (wpAny_pure (wpAny_pure ?_)))
  refine wpAny_ite_false (by rw [c1]; rfl) ?_
  refine wpAny_ite_true (by rw [c2]; rfl) ?_
  refine wpAny_bind ?_
  unfold Builtin.Tuple.tupleExact newObj
  apply wpAny_ite_false
  · decide
  refine wpAny_bind (wpAny_alloc' (wpAny_pure ?_))
  refine wpAny_pure ?_
  exact ⟨_, rfl, h⟩
section
variable {X : Cx}
/-- a tuple times an int: none, or two and more -/
def rRepT2 (K : PySem.W.Frag) : R2 := fun x y H Q => ∃ l k xs, x = .ref l ∧ y = .int k ∧ H l = some (.tup xs) ∧ xs ≠ [] ∧ xs.length * k.toNat ≤ 1000000 ∧ -1000000 ≤ k ∧ k ≤ 1000000 ∧ k ≠ 1 ∧ ∀ p, H p = none → Q (.ref p) (upd H p (.tup (List.replicate k.toNat xs).flatten))
theorem op_repT2 : OpR X (binaryOp .Mult) (rRepT2 X.K) := by
  intro pins s σ H x y v u Q I rx ry h
  obtain ⟨l, k, xs, rfl, rfl, hT, hne, hm, h1, h2, n1, q⟩ := h
  cases rx
  obtain ⟨t, rfl⟩ := ry
  obtain ⟨its, r, ⟨w, ho, hc, n, hd⟩, hs⟩ := I.tuple (.of hT)
  obtain ⟨cls, dd, data, sl⟩ := w
  dsimp only at hc hd
  subst hc
  subst hd
  have hle : its.length = xs.length := r.length.symm
  have hn : its ≠ [] := fun e => hne (List.eq_nil_of_length_eq_zero (by rw [← hle, e]; rfl))
  have hi : its.toArray.isEmpty = false := by
    cases its with
    | nil => exact absurd rfl hn
    | cons a b => rfl
  have hsz0 : its.toArray.size = xs.length := by rw [List.size_toArray, hle]
  have c0 : (decide (k < -2 ^ 63) || decide (k ≥ 2 ^ 63)) = false := by
    rw [decide_eq_false (by omega), decide_eq_false (by omega)]; rfl
  have c1 : (its.toArray.isEmpty || k == 1) = false := by
    rw [hi, Bool.false_or]
    exact beq_eq_false_iff_ne.mpr n1
  have flen : (List.replicate k.toNat its).flatten.length ≤ sizeLine := by
    rw [lm_len_rep_flat, hle, sizeLine_eq, Nat.mul_comm]; omega
  have flen2 : (List.replicate k.toNat xs).flatten.length ≤ sizeLine := by
    rw [lm_len_rep_flat, sizeLine_eq, Nat.mul_comm]; omega
  by_cases hk : k ≤ 0
  · have ek : k.toNat = 0 := by omega
    have c2 : (decide (k ≤ 0) || its.toArray.isEmpty) = true := by rw [decide_eq_true hk]; rfl
    refine wpAny_binaryOp_repeat_ref (by decide : (Value.type "tuple" == Value.type "int") = false) ⟨_, ho, rfl⟩ (fun s' => typeIs_int s' k t) noFill_tuple_mul F.fills_int_mul F.slot_int_rmul repeat_tuple F.slot_int_index.lookup
      (call_meets F.slot_int_rmul (typeIs_int s k t) F.entry_int_rmul (F.args_int_rmul_2 (Value.int k t) (Value.ref l)) (int_rmul_tuple k t l its.toArray n dd sl) ⟨ho, rfl, ⟨_, ho, rfl⟩,
        call_meets F.slot_tuple_mul ⟨_, ho, rfl⟩ F.entry_tuple_mul (F.args_tuple_mul_2 (Value.ref l) (Value.int k t)) (tuple_mul0 l its.toArray n dd sl k t c0 c1 c2) ⟨ho, ?_⟩⟩)
    have q := q s.heap.objs.size (I.hok.fresh (Nat.le_refl _))
    rw [ek] at q
    refine ⟨V.ref s.heap.objs.size, upd H s.heap.objs.size (HO.tup []), I.laid (fun b ob z => Heap.get?_push_of_some _ z) (Nat.le_refl _) ⟨Nat.zero_le _, [], .nil, IsTup.new s.heap #[]⟩, rfl, q⟩
  · have c2 : (decide (k ≤ 0) || its.toArray.isEmpty) = false := by rw [decide_eq_false hk, hi]; rfl
    have hmi : (its.toArray.size : Int) * k ≤ 1000000 := by
      rw [hsz0]
      have e : ((xs.length * k.toNat : Nat) : Int) = (xs.length : Int) * k := by rw [Int.natCast_mul, Int.toNat_of_nonneg (by omega)]
      omega
    have c4 : Builtin.Tuple.tupleTooMany ((its.toArray.size : Int) * k) = false := by
      show decide ((its.toArray.size : Int) * k > (sizeLine : Nat)) = false
      rw [sizeLine_eq]
      exact decide_eq_false (by omega)
    refine wpAny_binaryOp_repeat_ref (by decide : (Value.type "tuple" == Value.type "int") = false) ⟨_, ho, rfl⟩ (fun s' => typeIs_int s' k t) noFill_tuple_mul F.fills_int_mul F.slot_int_rmul repeat_tuple F.slot_int_index.lookup
      (call_meets F.slot_int_rmul (typeIs_int s k t) F.entry_int_rmul (F.args_int_rmul_2 (Value.int k t) (Value.ref l)) (int_rmul_tuple k t l its.toArray n dd sl) ⟨ho, rfl, ⟨_, ho, rfl⟩,
        call_meets F.slot_tuple_mul ⟨_, ho, rfl⟩ F.entry_tuple_mul (F.args_tuple_mul_2 (Value.ref l) (Value.int k t)) (tuple_mulW l its.toArray n dd sl k t c0 c1 c2 (by omega) c4 (by rw [size_rep, List.size_toArray]; exact flen)) ⟨ho, ?_⟩⟩)
    rw [size_rep]
    exact ⟨V.ref s.heap.objs.size, upd H s.heap.objs.size (HO.tup (List.replicate k.toNat xs).flatten), I.laid (fun b ob z => Heap.get?_push_of_some _ z) (Nat.le_refl _) ⟨flen2, _, r.rep k.toNat, IsTup.new s.heap _⟩, rfl, q s.heap.objs.size (I.hok.fresh (Nat.le_refl _))⟩
def mulT : RD2 := fun x y S Q => ∃ xs k, x = .tup xs ∧ y = .int k ∧ xs ≠ [] ∧ xs.length * k.toNat ≤ 1000000 ∧ -1000000 ≤ k ∧ k ≤ 1000000 ∧ k ≠ 1 ∧ Q (.tup (List.replicate k.toNat xs).flatten) S
theorem od_mulT : OpR X (binaryOp .Mult) (l2 X.K mulT) := by
  intro pins s σ H v u vv uu Q I rv ru h'
  obtain ⟨N, x, y, S, Q', rx, ry, rs, ⟨xs, k, rfl, rfl, hne, hz, k1, k2, k3, q⟩, kk⟩ := h'
  obtain ⟨a, vs, rfl, e, r⟩ := rx.tup_
  refine op_repT2 pins s σ H _ _ _ _ Q I rv ru ⟨a, k, vs, rfl, ry.at_, e, fun z => hne (by subst z; cases xs with | nil => rfl | cons d ds => exact absurd r.length (by simp)), by rw [r.length]; exact hz, k1, k2, k3, fun p np => ?_⟩
  obtain ⟨r1, f1, le⟩ := rs.laid (o := .tup (List.replicate k.toNat vs).flatten) np
  exact kk _ S _ _ ⟨f1, r1⟩ (.of_tup upd_same ((rds_rep r k.toNat).le le)) q
/-! ### repr, of an empty dict, too -/
def repD2 : RDL := fun ds S Q => repD ds S Q ∨ ∃ p, ds = [.ref p] ∧ S p = some (.dk []) ∧ Q (.str "{}") S
theorem cd_repr2 {k : Nat} (hr : Rg k X.A) : CallR X (.builtin "repr") (lL X.K repD2) := by
  intro pins s σ H vs us Q I r hh
  obtain ⟨N, ds, S, Q', rd, rs, q, kk⟩ := hh
  rcases q with q | ⟨p, rfl, e, q⟩
  · exact cd_repr hr pins s σ H vs us Q I r ⟨N, ds, S, Q', rd, rs, q, kk⟩
  · obtain ⟨v, rfl, rx⟩ := rd.one'
    have ev := rx.at_
    subst ev
    obtain ⟨u, rfl, ru⟩ := Vals.one r
    cases ru
    obtain ⟨ks, h1, h2, _⟩ := rs.ob p _ e
    have hk : ks = [] := by cases ks with | nil => rfl | cons a b => simp at h2
    subst hk
    have hu := hr.r.un
    obtain ⟨_, hm, vs, kv, o, es, ep, g1, g2, g3, g4⟩ := I.hok p _ h1
    have hv : vs = [] := by cases kv; rfl
    subst hv
    have he : es.toList = [] := by
      have z := g4.2.1
      cases h : es.toList with
      | nil => rfl
      | cons a b => rw [h] at z; cases z
    have rr : Reads s.heap (.ref p) (.dict []) (p :: [] ++ []) := .dict g1 g2.1 g3 (by rw [he]; exact .nil) (by rw [he]; exact .nil)
    refine repr_of_reads' rr rfl (fun _ z => ?_) hr.g (by show X.A.units + 2 < cLine; omega) (fun _ _ e => e) (fun h' u tk hk => ⟨.str _, H, I.kept hk, ⟨u, rfl⟩, kk _ S _ H (.refl rs) (.of _) q⟩) (by decide)
    have z : sysModules = p := by simpa using z
    rw [z] at hm
    simp at hm
/-! ### str(i) -/
def strN : RDL := fun ds S Q => ∃ i, ds = [.int i] ∧ i.natAbs.log2 < 1920 ∧ Q (.str (Str.ofString (toString i))) S
theorem cd_strN : CallR X (.type "str") (lL X.K strN) := by
  intro pins s σ H vs us Q I r hh
  obtain ⟨N, ds, S, Q', rd, rs, ⟨i, rfl, hi, q⟩, kk⟩ := hh
  obtain ⟨v, rfl, rx⟩ := rd.one'
  exact call_str_int pins s σ H _ us Q I r ⟨i, by rw [rx.at_], hi, kk _ S _ H (.refl rs) (.of _) q⟩
/-! ### a, b, c = x, y, z -/
def dPar3 (i j l : Nat) (ta : TDA) : TDS := fun D δ S => ta δ S fun ds S1 => ∃ d e f, ds = [d, e, f] ∧ D.nx (((δ.set i (some d)).set j (some e)).set l (some f)) S1
theorem ds_par3 (i j l : Nat) {x y z : Str} {a b c : Expr} {ta : TDA} {px py pz pt pos : Pos} {kt k2 pt2} (hc : X.calm = true) (hN : X.N.Nodup) (ha : PA X [a, b, c] (lA X.K ta)) (hi : X.N[i]? = some x := by rfl) (hj : X.N[j]? = some y := by rfl) (hl : X.N[l]? = some z := by rfl) (hij : i ≠ j := by decide) (hil : i ≠ l := by decide) (hjl : j ≠ l := by decide)
    (hx : X.env.scope.names.lookup x = some .local := by rfl) (hy : X.env.scope.names.lookup y = some .local := by rfl) (hz : X.env.scope.names.lookup z = some .local := by rfl)
    (hw : swappedStores [.Tuple [.Name x px, .Name y py, .Name z pz] kt pt] (.Tuple [a, b, c] k2 pt2) X.env = pure (some [x, y, z]) := by rfl)
    (hs : swapsWithSole [.Tuple [.Name x px, .Name y py, .Name z pz] kt pt] (.Tuple [a, b, c] k2 pt2) pos.line X.env = pure false := by rfl) :
    PS X (.Assign [.Tuple [.Name x px, .Name y py, .Name z pz] kt pt] (.Tuple [a, b, c] k2 pt2) pos) (lS X.K (dPar3 i j l ta)) :=
  PS.wk (ps_par3 hc hN hi hj hl hij hil hjl hx hy hz ha hw hs) fun D σ H ⟨N, δ, S, D', re, rs, q, l⟩ => by
    refine ⟨N, δ, S, _, re, rs, q, fun ds S1 vs H1 b1 r1 q1 => ?_⟩
    obtain ⟨d, e, f, rfl, q1⟩ := q1
    obtain ⟨v, ws, rfl, ra, r2⟩ := r1.inv_cons
    obtain ⟨w, ws', rfl, rb, r3⟩ := r2.inv_cons
    obtain ⟨u, ws'', rfl, rc, r4⟩ := r3.inv_cons
    rw [r4.inv_nil]
    exact ⟨v, w, u, rfl, l.nx _ S1 _ H1 b1 ((((re.le (rs.le b1.fr)).set ra _).set rb _).set rc _) q1⟩
/-! ### an int of the module -/
def GI (mg : Str → Option Value) (x : Str) (i : Int) : Prop := ∃ t, mg x = some (.int i t)
theorem de_gi {x : Str} {i : Int} {pos : Pos} (g : GI X.mg x i) (hg : Gl X x := by rfl) (hd : (x == ("__debug__" : Str)) = false := by decide) : PE X (.Name x pos) (lE X.K (dC (.int i))) := by
  obtain ⟨t, m⟩ := g
  exact de_glob (v := .int i) hg m ⟨t, rfl⟩ (fun N H S => .of _) hd
end
end DL

/-! Data layer: data to be compared, of ints of any size; ends of lists. -/
namespace DL
open PySem L2 PyProof.Rows
structure Cm (k : Nat) (d : D) : Prop where
  p : pur d = true
  l : (toPy d).canLay0 = true
  k : (toPy d).depth ≤ k
structure Cms (k : Nat) (ds : List D) : Prop where
  p : purs ds = true
  l : PyData.canLayAll0 (toPys ds) = true
  k : PyData.depthAll (toPys ds) ≤ k
theorem Cm.of {k w : Nat} {d : D} (h : Sm k w d) : Cm k d := ⟨h.p, h.l, h.k⟩
theorem Cm.mono {k k' : Nat} {d : D} (h : Cm k d) (a : k ≤ k') : Cm k' d := ⟨h.p, h.l, Nat.le_trans h.k a⟩
theorem Cms.of {k : Nat} : ∀ {ds : List D}, (∀ d ∈ ds, Cm k d) → Cms k ds
  | [], _ => ⟨by unfold purs; rfl, by simp [toPys, PyData.canLayAll0], by simp [toPys, PyData.depthAll]⟩
  | d :: ds, h => by
    have a := h d List.mem_cons_self
    have b := Cms.of (ds := ds) fun x hx => h x (List.mem_cons_of_mem _ hx)
    refine ⟨by unfold purs; rw [a.p, b.p]; rfl, ?_, ?_⟩
    · unfold toPys; simp [PyData.canLayAll0, a.l, b.l]
    · unfold toPys; simp only [PyData.depthAll]; have := a.k; have := b.k; omega
theorem Cm.tup {k : Nat} {ds : List D} (h : ∀ d ∈ ds, Cm k d) : Cm (k + 1) (.tup ds) := by
  have b := Cms.of h
  refine ⟨by unfold pur; exact b.p, ?_, ?_⟩ <;> unfold toPy
  · simp only [PyData.canLay0]; exact b.l
  · simp only [PyData.depth]; have := b.k; omega
theorem Cm.fl {k : Nat} {ds : List D} (h : ∀ d ∈ ds, Cm k d) : Cm (k + 1) (.fl ds) := by
  have b := Cms.of h
  refine ⟨by unfold pur; exact b.p, ?_, ?_⟩ <;> unfold toPy
  · simp only [PyData.canLay0]; exact b.l
  · simp only [PyData.depth]; have := b.k; omega
theorem Cm.non {k : Nat} : Cm k .non := ⟨by unfold pur; rfl, by unfold toPy; rfl, by unfold toPy; exact Nat.zero_le _⟩
theorem Cm.bl {k : Nat} {b : Bool} : Cm k (.bl b) := ⟨by unfold pur; rfl, by unfold toPy; rfl, by unfold toPy; exact Nat.zero_le _⟩
theorem Cm.int {k : Nat} {i : Int} : Cm k (.int i) := ⟨by unfold pur; rfl, by unfold toPy; rfl, by unfold toPy; exact Nat.zero_le _⟩
theorem Cm.str {k : Nat} {z : Str} (h : PyData.strOk z = true) : Cm k (.str z) := ⟨by unfold pur; rfl, by unfold toPy; exact h, by unfold toPy; exact Nat.zero_le _⟩
theorem Cm.shaped {k : Nat} {d : D} (h : Cm k d) (hk : k ≤ 64 := by decide) : cmpOk d = true := by
  unfold cmpOk
  show (pur d && ((toPy d).canLay0 && decide ((toPy d).depth ≤ 64))) = true
  rw [h.p, h.l, decide_eq_true (Nat.le_trans h.k hk)]
  rfl
theorem cm1 {k : Nat} {a : D} (h : Cm k a) : ∀ d ∈ [a], Cm k d := fun d hd => by rw [List.mem_singleton.mp hd]; exact h
theorem cmc {k : Nat} {a : D} {l : List D} (h : Cm k a) (t : ∀ d ∈ l, Cm k d) : ∀ d ∈ a :: l, Cm k d := fun d hd => (List.mem_cons.mp hd).elim (fun e => e ▸ h) (t d)
theorem cm0 {k : Nat} : Cm (k + 1) (.fl []) := Cm.fl fun d hd => by cases hd
theorem ceq_of {neg : Bool} {x y : D} {S : Sto} {Q : KD} {k k' : Nat} (hx : Cm k x) (hy : Cm k' y) (q : Q (.bl (xor neg (PyData.eqv (toPy x) (toPy y)))) S) (hn : ∀ u, x ≠ .at u) (hk : k ≤ 64 := by decide) (hk' : k' ≤ 64 := by decide) : eqD neg x y S Q := by
  unfold eqD
  split
  all_goals first
    | exact absurd rfl (hn _)
    | skip
  rw [rsv_pur hx.p, rsv_pur hy.p]
  exact ⟨hx.shaped hk, hy.shaped hk', q⟩
/-- a list against the empty one -/
theorem eq_nil {neg : Bool} {xs : List D} {S : Sto} {Q : KD} {k : Nat} (h : ∀ d ∈ xs, Cm k d) (q : Q (.bl (xor neg xs.isEmpty)) S) (hk : k + 1 ≤ 64 := by decide) : eqD neg (.fl xs) (.fl []) S Q :=
  ceq_of (Cm.fl h) (cm0 (k := 0)) (by rw [eqv_nil]; exact q) (fun u e => nomatch e) hk
theorem eq_nilL {neg : Bool} {p : Addr} {xs : List D} {S : Sto} {Q : KD} {k : Nat} (e : S p = some (.lst xs)) (h : ∀ d ∈ xs, Cm k d) (q : Q (.bl (xor neg xs.isEmpty)) S) (hk : k + 1 ≤ 64 := by decide) : eqD neg (.ref p) (.fl []) S Q :=
  eq_l e ((Cm.fl h).shaped hk) ((cm0 (k := 0)).shaped) (by rw [eqv_nil]; exact q)
theorem ng {i : Int} {S : Sto} {Q : KD} (q : Q (.int (-i)) S) : negD (.int i) S Q := q
/-! ### a chain of two, as a test -/
section
variable {X : Cx}
theorem lift_chain {r r' : RD2} {ta tb tc : TDE} {σ : L2.St} {H : Hp} {Q : VK} (h : lE X.K (dChain r r' ta tb tc) σ H Q) : tChain (l2 X.K r) (l2 X.K r') (lE X.K ta) (lE X.K tb) (lE X.K tc) σ H Q := by
  obtain ⟨N, δ, S, Q', re, rs, q, k⟩ := h
  refine ⟨N, δ, S, _, re, rs, q, fun x S1 v H1 b1 rx q1 => ?_⟩
  refine ⟨N, δ, S1, _, re.le (rs.le b1.fr), b1.rs, q1, fun y S2 u H2 b2 ry q2 => ?_⟩
  refine ⟨N, x, y, S2, _, rx.le (b1.rs.le b2.fr), ry, b2.rs, q2, fun z S3 w H3 b3 rz q3 => ?_⟩
  obtain ⟨i, rfl, q3⟩ := q3
  refine ⟨i, rz.at_, ?_⟩
  have bb := (b1.trans b2).trans b3
  cases i with
  | true =>
    rw [if_pos rfl] at q3 ⊢
    refine ⟨N, δ, S3, _, re.le (rs.le bb.fr), b3.rs, q3, fun w' S4 x' H4 b4 rw' q4 => ?_⟩
    exact ⟨N, y, w', S4, Q', (ry.le (b2.rs.le b3.fr)).le (b3.rs.le b4.fr), rw', b4.rs, q4, fun d S' w2 H' b5 => k d S' w2 H' ((bb.trans b4).trans b5)⟩
  | false =>
    rw [if_neg Bool.false_ne_true] at q3 ⊢
    exact k _ S3 _ H3 bb (.of _) q3
theorem dt_chain {r r' : RD2} {ta tb tc : TDE} {a b c : Expr} {pos : Pos} {op op' : CmpOp} (ho : OpR X (compareOp op) (l2 X.K r)) (ho' : OpR X (compareOp op') (l2 X.K r')) (ha : PE X a (lE X.K ta)) (hb : PE X b (lE X.K tb)) (hc : PE X c (lE X.K tc)) (hm : lastMarks [op, op'] [b, c] = false := by first | rfl | decide) : PT X (.Compare a [op, op'] [b, c] pos) (lT X.K (dB (dChain r r' ta tb tc))) :=
  PT.wk (pt_chain ho ho' ha hb hc hm) fun σ H Q ⟨N, δ, S, Q', re, rs, q, k⟩ =>
    lift_chain (Q := fun x H' => ∃ k, x = .bl k ∧ Q k H') ⟨N, δ, S, _, re, rs, q, fun d S' v H' b rv ⟨c, e, q'⟩ => ⟨c, by subst e; exact rv.at_, k c S' H' b q'⟩⟩
end
/-! ### ends of lists -/
theorem ixN_z (n : Nat) : ixN (n + 1) (-1) = some n := by
  unfold ixN
  rw [if_neg (by omega), if_pos (by omega)]
  congr 1
  omega
theorem set_last {α : Type} (xs : List α) (x y : α) : (xs ++ [x]).set xs.length y = xs ++ [y] := by simp
theorem cut_init (xs : List D) : cutD xs none (some (-1)) = xs.dropLast := by
  unfold cutD
  rw [List.dropLast_eq_take]
  simp only [HT.sIx]
  cases xs with
  | nil => rfl
  | cons x xs => simp; congr 1; omega
theorem cut_last (xs : List D) : cutD xs (some (-1)) none = xs.getLast?.toList := by
  unfold cutD
  simp only [HT.sIx]
  rcases List.eq_nil_or_concat xs with rfl | ⟨q, x, e⟩
  · rfl
  · rw [List.concat_eq_append] at e
    subst e
    simp
    have e : (-1 + ((q.length : Int) + 1)).toNat = q.length := by omega
    rw [e, List.drop_left]
    have e2 : q.length + 1 - q.length = 1 := by omega
    rw [e2]
    rfl
end DL

/-! Data layer: any sequence against the empty one, sum, dict(pairs), list(dict), f-strings, written dicts looked up, displays of dicts, a tuple times one. -/
namespace DL
open PySem L2 PyProof.Rows
section
variable {X : Cx} {k : Nat}
/-! ### == (), == [], of any items -/
def eq0D (neg : Bool) : RD2 := fun x y S Q => (∃ xs, x = .tup xs ∧ y = .tup [] ∧ Q (.bl (xor neg xs.isEmpty)) S) ∨ ∃ xs, lsOf S x = some xs ∧ y = .fl [] ∧ Q (.bl (xor neg xs.isEmpty)) S
theorem isz {vs : List V} {ds : List D} {us : List Value} {K : Kx} {H : Hp} {S : Sto} (r : RDs K H S vs ds) (rv : Vals vs us) : us.length = ds.length := rv.length.symm.trans r.length
theorem od_eq0G {neg : Bool} {op : CmpOp} (hr : Rg k X.A)
    (ht : ∀ (E Q : Value → Shared → Prop) (s : Shared) (l b : Addr) (i : Array Value), s.heap.IsTuple l i → s.heap.IsTuple b #[] → Q (.bool (xor neg i.isEmpty)) s → wpAny (model X.prog X.w) X.A (compareOp op (.ref l) (.ref b)) Q E s)
    (hl : ∀ (E Q : Value → Shared → Prop) (s : Shared) (l b : Addr) (i : Array Value), s.heap.IsList l i → s.heap.IsList b #[] → Q (.bool (xor neg i.isEmpty)) s → wpAny (model X.prog X.w) X.A (compareOp op (.ref l) (.ref b)) Q E s) : OpR X (compareOp op) (l2 X.K (eq0D neg)) := by
  intro pins s σ H v u vv uu Q I rv ru hh
  obtain ⟨N, x, y, S, Q', rx, ry, rs, q, kk⟩ := hh
  have em : ∀ {us : List Value} {ds : List D}, us.length = ds.length → us.toArray.isEmpty = ds.isEmpty := fun {us ds} h => by
    cases us <;> cases ds <;> first | rfl | simp at h
  rcases q with ⟨xs, rfl, rfl, q⟩ | ⟨xs, hx, rfl, q⟩
  · obtain ⟨a, vs, rfl, t, r⟩ := rx.tup_
    obtain ⟨b, ws, rfl, t2, r2⟩ := ry.tup_
    have := r2.inv_nil
    subst this
    obtain ⟨its, r3, p, _⟩ := I.tuple (.of t)
    obtain ⟨its2, r4, p2, _⟩ := I.tuple (.of t2)
    cases r4
    cases rv
    cases ru
    exact ht _ _ s a b its.toArray p p2 ⟨.bl _, H, I, by rw [em (isz r r3)]; rfl, kk _ S _ H (.refl rs) (.of _) q⟩
  · obtain ⟨a, vs, rfl, t, r⟩ := ls_sq rs rx hx
    obtain ⟨b, ws, rfl, t2, r2⟩ := ls_sq rs ry (xs := []) rfl
    have := r2.inv_nil
    subst this
    obtain ⟨its, r3, p, _⟩ := I.list t
    obtain ⟨its2, r4, p2, _⟩ := I.list t2
    cases r4
    cases rv
    cases ru
    exact hl _ _ s a b its.toArray p.isList p2.isList ⟨.bl _, H, I, by rw [em (isz r r3)]; rfl, kk _ S _ H (.refl rs) (.of _) q⟩
theorem od_eq0 (hr : Rg k X.A) : OpR X (compareOp .Eq) (l2 X.K (eq0D false)) := by
  have hu := hr.r.un
  refine od_eq0G hr (fun E Q s l b i h1 h2 q => ?_) fun E Q s l b i h1 h2 q => ?_
  · refine SeqAt.eq_tupleAt (e := fun _ => true) h1 h2 (by omega) (fun j z1 z2 => absurd z2 (by simp)) ?_
    have e : ((List.range (min i.size (#[] : Array Value).size)).all (fun _ => true) && i.size == (#[] : Array Value).size) = xor false i.isEmpty := by
      obtain ⟨l⟩ := i
      cases l <;> simp
    rw [e]
    exact q
  · by_cases h : i.size = 0
    · refine SeqAt.eq_listAt (e := fun _ => true) h1 h2 h (by omega) (fun j z1 z2 => absurd z2 (by simp)) ?_
      have e : (List.range i.size).all (fun _ => true) = xor false i.isEmpty := by simp [Array.isEmpty, h]
      rw [e]
      exact q
    · refine SeqAt.eq_list_lengthsAt h1 h2 (by simpa using h) (by omega) ?_
      have e : xor false i.isEmpty = false := by simp [Array.isEmpty, h]
      rw [e] at q
      exact q
theorem od_ne0 (hr : Rg k X.A) : OpR X (compareOp .NotEq) (l2 X.K (eq0D true)) := by
  have hu := hr.r.un
  refine od_eq0G hr (fun E Q s l b i h1 h2 q => ?_) fun E Q s l b i h1 h2 q => ?_
  · refine SeqAt.RcNeAt.tuples (e := fun _ => true) h1 h2 (by omega) (fun j z1 z2 => absurd z2 (by simp)) X.prog X.w E Q ?_
    have e : (!((List.range (min i.size (#[] : Array Value).size)).all (fun _ => true) && i.size == (#[] : Array Value).size)) = xor true i.isEmpty := by
      obtain ⟨l⟩ := i
      cases l <;> simp
    rw [e]
    exact q
  · by_cases h : i.size = 0
    · refine SeqAt.RcNeAt.lists (e := fun _ => true) h1 h2 h (by omega) (fun j z1 z2 => absurd z2 (by simp)) X.prog X.w E Q ?_
      have e : (!(List.range i.size).all (fun _ => true)) = xor true i.isEmpty := by simp [Array.isEmpty, h]
      rw [e]
      exact q
    · refine SeqAt.RcNeAt.lists_lengths h1 h2 (by simpa using h) (by omega) X.prog X.w E Q ?_
      have e : xor true i.isEmpty = true := by simp [Array.isEmpty, h]
      rw [e] at q
      exact q
theorem e0_t {neg : Bool} {xs : List D} {S : Sto} {Q : KD} (q : Q (.bl (xor neg xs.isEmpty)) S) : eq0D neg (.tup xs) (.tup []) S Q := .inl ⟨xs, rfl, rfl, q⟩
theorem e0_f {neg : Bool} {xs : List D} {S : Sto} {Q : KD} (q : Q (.bl (xor neg xs.isEmpty)) S) : eq0D neg (.fl xs) (.fl []) S Q := .inr ⟨xs, rfl, rfl, q⟩
theorem e0_l {neg : Bool} {x : D} {xs : List D} {S : Sto} {Q : KD} (h : lsOf S x = some xs) (q : Q (.bl (xor neg xs.isEmpty)) S) : eq0D neg x (.fl []) S Q := .inr ⟨xs, h, rfl, q⟩
/-! ### sum -/
def sumD : RDL := fun ds S Q => ∃ (x : D) (ns : List Int), ds = [x] ∧ lsOf S x = some (ns.map D.int) ∧ Q (.int ns.sum) S
theorem cd_sum (hc : X.calm = true) : CallR X (.builtin "sum") (lL X.K sumD) := by
  intro pins s σ H vs us Q I r hh
  obtain ⟨N, ds, S, Q', rd, rs, ⟨x, bs, rfl, hx, q⟩, kk⟩ := hh
  obtain ⟨v, rfl, rx⟩ := rd.one'
  obtain ⟨a, ws, rfl, sq, rw'⟩ := ls_sq rs rx hx
  have e : ws = bs.map V.int := RDs.atoms (us := bs.map V.int) (by rw [List.map_map]; exact rw')
  subst e
  exact L2.cr_sum hc pins s σ H _ us Q I r ⟨a, bs, rfl, sq, kk _ S _ H (.refl rs) (.of _) q⟩
/-! ### dict(pairs) -/
def dctP : RDL := fun ds S Q => ∃ (x : D) (kvs : List (Key × V)), ds = [x] ∧ lsOf S x = some (kvs.map fun kv => .tup [.at (kV kv.1), .at kv.2]) ∧ ∀ p, S p = none → Q (.ref p) (up S p (.dk ((mergeK [] kvs).map fun q => (q.1, .at q.2))))
theorem pairs_of {K : Kx} {H : Hp} {S : Sto} : ∀ {kvs : List (Key × V)} {vs : List V}, RDs K H S vs (kvs.map fun kv => D.tup [.at (kV kv.1), .at kv.2]) → ∃ ps : List Addr, vs = ps.map V.ref ∧ Paired (fun p kv => SqT K.k H p [kV kv.1, kv.2]) ps kvs
  | [], vs, r => ⟨[], r.inv_nil, .nil⟩
  | kv :: kvs, vs, r => by
    obtain ⟨v, ws, rfl, r1, r2⟩ := r.inv_cons
    obtain ⟨ps, rfl, pp⟩ := pairs_of r2
    obtain ⟨a, us, rfl, t, ru⟩ := r1.tup_
    have e : us = [kV kv.1, kv.2] := ru.atoms (us := [kV kv.1, kv.2])
    subst e
    exact ⟨a :: ps, rfl, .cons (.of t) pp⟩
theorem dk_atoms {K : Kx} {H : Hp} {S : Sto} {p : Addr} (kvs : List (Key × V)) (rs : RS K H S) (np : H p = none) : Bh K H S (upd H p (.dK kvs)) (up S p (.dk (kvs.map fun q => (q.1, .at q.2)))) := by
  obtain ⟨b1, b2⟩ := rs.new (o := .dK kvs) (m := .dk (kvs.map fun q => (q.1, .at q.2))) np fun le => ⟨_, upd_same, by rw [List.map_map]; rfl, by
    have := RDs.of_atoms (K := K) (H := upd H p (.dK kvs)) (S := up S p (.dk (kvs.map fun q => (q.1, .at q.2)))) (kvs.map (·.2))
    rw [List.map_map] at this ⊢
    exact this⟩
  exact ⟨b2, b1⟩
theorem cd_dictP (hc : X.calm = true) : CallR X (.type "dict") (lL X.K dctP) := by
  intro pins s σ H vs us Q I r hh
  obtain ⟨N, ds, S, Q', rd, rs, ⟨x, kvs, rfl, hx, q⟩, kk⟩ := hh
  obtain ⟨v, rfl, rx⟩ := rd.one'
  obtain ⟨a, ws, rfl, sq, rw'⟩ := ls_sq rs rx hx
  obtain ⟨ps, rfl, pp⟩ := pairs_of rw'
  refine call_dictP hc pins s σ H _ us Q I r ⟨a, ps, kvs, rfl, sq, pp, fun p np => ?_⟩
  exact kk _ _ _ _ (dk_atoms _ rs np) (.of _) (q p (rs.free np))
/-! ### list(dict) -/
def lstDk : RDL := fun ds S Q => ∃ (a : Addr) (kvs : List (Key × D)), ds = [.ref a] ∧ S a = some (.dk kvs) ∧ Q (.fl (kvs.map fun kv => .at (kV kv.1))) S
theorem cd_listDk (hc : X.calm = true) : CallR X (.type "list") (lL X.K lstDk) := by
  intro pins s σ H vs us Q I r hh
  obtain ⟨N, ds, S, Q', rd, rs, ⟨a, kvs, rfl, e, q⟩, kk⟩ := hh
  obtain ⟨v, rfl, rx⟩ := rd.one'
  have := rx.at_
  subst this
  obtain ⟨ks, h1, h2, h3⟩ := rs.ob a _ e
  refine call_listD hc pins s σ H _ us Q I r ⟨a, ks, rfl, .inl h1, fun p np => ?_⟩
  have e2 : (ks.map fun kv => kV kv.1) = (kvs.map (·.1)).map kV := by rw [← h2, List.map_map]; rfl
  have e3 : (kvs.map fun kv => D.at (kV kv.1)) = ((kvs.map (·.1)).map kV).map D.at := by rw [List.map_map, List.map_map]; rfl
  rw [e3] at q
  rw [e2]
  obtain ⟨b1, r1⟩ := new_fl rs np (RDs.of_atoms (K := ⟨X.K, N⟩) (H := H) (S := S) ((kvs.map (·.1)).map kV))
  exact kk _ S _ _ b1 r1 q
/-! ### f'c{i}' -/
def dFsi (c : Str) (te : TDE) : TDE := fun δ S Q => (Str.empty ++ c).length ≤ sizeLine ∧ te δ S fun x S1 => ∃ i : Int, x = .int i ∧ i.natAbs.log2 < 1920 ∧ (Str.empty ++ c ++ Str.ofString (toString i)).length ≤ sizeLine ∧ Q (.str (Str.empty ++ c ++ Str.ofString (toString i))) S1
theorem de_fsi {c : Str} {e : Expr} {te : TDE} {j} {p1 p2 pos : Pos} (he : PE X e (lE X.K te)) : PE X (.JoinedStr [.Constant (.str c) j p1, .FormattedValue e (-1) none p2] pos) (lE X.K (dFsi c te)) :=
  PE.wk (pe_joined (.cons pe_str (.cons (pe_fmt he) .nil))) fun σ H Q ⟨N, δ, S, Q', re, rs, ⟨h0, q⟩, kk⟩ => by
    refine ⟨c, rfl, h0, ?_⟩
    refine ⟨N, δ, S, _, re, rs, q, fun x S1 v H1 b1 rx q1 => ?_⟩
    obtain ⟨i, rfl, h1, h3, q1⟩ := q1
    exact .inr ⟨i, rx.at_, h1, Str.ofString (toString i), rfl, h3, kk _ S1 _ H1 b1 (.of _) q1⟩
end
end DL

/-! Data layer: written dicts looked up by get, texts of the module, displays of dicts, a tuple times one, keys by their values. -/
namespace DL
open PySem L2 PyProof.Rows
/-! ### a text of the module -/
def GS (mg : Str → Option Value) (x z : Str) : Prop := ∃ t, mg x = some (.str z t)
theorem de_gs {X : Cx} {x z : Str} {pos : Pos} (g : GS X.mg x z) (hg : Gl X x := by rfl) (hd : (x == ("__debug__" : Str)) = false := by decide) : PE X (.Name x pos) (lE X.K (dC (.str z))) := by
  obtain ⟨t, m⟩ := g
  exact de_glob (v := .str z) hg m ⟨t, rfl⟩ (fun N H S => .of _) hd
/-! ### a written dict of texts, all of it -/
def EntsS : List DictEntry → List (Str × Str) → Prop
  | [], [] => True
  | e :: r, kv :: q => (∃ t, e.key = .str kv.1 t) ∧ (∃ t, e.val = .str kv.2 t) ∧ EntsS r q
  | _, _ => False
theorem ents_find {z : Str} : ∀ {es : List DictEntry} {kvs : List (Str × Str)}, EntsS es kvs → (lookS kvs z = none → es.find? (fun d => Value.isStrOf z d.key) = none) ∧ ∀ v, lookS kvs z = some v → ∃ e t, es.find? (fun d => Value.isStrOf z d.key) = some e ∧ e.val = .str v t
  | [], [], _ => ⟨fun _ => rfl, fun v h => by cases h⟩
  | [], _ :: _, h => h.elim
  | _ :: _, [], h => h.elim
  | e :: r, (k, v) :: q, ⟨⟨t, h1⟩, ⟨t2, h2⟩, h3⟩ => by
    obtain ⟨a, b⟩ := ents_find (z := z) h3
    have hk : Value.isStrOf z e.key = decide (k = z) := by
      rw [h1, ← PySem.W.isStr_of]
      show (k == z) = decide (k = z)
      rfl
    by_cases h : k = z
    · have h' : Value.isStrOf z e.key = true := by rw [hk, decide_eq_true h]
      refine ⟨fun n => ?_, fun u n => ?_⟩
      · simp [lookS, List.find?_cons, h] at n
      · have : v = u := by simpa [lookS, List.find?_cons, h] using n
        subst this
        exact ⟨e, t2, by rw [List.find?_cons, h'], h2⟩
    · have h' : Value.isStrOf z e.key = false := by rw [hk, decide_eq_false h]
      have e1 : lookS ((k, v) :: q) z = lookS q z := by simp [lookS, List.find?_cons, h]
      rw [e1, List.find?_cons, h']
      exact ⟨a, b⟩
def GDx (K : PySem.W.Frag) (w : World) (mg : Str → Option Value) (x : Str) (kvs : List (Str × Str)) : Prop := ∃ a es n, mg x = some (.ref a) ∧ K.lookup a = some ⟨.type "dict", none, .dict es n, #[]⟩ ∧ PySem.W.KeysLit w.params es.toList ∧ EntsS es.toList kvs ∧ (a == sysModules) = false
section
variable {X : Cx} {k : Nat}
def lookD (kvs : List (Str × Str)) (z : Str) : D := match lookS kvs z with
  | none => .non
  | some v => .str v
def dGget (kvs : List (Str × Str)) (te : TDE) : TDE := fun δ S Q => te δ S fun x S1 => ∃ z, x = .str z ∧ Q (lookD kvs z) S1
theorem de_gget {x : Str} {kvs : List (Str × Str)} {e : Expr} {te : TDE} {p apos cpos : Pos} (G : GDx X.K X.w X.mg x kvs) (he : PE X e (lE X.K te)) (m : M1 X (.Name x p) "get" apos e cpos) (hg : Gl X x := by rfl) (hd : (x == ("__debug__" : Str)) = false := by decide) : PE X (.Call (.Attribute (.Name x p) "get" apos) [e] [] cpos) (lE X.K (dGget kvs te)) := by
  obtain ⟨a, es, n, hm, hl, hk, hs, low⟩ := G
  refine ⟨fun pins s σ H Q I ⟨N, δ, S, Q', re, rs, q, kk⟩ => ?_⟩
  refine wpAny_Call_method m.base m.few m.line PySem.F.plainAttrs_dict PySem.F.slot_dict_get PySem.F.type_dict_get (ld_glob I hg hm ?_ hd)
  have hm' := PySem.W.mapOf_K (prog := X.prog) (w := X.w) I.kIn hl hk
  refine ⟨hm'.typeIs, fun b eb => by cases eb; exact ⟨_, I.kIn _ _ hl, rfl⟩, ?_⟩
  rw [m.trees]
  refine Calls.callWith_builtin rfl (Calls.evalArgs_plain (Calls.spliced_cons (thn (he.run pins s σ H (fun v H2 => ∃ y S2, Bh ⟨X.K, N⟩ H S H2 S2 ∧ RD ⟨X.K, N⟩ H2 S2 v y ∧ ∃ z, y = .str z ∧ Q' (lookD kvs z) S2) I ⟨N, δ, S, _, re, rs, q, fun d S' v H' b r q' => ⟨d, S', b, r, q'⟩⟩) fun iv s2 h2 => Calls.spliced_nil ?_)))
  obtain ⟨v, H2, I2, rv, y, S2, b2, ry, z, rfl, q2⟩ := h2
  have ev := ry.at_
  subst ev
  obtain ⟨t, rfl⟩ := (show ∃ t, iv = Value.str z t from rv)
  have hm2 := PySem.W.mapOf_K (prog := X.prog) (w := X.w) I2.kIn hl hk
  obtain ⟨f1, f2⟩ := ents_find (z := z) hs
  refine call_meetsIn PySem.F.slot_dict_get hm2.typeIs PySem.F.entry_dict_get (PySem.F.args_dict_get_2 _ _) (meets_dict_get _ a (strKind_is X.prog X.w z t) low) ⟨_, hm2, ?_⟩
  have ef : ∀ r, es.toList.find? (fun d => Value.isStrOf z d.key) = r → PySem.findBy Value.isStrOf es z = r.map (·.val) := fun r e => by
    obtain ⟨l⟩ := es
    unfold PySem.findBy
    rw [List.find?_toArray]
    exact congrArg _ e
  cases hz : lookS kvs z with
  | none =>
    rw [ef _ (f1 hz)]
    refine ⟨.non, H2, I2.tok _, rfl, kk _ S2 _ H2 b2 (.of _) ?_⟩
    unfold lookD at q2
    rw [hz] at q2
    exact q2
  | some v =>
    obtain ⟨e, t2, h1, h2⟩ := f2 v hz
    rw [ef _ h1]
    refine ⟨.str v, H2, I2.tok _, ⟨t2, h2⟩, kk _ S2 _ H2 b2 (.of _) ?_⟩
    unfold lookD at q2
    rw [hz] at q2
    exact q2
/-! ### {'a': e, ..} -/
def dPrs : List (Key × TDE) → DSt → Sto → (List D → Sto → Prop) → Prop
  | [], _, S, Q => Q [] S
  | kt :: r, δ, S, Q => kt.2 δ S fun y S1 => dPrs r δ S1 fun ys S2 => Q (y :: ys) S2
def dDisp (kts : List (Key × TDE)) : TDE := fun δ S Q => ∀ p, S p = none → dPrs kts δ (up S p (.dk [])) fun ys S2 => S2 p = some (.dk []) ∧ Q (.ref p) (up S2 p (.dk ((kts.map (·.1)).zip ys)))
theorem merge_app : ∀ (more kvs : List (Key × V)), ((kvs ++ more).map (·.1)).Nodup → mergeK kvs more = kvs ++ more
  | [], kvs, _ => by rw [List.append_nil]; rfl
  | kv :: r, kvs, h => by
    have e : putK kvs kv.1 kv.2 = kvs ++ [kv] := by
      unfold putK
      rw [if_neg]
      intro hh
      obtain ⟨x, hx, hy⟩ := List.any_eq_true.mp hh
      have hy : x.1 = kv.1 := of_decide_eq_true hy
      rw [List.map_append, List.map_cons] at h
      exact (List.nodup_append.mp h).2.2 x.1 (List.mem_map_of_mem hx) kv.1 List.mem_cons_self hy
    have e2 : mergeK kvs (kv :: r) = mergeK (putK kvs kv.1 kv.2) r := rfl
    rw [e2, e, merge_app r (kvs ++ [kv]) (by rw [List.append_assoc]; exact h), List.append_assoc]
    rfl
theorem lift_prs {K : PySem.W.Frag} {N : Addr → Prop} : ∀ (kts : List (Key × TDE)) {δ : DSt} {σ : L2.St} {H : Hp} {S : Sto} {Q' : List D → Sto → Prop} {Q : List (V × V) → Hp → Prop}, RE ⟨K, N⟩ H S σ δ → RS ⟨K, N⟩ H S → dPrs kts δ S Q' →
    (∀ (ys : List D) (S' : Sto) (vs : List V) (H' : Hp), Bh ⟨K, N⟩ H S H' S' → RDs ⟨K, N⟩ H' S' vs ys → vs.length = kts.length → Q' ys S' → Q (((kts.map (·.1)).zip vs).map fun kv => (kV kv.1, kv.2)) H') → tPairs (kts.map fun kt => (tC (kV kt.1), lE K kt.2)) σ H Q
  | [], δ, σ, H, S, Q', Q, re, rs, q, kk => kk [] S [] H (.refl rs) .nil rfl q
  | kt :: r, δ, σ, H, S, Q', Q, re, rs, q, kk => by
    refine ⟨N, δ, S, _, re, rs, q, fun y S1 v H1 b1 ry q1 => ?_⟩
    refine lift_prs r (re.le (rs.le b1.fr)) b1.rs q1 fun ys S2 vs H2 b2 rys hl q2 => ?_
    exact kk (y :: ys) S2 (v :: vs) H2 (b1.trans b2) (.cons (ry.le (b1.rs.le b2.fr)) rys) (by simp [hl]) q2
theorem de_disp (kts : List (Key × TDE)) {keys : List (Option Expr)} {values : List Expr} {pos : Pos} (h : PPs X pos keys values (kts.map fun kt => (tC (kV kt.1), lE X.K kt.2))) (hn : (kts.map (·.1)).Nodup := by decide) (hall : keys.all (·.isSome) = true := by rfl) (hl : keys.length = values.length := by rfl) (h0 : keys ≠ [] := by exact List.cons_ne_nil _ _)
    (h15 : keys.length ≤ 15 := by decide) (h16 : kts.length ≤ 15 := by decide) : PE X (.Dict keys values pos) (lE X.K (dDisp kts)) :=
  PE.wk (pe_disp h hall hl h0 h15) fun σ H Q ⟨N, δ, S, Q', re, rs, q, kk⟩ p np => by
    obtain ⟨a0, f0⟩ := rs.new (o := .dK []) (m := .dk []) np fun c => ⟨[], upd_same, rfl, .nil⟩
    have b0 : Bh ⟨X.K, N⟩ H S (upd H p (.dK [])) (up S p (.dk [])) := ⟨f0, a0⟩
    refine lift_prs kts (re.le (rs.le f0)) a0 (q p (rs.free np)) fun ys S2 vs H2 b2 ry hlv ⟨e2, q2⟩ => ?_
    obtain ⟨ks, h1, h2, _⟩ := b2.rs.ob p _ e2
    have hks : ks = [] := by cases ks with | nil => rfl | cons a b => simp at h2
    subst hks
    have z1 : ((kts.map (·.1)).zip vs).map (·.1) = kts.map (·.1) := by rw [List.map_fst_zip]; simp [hlv]
    have z2 : ((kts.map (·.1)).zip vs).map (·.2) = vs := by rw [List.map_snd_zip]; simp [hlv]
    have hly : ys.length = kts.length := by rw [← ry.length, hlv]
    have z3 : ((kts.map (·.1)).zip ys).map (·.1) = kts.map (·.1) := by rw [List.map_fst_zip]; simp [hly]
    have z4 : ((kts.map (·.1)).zip ys).map (·.2) = ys := by rw [List.map_snd_zip]; simp [hly]
    refine ⟨h1, (kts.map (·.1)).zip vs, rfl, by simp [hlv]; exact h16, ?_⟩
    have em : mergeK [] ((kts.map (·.1)).zip vs) = (kts.map (·.1)).zip vs := merge_app _ [] (by rw [List.nil_append, z1]; exact hn)
    rw [em]
    obtain ⟨c1, c2⟩ := b2.rs.write (o := .dK ((kts.map (·.1)).zip vs)) (m' := .dk ((kts.map (·.1)).zip ys)) e2 fun le => ⟨_, upd_same, by rw [z1, z3], by rw [z2, z4]; exact ry.le le⟩
    exact kk _ _ _ _ ((b0.trans b2).trans ⟨c2, c1⟩) (.of _) q2
/-! ### a tuple times an int, one, too -/
theorem tuple_mul1 (l : Addr) (items : Array Value) (n : Nat) (dd : Option Addr) (sl : Array (Option Value)) (x : Int) (u : Tok) (c0 : (decide (x < -2 ^ 63) || decide (x ≥ 2 ^ 63)) = false) (c1 : (items.isEmpty || x == 1) = true) :
    Meets (Builtin.«tuple.__mul__» { pos := [Value.ref l, Value.int x u] }) fun x_1 R s =>
      s.heap.get? l = some { cls := Value.type "tuple", dict := dd, data := Data.seq items n, slots := sl } ∧ R (Except.ok (Flow.ret (Value.ref l))) s := by
  refine Meets.of_wp fun prog w A R s h => ?_
  obtain ⟨hp, g, d, tk, os⟩ := s
  obtain ⟨hl, h⟩ := h
  have f1 := AutoSeq1.idx_int
  refine wpAny_ite_false (decide_eq_false (by rw [c0]; exact Bool.false_ne_true)) ?_
  refine wpAny_bind ?_
  refine wpAny_bind ?_
  refine wpAny_bind (wpAny_load' hl (wpAny_pure (wpAny_pure ?_)))
  refine wpAny_ite_true (decide_eq_true c1) ?_
  wp_walk using wpAny_loadPart' hl, wpAny_load' hl
  exact ⟨_, rfl, h⟩
/-- a tuple times one: itself -/
def mulT1 : RD2 := fun x y S Q => mulT x y S Q ∨ ∃ xs, x = .tup xs ∧ y = .int 1 ∧ Q (.tup xs) S
theorem od_mulT1 : OpR X (binaryOp .Mult) (l2 X.K mulT1) := by
  intro pins s σ H v u vv uu Q I rv ru h'
  obtain ⟨N, x, y, S, Q', rx, ry, rs, q, kk⟩ := h'
  rcases q with q | ⟨xs, rfl, rfl, q⟩
  · exact od_mulT pins s σ H v u vv uu Q I rv ru ⟨N, x, y, S, Q', rx, ry, rs, q, kk⟩
  obtain ⟨a, vs, rfl, e, r⟩ := rx.tup_
  have ey := ry.at_
  subst ey
  cases rv
  obtain ⟨t, rfl⟩ := (show ∃ t, uu = Value.int 1 t from ru)
  obtain ⟨its, r3, ⟨w, ho, hc, n, hd⟩, hs⟩ := I.tuple (.of e)
  obtain ⟨cls, dd, data, sl⟩ := w
  dsimp only at hc hd
  subst hc
  subst hd
  have c1 : (its.toArray.isEmpty || (1 : Int) == 1) = true := by simp
  refine wpAny_binaryOp_repeat_ref (by decide : (Value.type "tuple" == Value.type "int") = false) ⟨_, ho, rfl⟩ (fun s' => typeIs_int s' 1 t) noFill_tuple_mul F.fills_int_mul PySem.F.slot_int_rmul repeat_tuple PySem.F.slot_int_index.lookup
    (call_meets PySem.F.slot_int_rmul (typeIs_int s 1 t) PySem.F.entry_int_rmul (PySem.F.args_int_rmul_2 (Value.int 1 t) (Value.ref a)) (int_rmul_tuple 1 t a its.toArray n dd sl) ⟨ho, rfl, ⟨_, ho, rfl⟩,
      call_meets PySem.F.slot_tuple_mul ⟨_, ho, rfl⟩ PySem.F.entry_tuple_mul (PySem.F.args_tuple_mul_2 (Value.ref a) (Value.int 1 t)) (tuple_mul1 a its.toArray n dd sl 1 t (by decide) c1) ⟨ho, ?_⟩⟩)
  exact ⟨V.ref a, H, I, rfl, kk _ S _ H (.refl rs) (.of_tup e r) q⟩
end
end DL

/-! Data layer: values of any kind, a dict of the store among them; what repr tells of them. -/
namespace DL
open PySem L2 PyProof.Rows
/-- the only dicts among such values -/
def dcA : List (Key × D) := [(.inr "a", .int 1)]
mutual
/-- what a value reads as -/
def pyOf (S : Sto) : D → PyData
  | .at .non => .none
  | .at (.bl b) => .bool b
  | .at (.int i) => .int i
  | .at (.str s) => .str s
  | .at (.ref a) => match S a with
    | some (.dk []) => .dict []
    | some (.dk _) => .dict [(.str "a", .int 1)]
    | _ => .none
  | .at _ => .none
  | .tup l => .tuple (pyOfs S l)
  | .wt l => .tuple (pyOfs S l)
  | .fl l => .list (pyOfs S l)
def pyOfs (S : Sto) : List D → List PyData
  | [] => []
  | d :: ds => pyOf S d :: pyOfs S ds
end
mutual
/-- a value; lists in it, dicts in it -/
def vok (S : Sto) (ls dd : Bool) (n : Nat) : D → Prop
  | .at .non => True
  | .at (.bl _) => True
  | .at (.int i) => i.natAbs.log2 < 1900 ∧ (PyData.shown (.int i)).length ≤ 41
  | .at (.str s) => PyData.strOk s = true ∧ s.length ≤ 64
  | .at (.ref a) => dd = true ∧ (S a = some (.dk []) ∨ S a = some (.dk dcA))
  | .at _ => False
  | .tup l => l.length ≤ n ∧ voks S ls dd n l
  | .wt _ => False
  | .fl l => ls = true ∧ voks S ls dd n l
def voks (S : Sto) (ls dd : Bool) (n : Nat) : List D → Prop
  | [] => True
  | d :: ds => vok S ls dd n d ∧ voks S ls dd n ds
end
theorem voks_iff {S : Sto} {ls dd : Bool} {n : Nat} : ∀ {xs : List D}, voks S ls dd n xs ↔ ∀ x ∈ xs, vok S ls dd n x
  | [] => by unfold voks; simp
  | x :: xs => by unfold voks; rw [voks_iff]; simp
theorem pyOfs_map {S : Sto} : ∀ xs : List D, pyOfs S xs = xs.map (pyOf S)
  | [] => by unfold pyOfs; rfl
  | x :: xs => by unfold pyOfs; rw [pyOfs_map xs]; rfl
section
variable {X : Cx} {pins : List (Addr × Obj)} {σ : L2.St} {H : Hp} {s : Shared} {N : Addr → Prop} {S : Sto} {ls dd : Bool} {n : Nat}
mutual
theorem vok_reads (I : Inv X pins σ H s) (rs : RS ⟨X.K, N⟩ H S) : ∀ {d : D} {v : V} {u : Value}, RD ⟨X.K, N⟩ H S v d → RelV v u → vok S ls dd n d → ∃ as, Reads s.heap u (pyOf S d) as ∧ (ls = false → ∀ z ∈ as, (z == sysModules) = false)
  | .at w, v, u, r, rv, h => by
    have e := r.at_
    subst e
    cases v with
    | non => cases rv; unfold pyOf; exact ⟨_, .none, fun _ z hz => nomatch hz⟩
    | bl b => cases rv; unfold pyOf; exact ⟨_, .bool b, fun _ z hz => nomatch hz⟩
    | int i => obtain ⟨t, rfl⟩ := rv; unfold pyOf; exact ⟨_, .int i t, fun _ z hz => nomatch hz⟩
    | str x => obtain ⟨t, rfl⟩ := rv; unfold pyOf; exact ⟨_, .str x t, fun _ z hz => nomatch hz⟩
    | byt _ => unfold vok at h; exact h.elim
    | flt _ => unfold vok at h; exact h.elim
    | ty _ => unfold vok at h; exact h.elim
    | ref a =>
      unfold vok at h
      cases rv
      rcases h.2 with e | e
      · unfold pyOf
        rw [e]
        obtain ⟨ks, h1, h2, _⟩ := rs.ob a _ e
        have hk : ks = [] := by cases ks with | nil => rfl | cons a b => simp at h2
        subst hk
        obtain ⟨_, hm, vs, kv, o, es, ep, g1, g2, g3, g4⟩ := I.hok a _ h1
        have hv : vs = [] := by cases kv; rfl
        subst hv
        have he : es.toList = [] := by
          have z := g4.2.1
          cases h : es.toList with
          | nil => rfl
          | cons a b => rw [h] at z; cases z
        refine ⟨_, .dict g1 g2.1 g3 (by rw [he]; exact .nil) (by rw [he]; exact .nil), fun _ z hz => ?_⟩
        have : z = a := by simpa using hz
        rw [this]; exact hm
      · unfold pyOf
        rw [e]
        obtain ⟨ks, h1, h2, h3⟩ := rs.ob a _ e
        obtain ⟨k0, v0, rfl⟩ : ∃ k0 v0, ks = [(k0, v0)] := by
          cases ks with
          | nil => simp [dcA] at h2
          | cons p r =>
            cases r with
            | nil => exact ⟨p.1, p.2, rfl⟩
            | cons q r => simp [dcA] at h2
        have ek : k0 = .inr "a" := by simpa [dcA] using h2
        subst ek
        have ev : v0 = .int 1 := by
          have := (RDs.of_cons (v := v0) (d := D.int 1) (vs := []) (ds := []) h3).1
          exact this.at_
        subst ev
        obtain ⟨_, hm, vs, kv, o, es, ep, g1, g2, g3, g4⟩ := I.hok a _ h1
        obtain ⟨w1, rfl, hw1, hw2⟩ : ∃ w1, vs = [(.inr "a", w1)] ∧ RelV (.int 1) w1 ∧ True := by
          cases kv with
          | cons p q =>
            cases q
            rename_i b
            obtain ⟨bk, bv⟩ := b
            obtain ⟨p1, p2⟩ := p
            dsimp only at p1 p2
            subst p1
            exact ⟨bv, rfl, p2, trivial⟩
        obtain ⟨t1, rfl⟩ := hw1
        have z := g4.2.1
        obtain ⟨e0, he, hk0, hv0⟩ : ∃ e0, es.toList = [e0] ∧ keyIs (.inr "a") e0.key = true ∧ e0.val = .int 1 t1 := by
          cases h : es.toList with
          | nil => rw [h] at z; cases z
          | cons b c =>
            rw [h] at z
            cases z with
            | cons p1 p2 p3 =>
              cases p3
              exact ⟨b, rfl, p1, p2⟩
        obtain ⟨t2, ht2⟩ : ∃ t2, e0.key = .str "a" t2 := by
          rcases keyIs_shape hk0 with ⟨i, t, e1, e2⟩ | ⟨x, t, e1, e2⟩
          · first | cases e1 | cases e2
          · first
              | (cases e1; exact ⟨t, e2⟩)
              | (cases e2; exact ⟨t, e1⟩)
        refine ⟨_, .dict (as := []) (bs := []) g1 g2.1 g3 ?_ ?_, fun _ z hz => ?_⟩
        · rw [he]
          show ReadsAll _ [e0.key] [.str "a"] []
          rw [ht2]
          exact .cons (as := []) (bs := []) (.str _ _) .nil
        · rw [he]
          show ReadsAll _ [e0.val] [.int 1] []
          rw [hv0]
          exact .cons (as := []) (bs := []) (.int _ _) .nil
        · have : z = a := by simpa using hz
          rw [this]; exact hm
  | .tup xs, v, u, r, rv, h => by
    obtain ⟨a, vs, rfl, t, ru⟩ := r.tup_
    unfold vok at h
    unfold pyOf
    cases rv
    obtain ⟨its, r3, ⟨o, ho, hc, n, hd⟩, _⟩ := I.tuple (.of t)
    obtain ⟨as, q1, q2⟩ := voks_reads I rs ru r3 h.2
    exact ⟨_, .tuple ho hc hd q1, q2⟩
  | .wt xs, v, u, r, rv, h => by unfold vok at h; exact h.elim
  | .fl xs, v, u, r, rv, h => by
    obtain ⟨a, vs, rfl, t, ru⟩ := r.fl_
    unfold vok at h
    unfold pyOf
    cases rv
    obtain ⟨its, r3, ⟨o, n, ho, hc, _, hd⟩, _⟩ := I.list t.sq
    obtain ⟨as, q1, q2⟩ := voks_reads I rs ru r3 h.2
    exact ⟨_, .list ho hc hd q1, fun z => by rw [h.1] at z; cases z⟩
theorem voks_reads (I : Inv X pins σ H s) (rs : RS ⟨X.K, N⟩ H S) : ∀ {ds : List D} {vs : List V} {us : List Value}, RDs ⟨X.K, N⟩ H S vs ds → Vals vs us → voks S ls dd n ds → ∃ as, ReadsAll s.heap us (pyOfs S ds) as ∧ (ls = false → ∀ z ∈ as, (z == sysModules) = false)
  | [], vs, us, r, rv, h => by
    have := r.inv_nil
    subst this
    cases rv
    unfold pyOfs
    exact ⟨_, .nil, fun _ z hz => nomatch hz⟩
  | d :: ds, vs, us, r, rv, h => by
    obtain ⟨v, ws, rfl, r1, r2⟩ := r.inv_cons
    cases rv with
    | cons rv1 rv2 =>
      unfold voks at h
      unfold pyOfs
      obtain ⟨as, q1, q2⟩ := vok_reads I rs r1 rv1 h.1
      obtain ⟨bs, q3, q4⟩ := voks_reads I rs r2 rv2 h.2
      exact ⟨_, .cons q1 q3, fun z y hy => (List.mem_append.mp hy).elim (q2 z y) (q4 z y)⟩
end
mutual
theorem vok_props : ∀ {d : D}, vok S ls dd n d → (pyOf S d).showable = true ∧ (pyOf S d).leavesShort 41 = true ∧ (dd = false → (pyOf S d).hasDict = false)
  | .at w, h => by
    cases w with
    | non => unfold pyOf; exact ⟨rfl, rfl, fun _ => rfl⟩
    | bl b => unfold pyOf; exact ⟨rfl, rfl, fun _ => rfl⟩
    | int i => unfold vok at h; unfold pyOf; exact ⟨decide_eq_true (by omega), decide_eq_true h.2, fun _ => rfl⟩
    | str x =>
      unfold vok at h
      unfold pyOf
      refine ⟨rfl, ?_, fun _ => rfl⟩
      simp only [PyData.leavesShort, List.all_eq_true, decide_eq_true_eq]
      intro c hc
      have h0 := h.1
      unfold PyData.strOk at h0
      rw [Array.all_eq_true] at h0
      obtain ⟨i, hi, e⟩ := List.getElem_of_mem hc
      have := h0 i (by simpa using hi)
      rw [Array.getElem_toList] at e
      rw [e] at this
      have := of_decide_eq_true this
      have z : (16 : Nat) ^ 8 = 4294967296 := by decide
      omega
    | byt _ => unfold vok at h; exact h.elim
    | flt _ => unfold vok at h; exact h.elim
    | ty _ => unfold vok at h; exact h.elim
    | ref a =>
      unfold vok at h
      unfold pyOf
      rcases h.2 with e | e <;> rw [e]
      · exact ⟨rfl, rfl, fun z => by rw [h.1] at z; cases z⟩
      · exact ⟨by decide +kernel, by decide +kernel, fun z => by rw [h.1] at z; cases z⟩
  | .tup xs, h => by
    unfold vok at h
    unfold pyOf
    obtain ⟨a, b, c⟩ := voks_props h.2
    exact ⟨by simp only [PyData.showable]; exact a, by simp only [PyData.leavesShort]; exact b, fun z => by simp only [PyData.hasDict]; exact c z⟩
  | .wt xs, h => by unfold vok at h; exact h.elim
  | .fl xs, h => by
    unfold vok at h
    unfold pyOf
    obtain ⟨a, b, c⟩ := voks_props h.2
    exact ⟨by simp only [PyData.showable]; exact a, by simp only [PyData.leavesShort]; exact b, fun z => by simp only [PyData.hasDict]; exact c z⟩
theorem voks_props : ∀ {ds : List D}, voks S ls dd n ds → PyData.showableAll (pyOfs S ds) = true ∧ PyData.leavesShortAll 41 (pyOfs S ds) = true ∧ (dd = false → PyData.hasDictAll (pyOfs S ds) = false)
  | [], h => by unfold pyOfs; exact ⟨rfl, rfl, fun _ => rfl⟩
  | d :: ds, h => by
    unfold voks at h
    unfold pyOfs
    obtain ⟨a, b, c⟩ := vok_props h.1
    obtain ⟨a2, b2, c2⟩ := voks_props h.2
    exact ⟨by simp only [PyData.showableAll, a, a2]; rfl, by simp only [PyData.leavesShortAll, b, b2]; rfl, fun z => by simp only [PyData.hasDictAll, c z, c2 z]; rfl⟩
end
/-- repr of such a value -/
def repD3 : RDL := fun ds S Q => ∃ x ls dd n, ds = [x] ∧ (ls && dd) = false ∧ vok S ls dd n x ∧ (pyOf S x).depth ≤ 60 ∧ (pyOf S x).weight ≤ 300000 ∧ Q (.str (pyOf S x).shown) S
theorem cd_repr3 {k : Nat} (hr : Rg k X.A) : CallR X (.builtin "repr") (lL X.K repD3) := by
  intro pins s σ H vs us Q I r hh
  obtain ⟨N, ds, S, Q', rd, rs, ⟨x, ls, dd, n, rfl, hl, hv, hd, hw, q⟩, kk⟩ := hh
  obtain ⟨v, rfl, rx⟩ := rd.one'
  obtain ⟨u, rfl, ru⟩ := Vals.one r
  have fin : ∀ {u : Tok} {h' : Heap} {tk : Nat}, Inv X pins σ H { s with heap := h', toks := tk } → EP X pins σ Q (.str (pyOf S x).shown u) { s with heap := h', toks := tk } := fun {u h' tk} J => ⟨.str _, H, J, ⟨u, rfl⟩, kk _ S _ H (.refl rs) (.of _) q⟩
  obtain ⟨as, rr, hs⟩ := vok_reads I rs rx ru hv
  obtain ⟨p1, p2, p3⟩ := vok_props hv
  have hz : (pyOf S x).shown.length ≤ sizeLine := by
    have := PyData.shown_le 41 (by decide) _ p2
    rw [sizeLine_eq]
    omega
  have hu := hr.r.un
  have low : (pyOf S x).hasDict = true → sysModules ∉ as := fun z hm => by
    cases dd with
    | false => rw [p3 rfl] at z; cases z
    | true =>
      have : ls = false := by simpa using hl
      have := hs this _ hm
      simp at this
  generalize pyOf S x = d at rr p1 p2 p3 hz low fin hd hw q
  cases d with
  | none => cases rr; exact PySem.P.repr_of_none (fin (I.tok _))
  | bool b => cases rr; exact PySem.P.repr_of_bool (by cases b <;> exact fin (I.tok _))
  | int i => cases rr; exact PySem.P.repr_of_int (of_decide_eq_true p1) (fin (I.tok _))
  | str z => cases rr; exact PySem.P.repr_of_str (fin (I.tok _)) hz
  | list xs =>
    cases rr
    rename_i a o vs n e1 e2 e3 e4
    exact repr_of_reads' (.list e1 e2 e3 e4) p1 low hr.g (by omega) (fun _ _ e => e) (fun h' u tk hk => fin (I.kept hk)) hz
  | tuple xs =>
    cases rr
    rename_i a o vs n e1 e2 e3 e4
    exact repr_of_reads' (.tuple e1 e2 e3 e4) p1 low hr.g (by omega) (fun _ _ e => e) (fun h' u tk hk => fin (I.kept hk)) hz
  | dict kvs =>
    have rr2 := rr
    cases rr
    exact repr_of_reads' rr2 p1 low hr.g (by omega) (fun _ _ e => e) (fun h' u tk hk => fin (I.kept hk)) hz
end
end DL

/-! Data layer: [k for k in d if d[k] > c]. -/
namespace DL
open PySem L2 PyProof.Rows
section
variable {X : Cx}
def rDx : R2 := fun x y H Q => ∃ a v, x = .ref a ∧ DGet H a y (some v) ∧ Q v H
abbrev rGtI : R2 := rI0 fun i j => .bl (decide (j < i))
def dKgt (i j : Nat) (c : Int) : TDE := fun δ S Q => ∃ (a : Addr) (ks : List (Key × Int)), δ[i]? = some (some (.ref a)) ∧ S a = some (.dk (ks.map fun q => (q.1, .int q.2))) ∧ (ks.map (·.1)).Nodup ∧ ks.length < sizeLine ∧ j < δ.length ∧ Q (.fl ((ks.filter fun q => decide (c < q.2)).map fun q => .at (kV q.1))) S
theorem val_at {ks : List (Key × Int)} (h : (ks.map (·.1)).Nodup) {n : Nat} {q : Key × Int} (e : ks[n]? = some q) : valV (ks.map fun q => (q.1, V.int q.2)) q.1 = some (.int q.2) := by
  induction ks generalizing n with
  | nil => simp at e
  | cons p r ih =>
    rw [List.map_cons, List.nodup_cons] at h
    cases n with
    | zero =>
      simp only [List.getElem?_cons_zero, Option.some.injEq] at e
      subst e
      simp [valV, List.find?_cons]
    | succ n =>
      simp only [List.getElem?_cons_succ] at e
      have ne : p.1 ≠ q.1 := fun z => h.1 (by rw [z]; exact List.mem_map_of_mem (List.mem_of_getElem? e))
      rw [List.map_cons]
      have := valV_neg (p := ((p.1, V.int p.2) : Key × V)) (r := r.map fun q => (q.1, V.int q.2)) (k := q.1) ne
      rw [this]
      exact ih h.2 e
theorem take_filter {ks : List (Key × Int)} {c : Int} {n : Nat} {q : Key × Int} (e : ks[n]? = some q) : (((ks.take (n + 1)).filter fun q => decide (c < q.2)).map fun q => kV q.1) = (((ks.take n).filter fun q => decide (c < q.2)).map fun q => kV q.1) ++ (if c < q.2 then [kV q.1] else []) := by
  rw [tk1 e, List.filter_append, List.map_append]
  congr 1
  by_cases h : c < q.2
  · rw [if_pos h, List.filter_cons, if_pos (decide_eq_true h)]; rfl
  · rw [if_neg h, List.filter_cons, decide_eq_false h]; rfl
theorem un1 {k : Nat} {A : Around} (hr : Rg k A) : A.units + 1 < cLine := by have := hr.r.un; omega
theorem de_kgt (i j : Nat) (c : Int) {one : Str} {elt tg iter : Expr} {ifs : List Expr} {scope : Scope} {pos : Pos} (hij : i ≠ j) (hc : X.calm = true) (hN : X.N.Nodup) (hi : PE X iter (tVar i)) (ok : BlkOk X.N X.env.scope scope [(one, j)])
    (hg : ∀ (s : Shared) (H : Hp) (C : Addr) (cl : List (Str × Addr)) (fp : List Addr), PG (X.blk s H scope (compEnvC scope cl C X.env) fp) tg (gName j))
    (ht : ∀ (s : Shared) (H : Hp) (C : Addr) (cl : List (Str × Addr)) (fp : List Addr), PTs (X.blk s H scope (compEnvC scope cl C X.env) fp) ifs (tTest (tOp rGtI (tOp rDx (tVar i) (tVar j)) (tC (.int c)))))
    (he : ∀ (s : Shared) (H : Hp) (C : Addr) (cl : List (Str × Addr)) (fp : List Addr), PE (X.blk s H scope (compEnvC scope cl C X.env) fp) elt (tVar j)) (hs : ∀ x, foldedSetIterable iter X.env x = pure x := by intro _; rfl) :
    PE X (.ListComp elt [⟨tg, iter, ifs, 0⟩] scope pos) (lE X.K (dKgt i j c)) :=
  PE.wk (pe_lock (pe_lc (own := [(one, j)]) hc hN (pi_keys hi) ok hg ht he hs)) fun σ H Q ⟨N, δ, S, Q', re, rs, ⟨a, ks, hδ, e, nd, hsz, hjd, q⟩, kk⟩ => by
    obtain ⟨v, hσ, rv⟩ := re.2 i _ hδ
    have ev := rv.at_
    subst ev
    obtain ⟨gs, h1, h2, h3⟩ := rs.ob a _ e
    have egs : gs = ks.map fun q => (q.1, V.int q.2) := by
      have r : RDs ⟨X.K, N⟩ H S (gs.map (·.2)) ((ks.map fun q => V.int q.2).map D.at) := by
        rw [List.map_map] at h3 ⊢
        exact h3
      have e2 := r.atoms
      rw [List.map_map] at h2
      have : ∀ (gs : List (Key × V)) (ks : List (Key × Int)), gs.map (·.1) = ks.map ((·.1) ∘ fun q => (q.1, D.int q.2)) → gs.map (·.2) = ks.map (fun q => V.int q.2) → gs = ks.map fun q => (q.1, V.int q.2) := by
        intro gs
        induction gs with
        | nil => intro ks a b; cases ks with | nil => rfl | cons p r => simp at a
        | cons g gs ih =>
          intro ks a b
          cases ks with
          | nil => simp at a
          | cons p r =>
            rw [List.map_cons, List.map_cons, List.cons.injEq] at a b
            rw [List.map_cons, ← ih r a.2 b.2]
            congr 1
            exact Prod.ext a.1 b.1
      exact this gs ks h2 e2
    subst egs
    refine ⟨a, .dK (ks.map fun q => (q.1, V.int q.2)), h1, trivial, fun od => ?_⟩
    refine ⟨.ref a, hσ, a, od, rfl, .inl ⟨_, upd_same, fun Dn hD => ?_⟩⟩
    have neD : a ≠ Dn := fun z => by subst z; rw [upd_same] at hD; cases hD
    have hD0 : H Dn = none := by rw [upd_ne (fun z => neD z.symm)] at hD; exact hD
    refine ⟨fun n m H2 => m = ks.length - n ∧ n ≤ ks.length ∧ H2 = upd (upd H a (.frz od (.dK (ks.map fun q => (q.1, V.int q.2))))) Dn (.lst (((ks.take n).filter fun q => decide (c < q.2)).map fun q => kV q.1)), ⟨ks.length, rfl, Nat.zero_le _, rfl⟩, ?_⟩
    rintro n m H2 ⟨rfl, hn, rfl⟩
    have hfa : (upd (upd H a (.frz od (.dK (ks.map fun q => (q.1, V.int q.2))))) Dn (.lst (((ks.take n).filter fun q => decide (c < q.2)).map fun q => kV q.1))) a = some (.frz od (.dK (ks.map fun q => (q.1, V.int q.2)))) := by
      rw [upd_ne neD, upd_same]
    by_cases hlt : n < ks.length
    · refine .inr ⟨⟨hfa, by simpa using hlt⟩, fun H' => H' = upd (upd H a (.frz od (.dK (ks.map fun q => (q.1, V.int q.2))))) Dn (.lst (((ks.take (n + 1)).filter fun q => decide (c < q.2)).map fun q => kV q.1)), fun H' e' => ⟨ks.length - (n + 1), by omega, rfl, hlt, e'⟩, ?_⟩
      rintro x H' ⟨rfl, kx, vx, hk, rfl⟩
      obtain ⟨q0, hq0, eq0⟩ := map_at hk
      cases eq0
      have hw : wipe ((wipe σ [j]).set j (some (kV q0.1))) [j] = wipe σ [j] := by
        rw [wipe_set List.mem_cons_self, wipe_wipe]
      have hσi : ((wipe σ [j]).set j (some (kV q0.1)))[i]? = some (some (.ref a)) := by
        rw [List.getElem?_set_ne (Ne.symm hij)]
        show (σ.set j none)[i]? = _
        rw [List.getElem?_set_ne (Ne.symm hij), hσ]
      have hjl : j < σ.length := by rw [re.1]; exact hjd
      have hσj : ((wipe σ [j]).set j (some (kV q0.1)))[j]? = some (some (kV q0.1)) := by
        rw [List.getElem?_set_self]
        show j < (σ.set j none).length
        simpa using hjl
      show wipe ((wipe σ [j]).set j (some (kV q0.1))) [j] = wipe σ [j] ∧ _
      refine ⟨hw, ?_⟩
      refine ⟨.ref a, hσi, kV q0.1, hσj, a, .int q0.2, rfl, .inl ⟨_, q0.1, .inr ⟨od, hfa⟩, rfl, (val_at nd hq0).symm⟩, q0.2, c, rfl, rfl, decide (c < q0.2), rfl, ?_⟩
      by_cases hgt : c < q0.2
      · rw [decide_eq_true hgt]
        refine iteT ⟨kV q0.1, hσj, _, upd_same, ?_, ?_⟩
        · rw [List.length_map]
          exact Nat.lt_of_le_of_lt (List.length_filter_le _ _) (by rw [List.length_take]; omega)
        · rw [take_filter hq0, if_pos hgt, upd_upd]
      · rw [decide_eq_false hgt]
        refine iteF ?_
        rw [take_filter hq0, if_neg hgt, List.append_nil]
    · have en : n = ks.length := by omega
      subst en
      refine .inl ⟨⟨hfa, by simp⟩, hfa, ?_⟩
      rw [List.take_length]
      have eH : upd (upd (upd H a (.frz od (.dK (ks.map fun q => (q.1, V.int q.2))))) Dn (.lst ((ks.filter fun q => decide (c < q.2)).map fun q => kV q.1))) a (.dK (ks.map fun q => (q.1, V.int q.2))) = upd H Dn (.lst ((ks.filter fun q => decide (c < q.2)).map fun q => kV q.1)) := by
        funext b
        by_cases hb : b = a
        · subst hb; rw [upd_same, upd_ne neD, h1]
        · rw [upd_ne hb]
          by_cases hb2 : b = Dn
          · subst hb2; rw [upd_same, upd_same]
          · rw [upd_ne hb2, upd_ne hb2, upd_ne hb]
      rw [eH]
      obtain ⟨b1, r1⟩ := new_fl rs hD0 (ds := ((ks.filter fun q => decide (c < q.2)).map fun q => kV q.1).map D.at) (RDs.of_atoms _)
      refine kk _ S _ _ b1 r1 ?_
      rw [List.map_map]
      exact q
end
/-! ### sorted of any sequence of texts -/
def srtQ : RDL := fun ds S Q => ∃ (x : D) (ys : List Str), ds = [x] ∧ sqOf S x = some (ys.map D.str) ∧ ys.length ≤ 100000 ∧ ∀ zs : List Str, zs.Perm ys → sortedS zs = true → Q (.fl (zs.map D.str)) S
theorem cd_sortedQ {X : Cx} : CallR X (.builtin "sorted") (lL X.K srtQ) := by
  intro pins s σ H vs us Q I r hh
  obtain ⟨N, ds, S, Q', rd, rs, ⟨x, ys, rfl, hx, hz, q⟩, kk⟩ := hh
  obtain ⟨v, rfl, rx⟩ := rd.one'
  obtain ⟨a, ws, rfl, sq, rw'⟩ := sq_sq rs rx hx
  have e : ws = ys.map V.str := RDs.atoms (us := ys.map V.str) (by rw [List.map_map]; exact rw')
  subst e
  obtain ⟨u, rfl, ru⟩ := Vals.one r
  cases ru
  have hz2 : ys.length ≤ sizeLine := Nat.le_trans hz (by decide)
  obtain ⟨its, r3, T, o, n, hT, ho, hc, hd⟩ : ∃ its : List Value, Vals (ys.map V.str) its ∧ ∃ (T : String) (o : Obj) (n : Nat), (T = "list" ∨ T = "tuple") ∧ s.heap.get? a = some o ∧ o.cls = .type T ∧ o.data = .seq its.toArray n := by
    rcases sq with sq | sq
    · obtain ⟨its, r', pl, _⟩ := I.list sq
      obtain ⟨o, ho, hc, n, hd⟩ := pl.isList
      exact ⟨its, r', _, o, n, .inl rfl, ho, hc, hd⟩
    · obtain ⟨its, r', pl, _⟩ := I.tuple sq
      obtain ⟨o, ho, hc, n, hd⟩ := pl
      exact ⟨its, r', _, o, n, .inr rfl, ho, hc, hd⟩
  have hS := r3.strs
  have hl : its.length = ys.length := by have := r3.length; rw [List.length_map] at this; exact this.symm
  have vz : its.length ≤ sizeLine := by omega
  refine Calls.call_function_entry kind_sorted plain_sorted entry_sorted (args_sorted1 _) ?_
  unfold Builtin.«sorted»
  refine wpAny_bind (m := checkCount "sorted" 1 1 _) (wpAny_pure ?_)
  refine wpAny_bind (wpAny_collect_seq (A := X.A.in1) a hT ho hc hd (fun h' k1 => ?_) (by rw [List.size_toArray]; exact vz))
  rw [List.toList_toArray]
  refine wpAny_bind (wpAny_newList ?_ vz)
  have hoL : (h'.push (seqObj "list" its.toArray 0)).get? h'.objs.size = some (seqObj "list" its.toArray 0) := Heap.get?_push_size _ rfl
  refine wpAny_bind (wpAny_holding (wpAny_call_entry slot_list_sort ⟨_, hoL, rfl⟩ entry_list_sort
      (list_sort_treeKAny strKind_oneLt hoL hS.keysOf (fun v₁ v₂ rest e => keyKind_strs (by rw [← e]; exact hS)) vz fun st' a1 a2 => ⟨_, rfl, ?_⟩) (args_list_sort _)))
  obtain ⟨zs, g1, g2, g3⟩ := sorted_out_str hS a1 a2
  obtain ⟨c, hc2⟩ := sortedHeap_at (vs := its) (out := (arrOf st').map (·.2)) hoL
  have hlen : (zs.map V.str).length ≤ sizeLine := by rw [List.length_map, g2.length_eq]; exact hz2
  have I1 : Inv X pins σ H { s with heap := h' } := I.kept (t' := s.toks) k1
  have nH : H h'.objs.size = none := I1.hok.fresh (Nat.le_refl _)
  obtain ⟨b1, r1⟩ := new_fl rs nH (rds_strs zs)
  refine wpAny_pure ⟨_, rfl, .ref h'.objs.size, upd H h'.objs.size (.lst (zs.map V.str)), I1.laid (t' := s.toks) (fun b u e => ?_) (Nat.le_refl _)
    (show ObjOk X.prog X.w _ _ _ (.lst (zs.map V.str)) from ⟨hlen, ((arrOf st').map (·.2)).toList, c, vals_of_strs g1, by rw [Array.toArray_toList]; exact hc2⟩), rfl, kk _ S _ _ b1 r1 (q zs g2 g3)⟩
  have hb : b < h'.objs.size := Heap.lt_size e
  rw [sortedHeap_old (Nat.ne_of_lt hb) (by rw [size_push']; exact Nat.lt_succ_of_lt hb)]
  exact Heap.get?_push_of_some _ e
/-- a def that promises nothing -/
theorem cal_no {P : Program} {w : World} {K : PySem.W.Frag} {mg : Str → Option Value} {base : Heap} {k : Nat} {x : Str} {st : Stmt} {ps : List Str} {sp : SpD} {f : Addr} {fd : FuncData} (F : Fun K x x st f fd) (mf : mg x = some (.ref f)) (b : Binds K fd ps []) (h : ∀ ds S Q E, ¬ sp ds S Q E) : Cal P w K mg base k x st ps sp :=
  ⟨f, fd, ⟨fun vs H Q E ⟨_, _, _, _, _, _, _, q, _⟩ => (h _ _ _ _ q).elim, fun A outer s H args us vs Q E _ _ _ _ _ ⟨_, _, _, _, _, _, _, q, _⟩ => (h _ _ _ _ q).elim⟩, b, mf, F⟩
end DL

/-! Data layer: [k for k in ds[0] if ds[0][k] > c]; where a text stands in a list. -/
namespace DL
open PySem L2 PyProof.Rows
section
variable {X : Cx}
abbrev rLx (K : PySem.W.Frag) : R2 := fun x y H Q => ∃ (a : Addr) (vs : List V) (i : Int) (w : V), x = .ref a ∧ y = .int i ∧ SqL K H a vs ∧ atI vs i = some w ∧ Q w H
def dKgtL (i j : Nat) (c : Int) : TDE := fun δ S Q => ∃ (l a : Addr) (ds : List D) (ks : List (Key × Int)), δ[i]? = some (some (.ref l)) ∧ S l = some (.lst (.ref a :: ds)) ∧ S a = some (.dk (ks.map fun q => (q.1, .int q.2))) ∧ (ks.map (·.1)).Nodup ∧ ks.length < sizeLine ∧ j < δ.length ∧ Q (.fl ((ks.filter fun q => decide (c < q.2)).map fun q => .at (kV q.1))) S
theorem de_kgtL (i j : Nat) (c : Int) {one : Str} {elt tg iter : Expr} {ifs : List Expr} {scope : Scope} {pos : Pos} (hij : i ≠ j) (hc : X.calm = true) (hN : X.N.Nodup) (hi : PE X iter (tOp (rLx X.K) (tVar i) (tC (.int 0)))) (ok : BlkOk X.N X.env.scope scope [(one, j)])
    (hg : ∀ (s : Shared) (H : Hp) (C : Addr) (cl : List (Str × Addr)) (fp : List Addr), PG (X.blk s H scope (compEnvC scope cl C X.env) fp) tg (gName j))
    (ht : ∀ (s : Shared) (H : Hp) (C : Addr) (cl : List (Str × Addr)) (fp : List Addr), PTs (X.blk s H scope (compEnvC scope cl C X.env) fp) ifs (tTest (tOp rGtI (tOp rDx (tOp (rLx X.K) (tVar i) (tC (.int 0))) (tVar j)) (tC (.int c)))))
    (he : ∀ (s : Shared) (H : Hp) (C : Addr) (cl : List (Str × Addr)) (fp : List Addr), PE (X.blk s H scope (compEnvC scope cl C X.env) fp) elt (tVar j)) (hs : ∀ x, foldedSetIterable iter X.env x = pure x := by intro _; rfl) :
    PE X (.ListComp elt [⟨tg, iter, ifs, 0⟩] scope pos) (lE X.K (dKgtL i j c)) :=
  PE.wk (pe_lock (pe_lc (own := [(one, j)]) hc hN (pi_keys hi) ok hg ht he hs)) fun σ H Q ⟨N, δ, S, Q', re, rs, ⟨l, a, ds, ks, hδ, el, e, nd, hsz, hjd, q⟩, kk⟩ => by
    obtain ⟨v, hσ, rv⟩ := re.2 i _ hδ
    have ev := rv.at_
    subst ev
    obtain ⟨gs, h1, h2, h3⟩ := rs.ob a _ e
    obtain ⟨vl, hl1, hl2⟩ := rs.ob l _ el
    obtain ⟨v0, vl, rfl, hv0, _⟩ := hl2.inv_cons
    have hv0 := hv0.at_
    subst hv0
    have la : l ≠ a := fun z => by subst z; rw [e] at el; cases el
    have at0 : atI (V.ref a :: vl) 0 = some (V.ref a) := at_0
    have egs : gs = ks.map fun q => (q.1, V.int q.2) := by
      have r : RDs ⟨X.K, N⟩ H S (gs.map (·.2)) ((ks.map fun q => V.int q.2).map D.at) := by
        rw [List.map_map] at h3 ⊢
        exact h3
      have e2 := r.atoms
      rw [List.map_map] at h2
      have : ∀ (gs : List (Key × V)) (ks : List (Key × Int)), gs.map (·.1) = ks.map ((·.1) ∘ fun q => (q.1, D.int q.2)) → gs.map (·.2) = ks.map (fun q => V.int q.2) → gs = ks.map fun q => (q.1, V.int q.2) := by
        intro gs
        induction gs with
        | nil => intro ks a b; cases ks with | nil => rfl | cons p r => simp at a
        | cons g gs ih =>
          intro ks a b
          cases ks with
          | nil => simp at a
          | cons p r =>
            rw [List.map_cons, List.map_cons, List.cons.injEq] at a b
            rw [List.map_cons, ← ih r a.2 b.2]
            congr 1
            exact Prod.ext a.1 b.1
      exact this gs ks h2 e2
    subst egs
    refine ⟨a, .dK (ks.map fun q => (q.1, V.int q.2)), h1, trivial, fun od => ?_⟩
    refine ⟨.ref l, hσ, l, _, 0, .ref a, rfl, rfl, .of (xs := V.ref a :: vl) (by rw [upd_ne la]; exact hl1), at0, a, od, rfl, .inl ⟨_, upd_same, fun Dn hD => ?_⟩⟩
    have neD : a ≠ Dn := fun z => by subst z; rw [upd_same] at hD; cases hD
    have hD0 : H Dn = none := by rw [upd_ne (fun z => neD z.symm)] at hD; exact hD
    refine ⟨fun n m H2 => m = ks.length - n ∧ n ≤ ks.length ∧ H2 = upd (upd H a (.frz od (.dK (ks.map fun q => (q.1, V.int q.2))))) Dn (.lst (((ks.take n).filter fun q => decide (c < q.2)).map fun q => kV q.1)), ⟨ks.length, rfl, Nat.zero_le _, rfl⟩, ?_⟩
    rintro n m H2 ⟨rfl, hn, rfl⟩
    have hfa : (upd (upd H a (.frz od (.dK (ks.map fun q => (q.1, V.int q.2))))) Dn (.lst (((ks.take n).filter fun q => decide (c < q.2)).map fun q => kV q.1))) a = some (.frz od (.dK (ks.map fun q => (q.1, V.int q.2)))) := by
      rw [upd_ne neD, upd_same]
    have hll : (upd (upd H a (.frz od (.dK (ks.map fun q => (q.1, V.int q.2))))) Dn (.lst (((ks.take n).filter fun q => decide (c < q.2)).map fun q => kV q.1))) l = some (.lst (V.ref a :: vl)) := by
      rw [upd_ne (fun z => by subst z; rw [hD0] at hl1; cases hl1), upd_ne la]; exact hl1
    by_cases hlt : n < ks.length
    · refine .inr ⟨⟨hfa, by simpa using hlt⟩, fun H' => H' = upd (upd H a (.frz od (.dK (ks.map fun q => (q.1, V.int q.2))))) Dn (.lst (((ks.take (n + 1)).filter fun q => decide (c < q.2)).map fun q => kV q.1)), fun H' e' => ⟨ks.length - (n + 1), by omega, rfl, hlt, e'⟩, ?_⟩
      rintro x H' ⟨rfl, kx, vx, hk, rfl⟩
      obtain ⟨q0, hq0, eq0⟩ := map_at hk
      cases eq0
      have hw : wipe ((wipe σ [j]).set j (some (kV q0.1))) [j] = wipe σ [j] := by
        rw [wipe_set List.mem_cons_self, wipe_wipe]
      have hσi : ((wipe σ [j]).set j (some (kV q0.1)))[i]? = some (some (.ref l)) := by
        rw [List.getElem?_set_ne (Ne.symm hij)]
        show (σ.set j none)[i]? = _
        rw [List.getElem?_set_ne (Ne.symm hij), hσ]
      have hjl : j < σ.length := by rw [re.1]; exact hjd
      have hσj : ((wipe σ [j]).set j (some (kV q0.1)))[j]? = some (some (kV q0.1)) := by
        rw [List.getElem?_set_self]
        show j < (σ.set j none).length
        simpa using hjl
      show wipe ((wipe σ [j]).set j (some (kV q0.1))) [j] = wipe σ [j] ∧ _
      refine ⟨hw, ?_⟩
      refine ⟨.ref l, hσi, l, _, 0, .ref a, rfl, rfl, .of (xs := V.ref a :: vl) hll, at0, kV q0.1, hσj, a, .int q0.2, rfl, .inl ⟨_, q0.1, .inr ⟨od, hfa⟩, rfl, (val_at nd hq0).symm⟩, q0.2, c, rfl, rfl, decide (c < q0.2), rfl, ?_⟩
      by_cases hgt : c < q0.2
      · rw [decide_eq_true hgt]
        refine iteT ⟨kV q0.1, hσj, _, upd_same, ?_, ?_⟩
        · rw [List.length_map]
          exact Nat.lt_of_le_of_lt (List.length_filter_le _ _) (by rw [List.length_take]; omega)
        · rw [take_filter hq0, if_pos hgt, upd_upd]
      · rw [decide_eq_false hgt]
        refine iteF ?_
        rw [take_filter hq0, if_neg hgt, List.append_nil]
    · have en : n = ks.length := by omega
      subst en
      refine .inl ⟨⟨hfa, by simp⟩, hfa, ?_⟩
      rw [List.take_length]
      have eH : upd (upd (upd H a (.frz od (.dK (ks.map fun q => (q.1, V.int q.2))))) Dn (.lst ((ks.filter fun q => decide (c < q.2)).map fun q => kV q.1))) a (.dK (ks.map fun q => (q.1, V.int q.2))) = upd H Dn (.lst ((ks.filter fun q => decide (c < q.2)).map fun q => kV q.1)) := by
        funext b
        by_cases hb : b = a
        · subst hb; rw [upd_same, upd_ne neD, h1]
        · rw [upd_ne hb]
          by_cases hb2 : b = Dn
          · subst hb2; rw [upd_same, upd_same]
          · rw [upd_ne hb2, upd_ne hb2, upd_ne hb]
      rw [eH]
      obtain ⟨b1, r1⟩ := new_fl rs hD0 (ds := ((ks.filter fun q => decide (c < q.2)).map fun q => kV q.1).map D.at) (RDs.of_atoms _)
      refine kk _ S _ _ b1 r1 ?_
      rw [List.map_map]
      exact q

/-- x.index(y): a text of a list of texts -/
def idxD : RDM := fun x ys S Q => ∃ (zs : List Str) (z : Str) (j : Nat), lsOf S x = some (zs.map D.str) ∧ ys = [.str z] ∧ zs[j]? = some z ∧ (∀ m, m < j → zs[m]? ≠ some z) ∧ Q (.int (j : Nat)) S
theorem md_index : MtR X "list.index" (lM X.K idxD) := by
  intro pins s σ H v vs vv us Q I rv rvs hh
  obtain ⟨N, x, ys, S, Q', rx, rxs, rs, ⟨zs, z, j, hx, rfl, hj, hm, q⟩, kk⟩ := hh
  obtain ⟨w, rfl, rw'⟩ := rxs.one'
  have := rw'.at_
  subst this
  obtain ⟨a, ws, rfl, sq, r⟩ := ls_sq rs rx hx
  have e : ws = zs.map V.str := RDs.atoms (us := zs.map V.str) (by rw [List.map_map]; exact r)
  subst e
  refine mt_index pins s σ H _ _ vv us Q I rv rvs ⟨a, _, .str z, j, .str z, rfl, rfl, sq, rfl, ?_, by rw [List.getElem?_map, hj]; rfl, ?_, fun m z' hm1 hm2 => ?_, kk _ S _ H (.refl rs) (.of _) q⟩
  · rw [List.all_map, List.all_eq_true]; intro y _; rfl
  · simp [eqV]
  · obtain ⟨y, hy, rfl⟩ := map_at hm2
    have ne : y ≠ z := fun e => hm m hm1 (by rw [hy, e])
    simp [eqV, ne]
end
end DL

/-! Data layer: dict of pairs of any values. -/
namespace DL
open PySem L2 PyProof.Rows
/-! ### dict(pairs), any values -/
def dctQ : RDL := fun ds S Q => ∃ (x : D) (kvs : List (Key × D)), ds = [x] ∧ lsOf S x = some (kvs.map fun q => .tup [.at (kV q.1), q.2]) ∧ (kvs.map (·.1)).Nodup ∧ ∀ p, S p = none → Q (.ref p) (up S p (.dk kvs))
theorem pairs_ofD {K : Kx} {H : Hp} {S : Sto} : ∀ {kvs : List (Key × D)} {vs : List V}, RDs K H S vs (kvs.map fun q => .tup [.at (kV q.1), q.2]) → ∃ (ks : List (Key × V)) (ps : List Addr), vs = ps.map V.ref ∧ Paired (fun p kv => SqT K.k H p [kV kv.1, kv.2]) ps ks ∧ ks.map (·.1) = kvs.map (·.1) ∧ RDs K H S (ks.map (·.2)) (kvs.map (·.2))
  | [], vs, r => ⟨[], [], r.inv_nil, .nil, rfl, .nil⟩
  | kv :: kvs, vs, r => by
    obtain ⟨v, ws, rfl, r1, r2⟩ := r.inv_cons
    obtain ⟨ks, ps, rfl, pp, e, rr⟩ := pairs_ofD r2
    obtain ⟨a, us, rfl, t, ru⟩ := r1.tup_
    obtain ⟨k0, us, rfl, rk, ru⟩ := ru.inv_cons
    obtain ⟨w0, us, rfl, rw', ru⟩ := ru.inv_cons
    have := ru.inv_nil
    subst this
    have := rk.at_
    subst this
    exact ⟨(kv.1, w0) :: ks, a :: ps, rfl, .cons (.of t) pp, by rw [List.map_cons, List.map_cons, e], .cons rw' rr⟩
theorem cd_dictQ {X : Cx} (hc : X.calm = true) : CallR X (.type "dict") (lL X.K dctQ) := by
  intro pins s σ H vs us Q I r hh
  obtain ⟨N, ds, S, Q', rd, rs, ⟨x, kvs, rfl, hx, hn, q⟩, kk⟩ := hh
  obtain ⟨v, rfl, rx⟩ := rd.one'
  obtain ⟨a, ws, rfl, sq, rw'⟩ := ls_sq rs rx hx
  obtain ⟨ks, ps, rfl, pp, e, rr⟩ := pairs_ofD rw'
  refine call_dictP hc pins s σ H _ us Q I r ⟨a, ps, ks, rfl, sq, pp, fun p np => ?_⟩
  rw [merge_app _ [] (by rw [List.nil_append, e]; exact hn), List.nil_append]
  obtain ⟨b1, b2⟩ := rs.new (o := .dK ks) (m := .dk kvs) np fun le => ⟨_, upd_same, e, rr.le le⟩
  exact kk _ _ _ _ ⟨b2, b1⟩ (.of _) (q p (rs.free np))
end DL

/-! k02, plain: what a program is. -/
namespace K05
open PySem L2 PyProof.Rows DL
def isI : D → Bool
  | .at (.int _) => true
  | _ => false
def isB : D → Bool
  | .at (.bl _) => true
  | _ => false
def isS : D → Bool
  | .at (.str _) => true
  | _ => false
def isTp : D → Bool
  | .tup _ => true
  | _ => false
def Vk (S : Sto) (d : D) : Prop := vok S true true 1000 d
theorem vk_ty {S : Sto} {d : D} (h : Vk S d) : ∃ t, tyN S d = some t ∧ kis t "tuple" = isTp d ∧ kis t "str" = isS d ∧ kis t "int" = (isI d || isB d) ∧ kis t "bool" = isB d := by
  unfold Vk at h
  cases d with
  | tup l => exact ⟨"tuple", rfl, rfl, rfl, rfl, rfl⟩
  | wt l => unfold vok at h; exact h.elim
  | fl l => exact ⟨"list", rfl, rfl, rfl, rfl, rfl⟩
  | «at» v =>
    cases v with
    | non => exact ⟨"NoneType", rfl, rfl, rfl, rfl, rfl⟩
    | bl b => exact ⟨"bool", rfl, rfl, rfl, rfl, rfl⟩
    | int i => exact ⟨"int", rfl, rfl, rfl, rfl, rfl⟩
    | str z => exact ⟨"str", rfl, rfl, rfl, rfl, rfl⟩
    | byt _ => unfold vok at h; exact h.elim
    | flt _ => unfold vok at h; exact h.elim
    | ty _ => unfold vok at h; exact h.elim
    | ref a =>
      unfold vok at h
      refine ⟨"dict", ?_, rfl, rfl, rfl, rfl⟩
      unfold tyN
      rcases h.2 with e | e <;> (dsimp only; rw [e])
theorem vk_tup {S : Sto} {ds : List D} (h : Vk S (.tup ds)) : ds.length ≤ 1000 ∧ ∀ d ∈ ds, Vk S d := by
  unfold Vk vok at h
  exact ⟨h.1, voks_iff.mp h.2⟩
theorem vk_str {S : Sto} {z : Str} (h : Vk S (.str z)) : PyData.strOk z = true ∧ z.length ≤ 64 := by
  unfold Vk vok at h
  exact h
theorem tp_of {d : D} (e : isTp d = true) : ∃ ds, d = .tup ds := by
  unfold isTp at e
  split at e
  · exact ⟨_, rfl⟩
  · cases e
theorem s_of {d : D} (e : isS d = true) : ∃ z, d = .str z := by
  unfold isS at e
  split at e
  · exact ⟨_, rfl⟩
  · cases e
theorem i_of {d : D} (e : isI d = true) : ∃ z, d = .int z := by
  unfold isI at e
  split at e
  · exact ⟨_, rfl⟩
  · cases e
theorem ib {d : D} (h : isI d = true) : isB d = false := by
  obtain ⟨i, rfl⟩ := i_of h
  rfl
/-! ### names -/
def low : List Nat := ("abcdefghijklmnopqrstuvwxyz" : Str).cps.toList
def dig : List Nat := ("0123456789" : Str).cps.toList
def sgn (c : Nat) : Bool := decide (c ∈ low) || decide (c ∈ dig)
def firstLow : List Nat → Bool
  | [] => false
  | c :: _ => decide (c ∈ low)
def nmS (z : Str) : Bool := decide (1 ≤ z.length) && decide (z.length ≤ 8) && firstLow z.cps.toList && z.cps.toList.all sgn
def isName : D → Bool
  | .at (.str z) => nmS z
  | _ => false
theorem low_dig : ("abcdefghijklmnopqrstuvwxyz0123456789" : Str).cps.toList = low ++ dig := by decide +kernel
theorem sgn_of (c : Nat) : decide (c ∈ ("abcdefghijklmnopqrstuvwxyz0123456789" : Str).cps.toList) = sgn c := by
  rw [low_dig]
  unfold sgn
  by_cases h1 : c ∈ low <;> by_cases h2 : c ∈ dig <;> simp [h1, h2]
theorem nm_str {d : D} (h : isName d = true) : ∃ z, d = .str z ∧ nmS z = true := by
  unfold isName at h
  split at h
  · exact ⟨_, rfl, h⟩
  · cases h
theorem len_cps (z : Str) : z.length = z.cps.toList.length := by simp [Str.length]
theorem nm_not {d : D} (h : isS d = false) : isName d = false := by
  unfold isName
  split
  · cases h
  · rfl
def areNames : D → Bool
  | .tup xs => xs.all isName
  | _ => false
def strOf : D → Str
  | .at (.str z) => z
  | _ => ""
def dist (xs : List D) : Bool := decide ((xs.map strOf).Nodup)
theorem names_str : ∀ {xs : List D}, xs.all isName = true → xs = (xs.map strOf).map D.str
  | [], _ => rfl
  | x :: xs, h => by
    rw [List.all_cons, Bool.and_eq_true] at h
    obtain ⟨z, rfl, _⟩ := nm_str h.1
    rw [List.map_cons, List.map_cons, ← names_str h.2]
    rfl
def isCnt (m : Int) : D → Bool
  | .at (.int i) => decide (0 ≤ i) && decide (i ≤ m)
  | _ => false
theorem cnt_i {m i : Int} : isCnt m (.int i) = (decide (0 ≤ i) && decide (i ≤ m)) := rfl
/-! ### heads -/
def items : D → List D
  | .tup ys => ys
  | _ => []
def barred : List Str := ["none", "number"]
def kindOk : D → Bool
  | .tup [a, y] => isName a && !decide (strOf a ∈ barred) && areNames y && decide ((items y).length ≤ 4) && dist (items y)
  | _ => false
def headN (n : Nat) : D → Bool
  | .tup (a :: y :: t :: r) => decide (r.length + 3 = n) && isName a && areNames y && dist (items y) && isTp t
  | _ => false
def nmOf : D → Str
  | .tup (a :: _) => strOf a
  | _ => ""
def arOf : D → Nat
  | .tup (_ :: y :: _) => (items y).length
  | _ => 0
def rwOf : D → List D
  | .tup (_ :: _ :: t :: _) => items t
  | _ => []
def named (xs : List D) : List (Str × Nat) := xs.map fun d => (nmOf d, arOf d)
def isMain : List D → Bool
  | .tup (a :: y :: _) :: _ => decide (strOf a = "main") && (items y).isEmpty
  | _ => false
theorem an_tup {y : D} (h : areNames y = true) : ∃ ys, y = .tup ys ∧ ys.all isName = true := by
  unfold areNames at h
  split at h
  · exact ⟨_, rfl, h⟩
  · cases h
theorem kind_shape {d : D} (h : kindOk d = true) : ∃ z ys, d = .tup [.str z, .tup ys] ∧ nmS z = true ∧ z ∉ barred ∧ ys.all isName = true ∧ ys.length ≤ 4 ∧ dist ys = true := by
  unfold kindOk at h
  split at h
  · rename_i a y
    rw [Bool.and_eq_true, Bool.and_eq_true, Bool.and_eq_true, Bool.and_eq_true] at h
    obtain ⟨⟨⟨⟨h1, h2⟩, h3⟩, h4⟩, h5⟩ := h
    obtain ⟨z, rfl, hz⟩ := nm_str h1
    obtain ⟨ys, rfl, hy⟩ := an_tup h3
    have h2 : ¬ z ∈ barred := fun e => by
      have e2 : strOf (.str z) ∈ barred := e
      rw [decide_eq_true e2] at h2
      cases h2
    exact ⟨z, ys, rfl, hz, h2, hy, of_decide_eq_true h4, h5⟩
  · cases h
theorem head_shape {n : Nat} {d : D} (h : headN n d = true) : ∃ z ys ts r, d = .tup (.str z :: .tup ys :: .tup ts :: r) ∧ r.length + 3 = n ∧ nmS z = true ∧ ys.all isName = true ∧ dist ys = true := by
  unfold headN at h
  split at h
  · rename_i a y t r
    rw [Bool.and_eq_true, Bool.and_eq_true, Bool.and_eq_true, Bool.and_eq_true] at h
    obtain ⟨⟨⟨⟨h1, h2⟩, h3⟩, h4⟩, h5⟩ := h
    obtain ⟨z, rfl, hz⟩ := nm_str h2
    obtain ⟨ys, rfl, hy⟩ := an_tup h3
    obtain ⟨ts, rfl⟩ := tp_of h5
    exact ⟨z, ys, ts, r, rfl, of_decide_eq_true h1, hz, hy, h4⟩
  · cases h
/-! ### rows -/
def SH : List (Str × Str) := [("copy", "xy"), ("none", "x"), ("number", "xn"), ("plus", "xyy"), ("minus", "xyy"), ("times", "xyy"), ("make", "xkY"), ("read", "xyf"), ("input", "o"), ("tell", "y"), ("call", "opY"), ("return", "y"), ("jump", "r"), ("less", "yyr"), ("same", "yyr"), ("is", "ywr"), ("use", "xtY")]
structure Sz where
  kn : List (Str × Nat)
  tm : List (Str × Nat)
  pr : List (Str × Nat)
def has (l : List (Str × Nat)) (z : Str) : Bool := decide (z ∈ l.map (·.1))
def ar (l : List (Str × Nat)) (z : Str) : Option Nat := (l.find? fun q => decide (q.1 = z)).map (·.2)
def part (s : Sz) (m : Int) (sg : Str) (d : D) : Bool :=
  if sg = "o" then decide (d = .non) || isName d
  else if sg = "Y" then areNames d
  else if sg = "n" then isCnt 1000002 d
  else if sg = "r" then isCnt m d
  else isName d && (if sg = "w" then decide (strOf d ∈ barred) || has s.kn (strOf d) else if sg = "k" then has s.kn (strOf d) else if sg = "t" then has s.tm (strOf d) else if sg = "p" then has s.pr (strOf d) else true)
def parts (s : Sz) (m : Int) : List Str → List D → Bool
  | [], [] => true
  | g :: gs, d :: ds => part s m g d && parts s m gs ds
  | _, _ => false
def tabOf (s : Sz) (sg : Str) : List (Str × Nat) := if sg = "k" then s.kn else if sg = "t" then s.tm else if sg = "p" then s.pr else []
def lenOf (d : D) : Nat := (items d).length
def sgs (z : Str) : List Str := z.cps.toList.map fun c => ⟨#[c]⟩
def fits (s : Sz) (gs : List Str) (ds : List D) : Bool := match gs, ds with
  | [_, k, y], [_, n, ys] => !decide (y = "Y") || decide (ar (tabOf s k) (strOf n) = some (lenOf ys))
  | _, _ => true
def rowOk (s : Sz) (m : Int) : D → Bool
  | .tup (.at (.str w) :: ds) => match lookS SH w with
    | none => false
    | some z => parts s m (sgs z) ds && fits s (sgs z) ds
  | _ => false
def rowsOk (s : Sz) (rs : List D) : Bool := rs.all (rowOk s rs.length)
def szOf (ks ts ps : List D) : Sz := ⟨named ks, named ts, named (ps.drop 1)⟩
def kindsOk (ks : List D) : Bool := decide (ks.length ≤ 8) && ks.all kindOk && decide ((ks.map nmOf).Nodup)
def heads (n m : Nat) (ps : List D) : Bool := decide (ps.length ≤ m) && ps.all (headN n) && decide ((ps.map nmOf).Nodup)
def procsOk (ps : List D) : Bool := heads 3 6 ps && isMain ps
def tupB (f : List D → Bool) : D → Bool
  | .tup xs => f xs
  | _ => false
theorem tupB_no {f : List D → Bool} {d : D} (h : isTp d = false) : tupB f d = false := by
  unfold tupB
  split
  · cases h
  · rfl
def sumOf (ps : List D) : Nat := (ps.map fun p => (rwOf p).length).sum
def isProg : D → Bool
  | .tup [a, b] => tupB kindsOk a && tupB procsOk b && ((items b).all fun p => rowsOk (szOf (items a) [] (items b)) (rwOf p)) && decide (sumOf (items b) ≤ 120)
  | _ => false
theorem prog_no {d : D} (h : isTp d = false) : isProg d = false := by
  unfold isProg
  split
  · cases h
  · rfl
theorem prog_len {xs : List D} (h : xs.length ≠ 2) : isProg (.tup xs) = false := by
  match xs, h with
  | [], _ => rfl
  | [_], _ => rfl
  | [_, _], h => exact absurd rfl h
  | _ :: _ :: _ :: _, _ => rfl
theorem tupB_yes {f : List D → Bool} {d : D} (h : tupB f d = true) : ∃ xs, d = .tup xs ∧ f xs = true := by
  unfold tupB at h
  split at h
  · exact ⟨_, rfl, h⟩
  · cases h
theorem sum_cast : ∀ ns : List Nat, (ns.map fun n => ((n : Nat) : Int)).sum = ((ns.sum : Nat) : Int)
  | [] => rfl
  | n :: ns => by rw [List.map_cons, List.sum_cons, List.sum_cons, sum_cast ns]; simp
theorem vok_sub {S S' : Sto} (h : Sub S S') {ls dd : Bool} {n : Nat} : ∀ {d : D}, vok S ls dd n d → vok S' ls dd n d ∧ pyOf S' d = pyOf S d := by
  intro d
  induction d using D.rec (motive_2 := fun xs => voks S ls dd n xs → voks S' ls dd n xs ∧ pyOfs S' xs = pyOfs S xs) with
  | «at» v =>
    intro k
    cases v with
    | ref a =>
      unfold vok at k ⊢
      unfold pyOf
      rcases k.2 with e | e
      · rw [h a _ e, e]; exact ⟨⟨k.1, .inl rfl⟩, rfl⟩
      · rw [h a _ e, e]; exact ⟨⟨k.1, .inr rfl⟩, rfl⟩
    | non => exact ⟨k, rfl⟩
    | bl b => exact ⟨k, rfl⟩
    | int i => exact ⟨k, rfl⟩
    | str z => exact ⟨k, rfl⟩
    | byt _ => unfold vok at k; exact k.elim
    | flt _ => unfold vok at k; exact k.elim
    | ty _ => unfold vok at k; exact k.elim
  | tup l ih =>
    intro k
    unfold vok at k ⊢
    unfold pyOf
    obtain ⟨a, b⟩ := ih k.2
    exact ⟨⟨k.1, a⟩, by rw [b]⟩
  | fl l ih =>
    intro k
    unfold vok at k ⊢
    unfold pyOf
    obtain ⟨a, b⟩ := ih k.2
    exact ⟨⟨k.1, a⟩, by rw [b]⟩
  | wt l ih => intro k; unfold vok at k; exact k.elim
  | nil => exact ⟨by unfold voks; trivial, by unfold pyOfs; rfl⟩
  | cons d ds ih ihs =>
    rename_i k
    unfold voks at k ⊢
    unfold pyOfs
    obtain ⟨a, b⟩ := ih k.1
    obtain ⟨c, e⟩ := ihs k.2
    exact ⟨⟨a, c⟩, by rw [b, e]⟩
theorem vk_sub {S S' : Sto} {d : D} (h : Sub S S') (k : Vk S d) : Vk S' d := (vok_sub h k).1
/-! ### words -/
theorem lc_mp {ds : List D} {S : Sto} {Q : List D → Sto → Prop} {B : (Nat → List D → Sto → Prop) → Nat → List D → D → Sto → Prop} (f : D → D) (hl : ds.length ≤ 1000)
    (hs : ∀ (W : Nat → List D → Sto → Prop) (i : Nat) (x : D) (acc : List D), ds[i]? = some x → W (i + 1) (acc ++ [f x]) S → B W i acc x S) (hd : Q (ds.map f) S) :
    ∃ (W : Nat → List D → Sto → Prop) (n : Nat), W 0 [] S ∧ ∀ i acc S2, W i acc S2 → ∃ r, seqI ds i S2 = some r ∧ (r = none → Q acc S2) ∧ ∀ x, r = some x → i < n ∧ acc.length < sizeLine ∧ B W i acc x S2 :=
  lc_seq (fun i acc S' => S' = S ∧ acc = (ds.take i).map f) ⟨rfl, rfl⟩ (by
    rintro i x acc S' hx ⟨rfl, rfl⟩
    exact ⟨by rw [List.length_map, List.length_take, sizeLine_eq]; omega, hs (fun i acc S2 => S2 = S' ∧ acc = (ds.take i).map f) i x ((ds.take i).map f) hx ⟨rfl, by rw [tk1 hx, List.map_append]; rfl⟩⟩) (by
    rintro i acc S' hi ⟨rfl, rfl⟩
    rw [List.take_of_length_le hi]; exact hd)
theorem lc_fl {ds : List D} {S : Sto} {Q : List D → Sto → Prop} {B : (Nat → List D → Sto → Prop) → Nat → List D → D → Sto → Prop} (p : D → Bool) (hl : ds.length ≤ 1000)
    (hs : ∀ (W : Nat → List D → Sto → Prop) (i : Nat) (x : D) (acc : List D), ds[i]? = some x → (p x = true → W (i + 1) (acc ++ [x]) S) → (p x = false → W (i + 1) acc S) → B W i acc x S) (hd : Q (ds.filter p) S) :
    ∃ (W : Nat → List D → Sto → Prop) (n : Nat), W 0 [] S ∧ ∀ i acc S2, W i acc S2 → ∃ r, seqI ds i S2 = some r ∧ (r = none → Q acc S2) ∧ ∀ x, r = some x → i < n ∧ acc.length < sizeLine ∧ B W i acc x S2 :=
  lc_seq (fun i acc S' => S' = S ∧ acc = (ds.take i).filter p) ⟨rfl, rfl⟩ (by
    rintro i x acc S' hx ⟨rfl, rfl⟩
    refine ⟨by have := List.length_filter_le p (ds.take i); rw [List.length_take] at this; rw [sizeLine_eq]; omega, hs (fun i acc S2 => S2 = S' ∧ acc = (ds.take i).filter p) i x ((ds.take i).filter p) hx (fun h => ⟨rfl, ?_⟩) fun h => ⟨rfl, ?_⟩⟩
    · rw [tk1 hx, List.filter_append, List.filter_cons, if_pos h]; rfl
    · rw [tk1 hx, List.filter_append, List.filter_cons, if_neg (by rw [h]; exact Bool.false_ne_true)]; simp) (by
    rintro i acc S' hi ⟨rfl, rfl⟩
    rw [List.take_of_length_le hi]; exact hd)
theorem all_f {ds : List D} {f : D → Bool} {S : Sto} {Q : KD} (q : Q (.bl (ds.all f)) S) : allD [.fl (ds.map fun d => .bl (f d))] S Q := by
  refine ⟨_, ds.map f, rfl, by unfold lsOf; rw [List.map_map]; rfl, ?_⟩
  rw [List.all_map]
  exact q
theorem an_no {y : D} (h : isTp y = false) : areNames y = false := by
  unfold areNames
  split
  · cases h
  · rfl
theorem kind_no {d : D} (h : isTp d = false) : kindOk d = false := by
  unfold kindOk
  split
  · cases h
  · rfl
theorem head_no {n : Nat} {d : D} (h : isTp d = false) : headN n d = false := by
  unfold headN
  split
  · cases h
  · rfl
theorem kind_len {xs : List D} (h : xs.length ≠ 2) : kindOk (.tup xs) = false := by
  match xs, h with
  | [], _ => rfl
  | [_], _ => rfl
  | [_, _], h => exact absurd rfl h
  | _ :: _ :: _ :: _, _ => rfl
theorem head_len {n : Nat} {xs : List D} (h : xs.length ≠ n) (h3 : 3 ≤ n) : headN n (.tup xs) = false := by
  match xs, h with
  | [], _ => rfl
  | [_], _ => rfl
  | [_, _], _ => rfl
  | a :: y :: t :: r, h =>
    have : decide (r.length + 3 = n) = false := decide_eq_false fun e => h (by simp only [List.length_cons]; omega)
    unfold headN
    dsimp only
    rw [this]
    rfl
/-- a table's entries made one by one -/
def tabD (l : List (Str × Nat)) : MO := .dk (l.map fun q => (.inr q.1, .int (q.2 : Nat)))
theorem put_new {κ : Type} [DecidableEq κ] {kvs : List (κ × D)} {k : κ} {v : D} (h : k ∉ kvs.map (·.1)) : putD kvs k v = kvs ++ [(k, v)] := by
  unfold putD
  rw [if_neg]
  intro hh
  obtain ⟨x, hx, hy⟩ := List.any_eq_true.mp hh
  exact h (of_decide_eq_true hy ▸ List.mem_map_of_mem hx)
theorem dc_tab {ds : List D} {S : Sto} {A : Addr} {Nx : Sto → Prop} {B : (Nat → Sto → Prop) → Nat → D → Sto → Prop} (hl : ds.length ≤ 1000) (hn : (ds.map nmOf).Nodup)
    (hs : ∀ (W : Nat → Sto → Prop) (i : Nat) (x : D) (S2 : Sto) (kvs : List (Key × D)), x ∈ ds → S2 A = some (.dk kvs) → kvs.length < sizeLine → W (i + 1) (up S2 A (.dk (putD kvs (.inr (nmOf x)) (.int (arOf x : Nat))))) → B W i x S2) (hd : Nx (up S A (tabD (named ds)))) :
    ∃ (W : Nat → Sto → Prop) (n : Nat), W 0 (up S A (.dk [])) ∧ ∀ i S2, W i S2 → ∃ r, seqI ds i S2 = some r ∧ (r = none → Nx S2) ∧ ∀ x, r = some x → i < n ∧ B W i x S2 :=
  dc_seq (fun i S' => S' = up S A (tabD (named (ds.take i)))) rfl (by
    rintro i x S' hx rfl
    refine hs (fun i S2 => S2 = up S A (tabD (named (ds.take i)))) i x _ _ (List.mem_of_getElem? hx) up_same ?_ ?_
    · unfold named
      rw [List.length_map, List.length_map, List.length_take, sizeLine_eq]
      omega
    · rw [up_up, put_new, tk1 hx]
      · unfold named tabD
        rw [List.map_append, List.map_append]
        rfl
      · unfold named
        rw [List.map_map, List.map_map]
        intro hm
        obtain ⟨y, hy, e⟩ := List.mem_map.mp hm
        have e : nmOf y = nmOf x := Sum.inr.inj e
        obtain ⟨hi, ex⟩ := List.getElem?_eq_some_iff.mp hx
        have e2 : ds.map nmOf = (ds.take i).map nmOf ++ (ds.drop i).map nmOf := by rw [← List.map_append, List.take_append_drop]
        rw [e2] at hn
        have e3 : ds.drop i = x :: ds.drop (i + 1) := by rw [List.drop_eq_getElem_cons hi, ex]
        rw [e3] at hn
        exact (List.nodup_append.mp hn).2.2 (nmOf y) (List.mem_map_of_mem hy) (nmOf x) (by simp) e) (by
    rintro i S' hi rfl
    rw [List.take_of_length_le hi]
    exact hd)
theorem in_barred {z : Str} {S : Sto} {Q : KD} (h1 : PyData.strOk z = true) (q : Q (.bl (decide (z ∈ barred))) S) : inD false (.str z) (.wt [.str "none", .str "number"]) S Q :=
  in_of (k := 1) (w := z.length) (k' := 1) (w' := 6) (ys := barred.map D.str) (Sm.str h1 (Nat.le_refl _)) rfl (fun d hd => by
    obtain ⟨x, hx, rfl⟩ := List.mem_map.mp hd
    exact Sm.str (by revert x; decide +kernel) (by revert x; decide +kernel)) (by decide) (by decide) (fun _ e => nomatch e) (by rw [any_str, Bool.false_xor]; exact q)
theorem ml {n : Nat} (h : n ≤ 1000) : n < 16777216 := by omega
theorem len_s {z : Str} {S : Sto} {Q : KD} (h : z.length ≤ 64) (q : Q (.int z.length) S) : lenD [.str z] S Q := ⟨_, rfl, Nat.le_trans h (by decide), q⟩
theorem filt_nil {ds : List D} {p : D → Bool} : (ds.filter fun d => !p d).isEmpty = ds.all p := by
  induction ds with
  | nil => rfl
  | cons d ds ih =>
    rw [List.filter_cons, List.all_cons]
    cases h : p d with
    | true => rw [if_neg (by simp), ih, Bool.true_and]
    | false => rw [if_pos (by simp), Bool.false_and]; rfl
theorem dd : ∀ xs : List Str, ∃ l : List Str, l.Nodup ∧ (∀ z, z ∈ l ↔ z ∈ xs) ∧ (¬ xs.Nodup → l.length < xs.length) ∧ (xs.Nodup → l.length = xs.length) ∧ l.length ≤ xs.length
  | [] => ⟨[], .nil, fun z => Iff.rfl, fun h => absurd .nil h, fun _ => rfl, Nat.le_refl _⟩
  | x :: xs => by
    obtain ⟨l, h1, h2, h3, h4, h5⟩ := dd xs
    by_cases hx : x ∈ xs
    · refine ⟨l, h1, fun z => ?_, fun _ => by rw [List.length_cons]; omega, fun h => absurd hx (List.nodup_cons.mp h).1, by rw [List.length_cons]; omega⟩
      rw [h2 z, List.mem_cons]
      exact ⟨.inr, fun h => h.elim (fun e => e ▸ hx) id⟩
    · refine ⟨x :: l, List.nodup_cons.mpr ⟨fun h => hx ((h2 x).mp h), h1⟩, fun z => by rw [List.mem_cons, List.mem_cons, h2 z], fun h => ?_, fun h => ?_, by rw [List.length_cons, List.length_cons]; omega⟩
      · have := h3 fun n => h (List.nodup_cons.mpr ⟨hx, n⟩)
        rw [List.length_cons, List.length_cons]; omega
      · have := h4 (List.nodup_cons.mp h).2
        rw [List.length_cons, List.length_cons]; omega
theorem nodup_len {xs : List Str} {n : Nat} (h : Many (xs.map Sum.inr) n) : decide (n = xs.length) = decide xs.Nodup := by
  obtain ⟨l, h1, h2, h3, h4, _⟩ := dd xs
  have hm : Many (xs.map Sum.inr) l.length := ⟨l.map Sum.inr, List.Pairwise.map _ (fun a b ne e => ne (Sum.inr.inj e)) h1, fun k => by
    rw [List.mem_map, List.mem_map]
    exact ⟨fun ⟨z, hz, e⟩ => ⟨z, (h2 z).mp hz, e⟩, fun ⟨z, hz, e⟩ => ⟨z, (h2 z).mpr hz, e⟩⟩, List.length_map _⟩
  have e := h.one hm
  by_cases hn : xs.Nodup
  · rw [decide_eq_true hn, decide_eq_true (by rw [e]; exact h4 hn)]
  · have := h3 hn
    rw [decide_eq_false hn, decide_eq_false (by omega)]
end K05


namespace K05
open PySem L2 PyProof.Rows DL
def top (i : Nat) : Stmt := PySem.Challenge.pw_reinways_k05_sources_of_any_values.main.body.getD i (.Pass ⟨0, 0, 0, 0⟩)
abbrev s_is_integer : Stmt := top 5
abbrev s_is_number : Stmt := top 6
abbrev s_is_name : Stmt := top 7
abbrev s_are_names : Stmt := top 8
abbrev s_are_distinct : Stmt := top 9
abbrev s_is_kind : Stmt := top 17
abbrev s_are_kinds : Stmt := top 18
abbrev s_has_head : Stmt := top 19
abbrev s_have_heads : Stmt := top 20
abbrev s_are_procedures : Stmt := top 21
abbrev s_sizes_of : Stmt := top 22
abbrev s_is_part : Stmt := top 23
abbrev s_is_row : Stmt := top 24
abbrev s_are_rows : Stmt := top 25
abbrev s_used_by : Stmt := top 26
abbrev s_is_template : Stmt := top 27
abbrev s_is_source : Stmt := top 28
abbrev s__law_spring : Stmt := top 30
abbrev s__law_draw : Stmt := top 31
abbrev s__law_one_of : Stmt := top 32
abbrev s__law_names : Stmt := top 33
abbrev s__law_row : Stmt := top 34
abbrev s__law_rows : Stmt := top 35
abbrev s__law_source : Stmt := top 36
abbrev s__law_value : Stmt := top 37
abbrev s__law_bent : Stmt := top 38
abbrev s__law_longer : Stmt := top 39
abbrev s__law_odd_rows : Stmt := top 40
abbrev s__law_by_hand : Stmt := top 41
abbrev s__law_is_name : Stmt := top 42
abbrev s__law_are_names : Stmt := top 43
abbrev s__law_is_count : Stmt := top 44
abbrev s__law_fits : Stmt := top 45
abbrev s__law_is_row : Stmt := top 46
abbrev s__law_are_heads : Stmt := top 47
abbrev s__law_is_in_ring : Stmt := top 48
abbrev s__law_are_rows : Stmt := top 49
abbrev s__law_is_source : Stmt := top 50
abbrev s__law_right : Stmt := top 51
abbrev s_law : Stmt := top 52
theorem sc_is_integer : FnScope ["thing"] ["thing"] (defScope s_is_integer) := ⟨rfl, rfl, rfl, by decide +kernel, rfl, by decide +kernel, by decide +kernel⟩
theorem sc_is_number : FnScope ["thing"] ["thing"] (defScope s_is_number) := ⟨rfl, rfl, rfl, by decide +kernel, rfl, by decide +kernel, by decide +kernel⟩
theorem sc_is_name : FnScope ["thing", "sign"] ["thing"] (defScope s_is_name) := ⟨rfl, rfl, rfl, by decide +kernel, rfl, by decide +kernel, by decide +kernel⟩
theorem sc_are_names : FnScope ["thing", "name"] ["thing"] (defScope s_are_names) := ⟨rfl, rfl, rfl, by decide +kernel, rfl, by decide +kernel, by decide +kernel⟩
theorem sc_are_distinct : FnScope ["things"] ["things"] (defScope s_are_distinct) := ⟨rfl, rfl, rfl, by decide +kernel, rfl, by decide +kernel, by decide +kernel⟩
theorem sc_is_kind : FnScope ["thing"] ["thing"] (defScope s_is_kind) := ⟨rfl, rfl, rfl, by decide +kernel, rfl, by decide +kernel, by decide +kernel⟩
theorem sc_are_kinds : FnScope ["thing", "kind"] ["thing"] (defScope s_are_kinds) := ⟨rfl, rfl, rfl, by decide +kernel, rfl, by decide +kernel, by decide +kernel⟩
theorem sc_has_head : FnScope ["thing", "size"] ["thing", "size"] (defScope s_has_head) := ⟨rfl, rfl, rfl, by decide +kernel, rfl, by decide +kernel, by decide +kernel⟩
theorem sc_have_heads : FnScope ["thing", "size", "most", "one"] ["thing", "size", "most"] (defScope s_have_heads) := ⟨rfl, rfl, rfl, by decide +kernel, rfl, by decide +kernel, by decide +kernel⟩
theorem sc_are_procedures : FnScope ["thing"] ["thing"] (defScope s_are_procedures) := ⟨rfl, rfl, rfl, by decide +kernel, rfl, by decide +kernel, by decide +kernel⟩
theorem sc_sizes_of : FnScope ["kinds", "templates", "procedures", "name", "fields", "template", "procedure"] ["kinds", "templates", "procedures"] (defScope s_sizes_of) := ⟨rfl, rfl, rfl, by decide +kernel, rfl, by decide +kernel, by decide +kernel⟩
theorem sc_is_part : FnScope ["sign", "thing", "sizes", "many"] ["sign", "thing", "sizes", "many"] (defScope s_is_part) := ⟨rfl, rfl, rfl, by decide +kernel, rfl, by decide +kernel, by decide +kernel⟩
theorem sc_is_row : FnScope ["thing", "sizes", "many", "signs", "sign", "part"] ["thing", "sizes", "many"] (defScope s_is_row) := ⟨rfl, rfl, rfl, by decide +kernel, rfl, by decide +kernel, by decide +kernel⟩
theorem sc_are_rows : FnScope ["rows", "sizes", "row"] ["rows", "sizes"] (defScope s_are_rows) := ⟨rfl, rfl, rfl, by decide +kernel, rfl, by decide +kernel, by decide +kernel⟩
theorem sc_used_by : FnScope ["templates", "name", "rows", "template", "found", "waiting", "row"] ["templates", "name"] (defScope s_used_by) := ⟨rfl, rfl, rfl, by decide +kernel, rfl, by decide +kernel, by decide +kernel⟩
theorem sc_is_template : FnScope ["thing", "sizes", "row"] ["thing", "sizes"] (defScope s_is_template) := ⟨rfl, rfl, rfl, by decide +kernel, rfl, by decide +kernel, by decide +kernel⟩
theorem sc_is_source : FnScope ["thing", "sizes", "template", "procedure"] ["thing"] (defScope s_is_source) := ⟨rfl, rfl, rfl, by decide +kernel, rfl, by decide +kernel, by decide +kernel⟩
theorem sc__law_spring : FnScope ["script", "cells", "mixed", "cell"] ["script"] (defScope s__law_spring) := ⟨rfl, rfl, rfl, by decide +kernel, rfl, by decide +kernel, by decide +kernel⟩
theorem sc__law_draw : FnScope ["spring", "many", "number", "cell"] ["spring", "many"] (defScope s__law_draw) := ⟨rfl, rfl, rfl, by decide +kernel, rfl, by decide +kernel, by decide +kernel⟩
theorem sc__law_one_of : FnScope ["spring", "items"] ["spring", "items"] (defScope s__law_one_of) := ⟨rfl, rfl, rfl, by decide +kernel, rfl, by decide +kernel, by decide +kernel⟩
theorem sc__law_names : FnScope ["spring", "many", "some", "first", "step", "k"] ["spring", "many"] (defScope s__law_names) := ⟨rfl, rfl, rfl, by decide +kernel, rfl, by decide +kernel, by decide +kernel⟩
theorem sc__law_row : FnScope ["spring", "known", "variables", "many", "last", "x", "y", "z", "k", "to", "way", "some", "name", "taken", "ys", "one"] ["spring", "known", "variables", "many", "last"] (defScope s__law_row) := ⟨rfl, rfl, rfl, by decide +kernel, rfl, by decide +kernel, by decide +kernel⟩
theorem sc__law_rows : FnScope ["spring", "known", "parameters", "last", "many", "variables", "k"] ["spring", "known", "parameters", "last"] (defScope s__law_rows) := ⟨rfl, rfl, rfl, by decide +kernel, rfl, by decide +kernel, by decide +kernel⟩
theorem sc__law_source : FnScope ["spring", "names", "name", "kinds", "calls", "heads", "templates", "used", "uses", "k", "parameters", "rows", "procedures", "at"] ["spring"] (defScope s__law_source) := ⟨rfl, rfl, rfl, by decide +kernel, rfl, by decide +kernel, by decide +kernel⟩
theorem sc__law_value : FnScope ["spring", "some"] ["spring"] (defScope s__law_value) := ⟨rfl, rfl, rfl, by decide +kernel, rfl, by decide +kernel, by decide +kernel⟩
theorem sc__law_bent : FnScope ["spring", "it", "deep", "at", "way"] ["spring", "it", "deep"] (defScope s__law_bent) := ⟨rfl, rfl, rfl, by decide +kernel, rfl, by decide +kernel, by decide +kernel⟩
theorem sc__law_longer : FnScope ["spring", "source", "kinds", "templates", "procedures", "deep", "k", "some", "x", "rows", "one", "row", "at", "name", "parameters", "own", "result"] ["spring", "source"] (defScope s__law_longer) := ⟨rfl, rfl, rfl, by decide +kernel, rfl, by decide +kernel, by decide +kernel⟩
theorem sc__law_odd_rows : FnScope ["some"] [] (defScope s__law_odd_rows) := ⟨rfl, rfl, rfl, by decide +kernel, rfl, by decide +kernel, by decide +kernel⟩
theorem sc__law_by_hand : FnScope ["kinds", "found", "row", "template", "main", "many", "some", "k", "name", "none"] [] (defScope s__law_by_hand) := ⟨rfl, rfl, rfl, by decide +kernel, rfl, by decide +kernel, by decide +kernel⟩
theorem sc__law_is_name : FnScope ["it", "sign"] ["it"] (defScope s__law_is_name) := ⟨rfl, rfl, rfl, by decide +kernel, rfl, by decide +kernel, by decide +kernel⟩
theorem sc__law_are_names : FnScope ["it", "one"] ["it"] (defScope s__law_are_names) := ⟨rfl, rfl, rfl, by decide +kernel, rfl, by decide +kernel, by decide +kernel⟩
theorem sc__law_is_count : FnScope ["it", "most"] ["it", "most"] (defScope s__law_is_count) := ⟨rfl, rfl, rfl, by decide +kernel, rfl, by decide +kernel, by decide +kernel⟩
theorem sc__law_fits : FnScope ["row", "named"] ["row", "named"] (defScope s__law_fits) := ⟨rfl, rfl, rfl, by decide +kernel, rfl, by decide +kernel, by decide +kernel⟩
theorem sc__law_is_row : FnScope ["row", "known", "many", "word", "names", "part", "to"] ["row", "known", "many"] (defScope s__law_is_row) := ⟨rfl, rfl, rfl, by decide +kernel, rfl, by decide +kernel, by decide +kernel⟩
theorem sc__law_are_heads : FnScope ["it", "size", "most", "one"] ["it", "size", "most"] (defScope s__law_are_heads) := ⟨rfl, rfl, rfl, by decide +kernel, rfl, by decide +kernel, by decide +kernel⟩
theorem sc__law_is_in_ring : FnScope ["templates", "name", "rows", "seen", "left", "one", "row"] ["templates", "name"] (defScope s__law_is_in_ring) := ⟨rfl, rfl, rfl, by decide +kernel, rfl, by decide +kernel, by decide +kernel⟩
theorem sc__law_are_rows : FnScope ["rows", "known", "row"] ["rows", "known"] (defScope s__law_are_rows) := ⟨rfl, rfl, rfl, by decide +kernel, rfl, by decide +kernel, by decide +kernel⟩
theorem sc__law_is_source : FnScope ["it", "known", "some", "one", "row"] ["it"] (defScope s__law_is_source) := ⟨rfl, rfl, rfl, by decide +kernel, rfl, by decide +kernel, by decide +kernel⟩
theorem sc__law_right : FnScope ["it", "kept", "due"] ["it"] (defScope s__law_right) := ⟨rfl, rfl, rfl, by decide +kernel, rfl, by decide +kernel, by decide +kernel⟩
theorem sc_law : FnScope ["script", "spring", "some", "long", "turn", "source", "k", "it"] ["script"] (defScope s_law) := ⟨rfl, rfl, rfl, by decide +kernel, rfl, by decide +kernel, by decide +kernel⟩
theorem kw_is_source_thing : KwOk s_is_source "is_source" ["thing"] ["thing"] 0 [0] := fun _ _ _ _ _ _ us ws h1 h2 => match us, ws, h1, h2 with | [], [_], _, _ => rfl
structure Txt (K : PySem.W.Frag) (w : World) (mg : Str → Option Value) : Prop where
  nb_all : mg "all" = none
  nb_any : mg "any" = none
  nb_bool : mg "bool" = none
  nb_dict : mg "dict" = none
  nb_enumerate : mg "enumerate" = none
  nb_int : mg "int" = none
  nb_isinstance : mg "isinstance" = none
  nb_len : mg "len" = none
  nb_list : mg "list" = none
  nb_range : mg "range" = none
  nb_repr : mg "repr" = none
  nb_set : mg "set" = none
  nb_sorted : mg "sorted" = none
  nb_str : mg "str" = none
  nb_tuple : mg "tuple" = none
  nb_zip : mg "zip" = none
  g_SHAPES : GDx K w mg "SHAPES" [("copy", "xy"), ("none", "x"), ("number", "xn"), ("plus", "xyy"), ("minus", "xyy"), ("times", "xyy"), ("make", "xkY"), ("read", "xyf"), ("input", "o"), ("tell", "y"), ("call", "opY"), ("return", "y"), ("jump", "r"), ("less", "yyr"), ("same", "yyr"), ("is", "ywr"), ("use", "xtY")]
  g_BARRED_KINDS : GT K mg "BARRED_KINDS" [.str "none", .str "number"]
  g_DIGITS : GS mg "DIGITS" "0123456789"
  g_LETTERS : GS mg "LETTERS" "abcdefghijklmnopqrstuvwxyz"
  g_LONGEST_NAME : GI mg "LONGEST_NAME" 8
  g_MODULUS : GI mg "MODULUS" 1000003
  g_MOST_FIELDS : GI mg "MOST_FIELDS" 4
  g_MOST_KINDS : GI mg "MOST_KINDS" 8
  g_MOST_PROCEDURES : GI mg "MOST_PROCEDURES" 6
  g_MOST_TEMPLATES : GI mg "MOST_TEMPLATES" 6
/-! ### small defs -/
def sp_is_integer : SpD := fun ds S Q _ => ∃ d, ds = [d] ∧ Vk S d ∧ Q (.bl (isI d)) S
theorem ok_is_integer {P : Program} {w : World} {K : PySem.W.Frag} {mg : Str → Option Value} {base : Heap} (T : Txt K w mg)  {ff : Addr} {fd : FuncData} (F : Fun K "is_integer" "is_integer" s_is_integer ff fd) (mf : mg "is_integer" = some (.ref ff)) : Cal P w K mg base 1 "is_integer" s_is_integer ["thing"] sp_is_integer := by
  refine ⟨ff, fd, okD F sc_is_integer (fun ds S Q E h => ?len) (fun cdv A outer s H E ds S Q E' hcd hr h => ⟨_, (dss_one (ds_ret (de_and (de_isi (tn := "int") (by rfl) T.nb_isinstance (by rfl) T.nb_int (de_var 0)) (de_one (de_not (de_isi (tn := "bool") (by rfl) T.nb_isinstance (by rfl) T.nb_bool (de_var 0))))))), ?run⟩), F.binds (ps := ["thing"]) fun _ _ _ _ _ _ us hl => match us, hl with | [_], _ => rfl, mf, F⟩
  case len => obtain ⟨d, rfl, _⟩ := h; rfl
  case run =>
    obtain ⟨d, rfl, hd, q⟩ := h
    simp only [dVar, dC, dOp, dUn, dChain, dTr, dB, dAnd, dOr, dNot, dIf, dAndV, dOrV, dNotV, dNil, dCons, dTup, dLst, dLf, dNext, dSeq, dBreak, dCont, dDrop, dRet, dRetN, dIfS, gdName, gdNil, gdCons, gdTup, gdSub, dAsg, dPar, dCall, dCallK, dCB, dM0, dM, dGet1, dGet2, dDk, dDt, dPart, dNoPart, dSlice, dAug, dYes, dSort2, revD, iTupD, iLstD, iLf, iLw, iRange1, iRange2, iRange3, iEnumD, iZipD, iZipMD, iStrD, dGix, dDc, dIsi, dSortSet, dLenSet, dDlit, gdLst, dFor, dWhile, dLc, dLcM, dFld, dFldSet, dFldAdd, dMeth, dMake, dPar3, dDisp, dPrs, dFsi, dGget, dKgt, dKgtL, dCut, dTcut, wipeD, bodyE, startD, List.map_cons, List.map_nil, List.length_cons, List.length_nil, List.replicate_succ, List.replicate_zero, List.cons_append, List.nil_append, Nat.reduceAdd, Nat.reduceSub, Nat.zero_add, List.getElem?_cons_zero, List.getElem?_cons_succ, List.set_cons_zero, List.set_cons_succ, Option.some.injEq, exists_eq_left', exists_eq_left, if_true, sizeLine_eq, Nat.reduceLeDiff, Nat.reduceLT, Nat.zero_le, true_and, and_true, Bool.false_eq_true, if_false]
    obtain ⟨t, h1, h2, h5, h3, h4⟩ := vk_ty hd
    refine ⟨t, h1, _, rfl, ?_⟩
    rw [h3]
    by_cases c : (isI d || isB d) = true
    · refine brT c ⟨t, h1, _, rfl, ?_⟩
      have e : (!isB d) = isI d := by
        cases hI : isI d with
        | true => rw [ib hI]; rfl
        | false => rw [hI, Bool.false_or] at c; rw [c]; rfl
      rw [h4, e]
      exact rt_of q
    · have c' : isI d = false ∧ isB d = false := by simpa using c
      rw [c'.1] at q
      exact brF (by rw [c'.1, c'.2]; rfl) (rt_of q)
def sp_is_number : SpD := fun ds S Q _ => ∃ d, ds = [d] ∧ Vk S d ∧ Q (.bl (isCnt 1000002 d)) S
theorem ok_is_number {P : Program} {w : World} {K : PySem.W.Frag} {mg : Str → Option Value} {base : Heap} (T : Txt K w mg) (C_is_integer : Cal P w K mg base 1 "is_integer" s_is_integer ["thing"] sp_is_integer) {ff : Addr} {fd : FuncData} (F : Fun K "is_number" "is_number" s_is_number ff fd) (mf : mg "is_number" = some (.ref ff)) : Cal P w K mg base 2 "is_number" s_is_number ["thing"] sp_is_number := by
  refine ⟨ff, fd, okD F sc_is_number (fun ds S Q E h => ?len) (fun cdv A outer s H E ds S Q E' hcd hr h => ⟨_, (dss_one (ds_ret (de_and (de_c C_is_integer hr (da_cons (de_var 0) da_nil)) (de_one (de_chain od_le od_lt de_int (de_var 0) (de_gi T.g_MODULUS)))))), ?run⟩), F.binds (ps := ["thing"]) fun _ _ _ _ _ _ us hl => match us, hl with | [_], _ => rfl, mf, F⟩
  case len => obtain ⟨d, rfl, _⟩ := h; rfl
  case run =>
    obtain ⟨d, rfl, hd, q⟩ := h
    simp only [dVar, dC, dOp, dUn, dChain, dTr, dB, dAnd, dOr, dNot, dIf, dAndV, dOrV, dNotV, dNil, dCons, dTup, dLst, dLf, dNext, dSeq, dBreak, dCont, dDrop, dRet, dRetN, dIfS, gdName, gdNil, gdCons, gdTup, gdSub, dAsg, dPar, dCall, dCallK, dCB, dM0, dM, dGet1, dGet2, dDk, dDt, dPart, dNoPart, dSlice, dAug, dYes, dSort2, revD, iTupD, iLstD, iLf, iLw, iRange1, iRange2, iRange3, iEnumD, iZipD, iZipMD, iStrD, dGix, dDc, dIsi, dSortSet, dLenSet, dDlit, gdLst, dFor, dWhile, dLc, dLcM, dFld, dFldSet, dFldAdd, dMeth, dMake, dPar3, dDisp, dPrs, dFsi, dGget, dKgt, dKgtL, dCut, dTcut, wipeD, bodyE, startD, List.map_cons, List.map_nil, List.length_cons, List.length_nil, List.replicate_succ, List.replicate_zero, List.cons_append, List.nil_append, Nat.reduceAdd, Nat.reduceSub, Nat.zero_add, List.getElem?_cons_zero, List.getElem?_cons_succ, List.set_cons_zero, List.set_cons_succ, Option.some.injEq, exists_eq_left', exists_eq_left, if_true, sizeLine_eq, Nat.reduceLeDiff, Nat.reduceLT, Nat.zero_le, true_and, and_true, Bool.false_eq_true, if_false]
    refine ⟨d, rfl, hd, _, rfl, br2 (fun c => ?_) fun c => ?_⟩
    · obtain ⟨i, rfl⟩ := i_of c
      refine it_of trivial ⟨_, rfl, br2 (fun c2 => ?_) fun c2 => ?_⟩
      · have c2 := of_decide_eq_true c2
        refine rt_of ?_
        have e : isCnt 1000002 (.int i) = decide (i < 1000003) := by
          rw [cnt_i, decide_eq_true c2, Bool.true_and]
          exact decide_eq_decide.mpr (by omega)
        rw [e] at q
        exact q
      · have e : isCnt 1000002 (.int i) = false := by
          rw [cnt_i, c2, Bool.false_and]
        rw [e] at q
        exact rt_of q
    · have e : isCnt 1000002 d = false := by
        unfold isCnt
        split
        · cases c
        · rfl
      rw [e] at q
      exact rt_of q
theorem name_loop {z : Str} (hz : z.length ≤ 64) {S : Sto} {Q : KD} (q : Q (.bl (z.cps.toList.all sgn)) S) : ∃ (W : Nat → List D → Sto → Prop) (n : Nat), W 0 [] S ∧ ∀ (i : Nat) (acc : List D) (S2 : Sto), W i acc S2 → ∃ r, strI z i S2 = some r ∧ (r = none → allD [D.fl acc] S2 Q) ∧ ∀ (x : D), r = some x → i < n ∧ acc.length < 16777216 ∧ inD false x (.str "abcdefghijklmnopqrstuvwxyz") S2 fun x_1 S1 => ∃ c, x_1 = D.bl c ∧ if c = true then W (i + 1) (acc ++ [D.bl true]) S1 else inD false x (.str "0123456789") S1 fun y S5 => W (i + 1) (acc ++ [y]) S5 := by
  refine lc_mp (ds := DL.signs z) (fun d => match d with | .at (.str y) => .bl (sgn (y.cps.toList.headD 0)) | _ => .bl false) (by unfold DL.signs; rw [List.length_map, ← len_cps]; omega) (fun W i x acc hx w => ?_) ?_
  · unfold DL.signs at hx
    obtain ⟨c, _, rfl⟩ := map_at hx
    have w : W (i + 1) (acc ++ [D.bl (sgn c)]) S := w
    refine ⟨c, rfl, _, rfl, br2 (fun h => ?_) fun h => ⟨c, rfl, ?_⟩⟩
    · have h : c ∈ low := of_xt h
      have e : sgn c = true := by unfold sgn; rw [decide_eq_true h]; rfl
      rw [e] at w
      exact w
    · have h : ¬ c ∈ low := of_xf h
      have e : sgn c = decide (c ∈ dig) := by unfold sgn; rw [decide_eq_false h]; rfl
      rw [e] at w
      rw [Bool.false_xor]
      exact w
  · unfold DL.signs
    refine ⟨_, z.cps.toList.map sgn, rfl, by unfold lsOf; rw [List.map_map, List.map_map]; rfl, ?_⟩
    rw [List.all_map]
    exact q
def sp_is_name : SpD := fun ds S Q _ => ∃ d, ds = [d] ∧ Vk S d ∧ Q (.bl (isName d)) S
theorem ok_is_name {P : Program} {w : World} {K : PySem.W.Frag} {mg : Str → Option Value} {base : Heap} (T : Txt K w mg)  {ff : Addr} {fd : FuncData} (F : Fun K "is_name" "is_name" s_is_name ff fd) (mf : mg "is_name" = some (.ref ff)) : Cal P w K mg base 1 "is_name" s_is_name ["thing"] sp_is_name := by
  refine ⟨ff, fd, okD F sc_is_name (fun ds S Q E h => ?len) (fun cdv A outer s H E ds S Q E' hcd hr h => ⟨_, (dss_cons (ds_if (dw_or (dt_not (dt_tr td_tru (de_isi (tn := "str") (by rfl) T.nb_isinstance (by rfl) T.nb_str (de_var 0)))) (dw_or (dt_not (dt_chain od_le od_le de_int (de_callB cd_len (by rfl) T.nb_len (da_cons (de_var 0) da_nil)) (de_gi T.g_LONGEST_NAME))) (dw_or1 (dt_cmp (od_notin hr) (de_ix (xd_ix hr) (de_var 0) de_int) (de_gs T.g_LETTERS))))).pt (dss_one (ds_ret de_bl)) dss_nil)
      (dss_one (ds_ret (de_callB (cd_all rfl) (by rfl) T.nb_all (da_cons (de_lc [("sign", 1)] rfl sc_is_name.nd (di_str (de_var 0)) (blkOk_by (N := ["thing", "sign"]) (sc := defScope s_is_name) (by decide +kernel)) (fun _ _ _ _ _ => (pg_name (i := 1) sc_is_name.nd rfl (Or.inl rfl) (Or.inr rfl))) (fun N => (tg_name (vs := [1]) (i := 1) (by decide))) (fun _ _ _ _ _ => dts_nil) (fun _ _ _ _ _ => (de_or (de_cmp (od_in hr) (de_var 1) (de_gs T.g_LETTERS)) (de_one (de_cmp (od_in hr) (de_var 1) (de_gs T.g_DIGITS)))))) da_nil))))), ?run⟩), F.binds (ps := ["thing"]) fun _ _ _ _ _ _ us hl => match us, hl with | [_], _ => rfl, mf, F⟩
  case len => obtain ⟨d, rfl, _⟩ := h; rfl
  case run =>
    obtain ⟨d, rfl, hd, q⟩ := h
    simp only [dVar, dC, dOp, dUn, dChain, dTr, dB, dAnd, dOr, dNot, dIf, dAndV, dOrV, dNotV, dNil, dCons, dTup, dLst, dLf, dNext, dSeq, dBreak, dCont, dDrop, dRet, dRetN, dIfS, gdName, gdNil, gdCons, gdTup, gdSub, dAsg, dPar, dCall, dCallK, dCB, dM0, dM, dGet1, dGet2, dDk, dDt, dPart, dNoPart, dSlice, dAug, dYes, dSort2, revD, iTupD, iLstD, iLf, iLw, iRange1, iRange2, iRange3, iEnumD, iZipD, iZipMD, iStrD, dGix, dDc, dIsi, dSortSet, dLenSet, dDlit, gdLst, dFor, dWhile, dLc, dLcM, dFld, dFldSet, dFldAdd, dMeth, dMake, dPar3, dDisp, dPrs, dFsi, dGget, dKgt, dKgtL, dCut, dTcut, wipeD, bodyE, startD, List.map_cons, List.map_nil, List.length_cons, List.length_nil, List.replicate_succ, List.replicate_zero, List.cons_append, List.nil_append, Nat.reduceAdd, Nat.reduceSub, Nat.zero_add, List.getElem?_cons_zero, List.getElem?_cons_succ, List.set_cons_zero, List.set_cons_succ, Option.some.injEq, exists_eq_left', exists_eq_left, if_true, sizeLine_eq, Nat.reduceLeDiff, Nat.reduceLT, Nat.zero_le, true_and, and_true, Bool.false_eq_true, if_false]
    obtain ⟨t, h1, _, h2, _⟩ := vk_ty hd
    refine ⟨t, h1, tru_b ?_⟩
    rw [h2]
    by_cases c : isS d = true
    · obtain ⟨z, rfl⟩ := s_of c
      obtain ⟨hs, hz⟩ := vk_str hd
      have q : Q (.bl (nmS z)) S := q
      unfold nmS at q
      refine brF rfl (len_s hz (it_of trivial ⟨_, rfl, br2 (fun a => it_of trivial ⟨_, rfl, br2 (fun b => ?_) fun b => ?_⟩) fun a => ⟨_, rfl, brT rfl ?_⟩⟩))
      · have b : decide ((z.length : Int) ≤ 8) = false := by simpa using b
        have b := of_decide_eq_false b
        rw [decide_eq_false (p := z.length ≤ 8) (by omega), Bool.and_false] at q
        exact rt_of q
      · have b : decide ((z.length : Int) ≤ 8) = true := by simpa using b
        have b := of_decide_eq_true b
        have a := of_decide_eq_true a
        rw [decide_eq_true (p := 1 ≤ z.length) (by omega), decide_eq_true (p := z.length ≤ 8) (by omega)] at q
        obtain ⟨c0, r0, hc⟩ : ∃ c0 r0, z.cps.toList = c0 :: r0 := by
          cases e : z.cps.toList with
          | nil => have := len_cps z; rw [e] at this; simp at this; omega
          | cons x y => exact ⟨x, y, rfl⟩
        refine ix_tx (Nat.le_trans hz (by decide)) (i := 0) (by rw [hc]; exact at_0) ⟨c0, rfl, _, rfl, br2 (fun h => ?_) fun h => ⟨z, rfl, ?_⟩⟩
        · have h : ¬ c0 ∈ low := of_nxt h
          rw [hc] at q
          have e : firstLow (c0 :: r0) = false := decide_eq_false h
          rw [e] at q
          exact rt_of q
        · have h : c0 ∈ low := of_nxf h
          refine name_loop hz (rt_of ?_)
          have e : firstLow z.cps.toList = true := by rw [hc]; exact decide_eq_true h
          rw [e, Bool.true_and, Bool.true_and, Bool.true_and] at q
          exact q
      · have a := of_decide_eq_false a
        rw [decide_eq_false (p := 1 ≤ z.length) (by omega)] at q
        exact rt_of q
    · have c : isS d = false := by simpa using c
      rw [nm_not c] at q
      rw [c]
      exact brT rfl (rt_of q)
def sp_are_names : SpD := fun ds S Q _ => ∃ d, ds = [d] ∧ Vk S d ∧ Q (.bl (areNames d)) S
theorem ok_are_names {P : Program} {w : World} {K : PySem.W.Frag} {mg : Str → Option Value} {base : Heap} (T : Txt K w mg) (C_is_name : Cal P w K mg base 1 "is_name" s_is_name ["thing"] sp_is_name) {ff : Addr} {fd : FuncData} (F : Fun K "are_names" "are_names" s_are_names ff fd) (mf : mg "are_names" = some (.ref ff)) : Cal P w K mg base 2 "are_names" s_are_names ["thing"] sp_are_names := by
  refine ⟨ff, fd, okD F sc_are_names (fun ds S Q E h => ?len) (fun cdv A outer s H E ds S Q E' hcd hr h => ⟨_, (dss_one (ds_ret (de_and (de_isi (tn := "tuple") (by rfl) T.nb_isinstance (by rfl) T.nb_tuple (de_var 0)) (de_one (de_callB (cd_all rfl) (by rfl) T.nb_all (da_cons (de_lc [("name", 1)] rfl sc_are_names.nd (di_tup (de_var 0)) (blkOk_by (N := ["thing", "name"]) (sc := defScope s_are_names) (by decide +kernel)) (fun _ _ _ _ _ => (pg_name (i := 1) sc_are_names.nd rfl (Or.inl rfl) (Or.inr rfl))) (fun N => (tg_name (vs := [1]) (i := 1) (by decide))) (fun _ _ _ _ _ => dts_nil) (fun _ _ _ _ _ => (de_c C_is_name hr (da_cons (de_var 1) da_nil)))) da_nil)))))), ?run⟩), F.binds (ps := ["thing"]) fun _ _ _ _ _ _ us hl => match us, hl with | [_], _ => rfl, mf, F⟩
  case len => obtain ⟨d, rfl, _⟩ := h; rfl
  case run =>
    obtain ⟨d, rfl, hd, q⟩ := h
    simp only [dVar, dC, dOp, dUn, dChain, dTr, dB, dAnd, dOr, dNot, dIf, dAndV, dOrV, dNotV, dNil, dCons, dTup, dLst, dLf, dNext, dSeq, dBreak, dCont, dDrop, dRet, dRetN, dIfS, gdName, gdNil, gdCons, gdTup, gdSub, dAsg, dPar, dCall, dCallK, dCB, dM0, dM, dGet1, dGet2, dDk, dDt, dPart, dNoPart, dSlice, dAug, dYes, dSort2, revD, iTupD, iLstD, iLf, iLw, iRange1, iRange2, iRange3, iEnumD, iZipD, iZipMD, iStrD, dGix, dDc, dIsi, dSortSet, dLenSet, dDlit, gdLst, dFor, dWhile, dLc, dLcM, dFld, dFldSet, dFldAdd, dMeth, dMake, dPar3, dDisp, dPrs, dFsi, dGget, dKgt, dKgtL, dCut, dTcut, wipeD, bodyE, startD, List.map_cons, List.map_nil, List.length_cons, List.length_nil, List.replicate_succ, List.replicate_zero, List.cons_append, List.nil_append, Nat.reduceAdd, Nat.reduceSub, Nat.zero_add, List.getElem?_cons_zero, List.getElem?_cons_succ, List.set_cons_zero, List.set_cons_succ, Option.some.injEq, exists_eq_left', exists_eq_left, if_true, sizeLine_eq, Nat.reduceLeDiff, Nat.reduceLT, Nat.zero_le, true_and, and_true, Bool.false_eq_true, if_false]
    obtain ⟨t, h1, h2, _⟩ := vk_ty hd
    refine ⟨t, h1, _, rfl, ?_⟩
    rw [h2]
    by_cases c : isTp d = true
    · obtain ⟨xs, rfl⟩ := tp_of c
      obtain ⟨hl, hv⟩ := vk_tup hd
      refine brT c ⟨xs, .inl rfl, lc_mp (fun d => .bl (isName d)) hl (fun W i x acc hx w => ⟨x, rfl, hv x (List.mem_of_getElem? hx), w⟩) (all_f (rt_of q))⟩
    · have c : isTp d = false := by simpa using c
      refine brF c ?_
      have e : areNames d = false := by
        unfold areNames
        split
        · cases c
        · rfl
      rw [e] at q
      exact rt_of q
def sp_are_distinct : SpD := fun ds S Q _ => ∃ (x : D) (xs : List Str), ds = [x] ∧ sqOf S x = some (xs.map D.str) ∧ xs.length ≤ 1000 ∧ Q (.bl (decide xs.Nodup)) S
theorem ok_are_distinct {P : Program} {w : World} {K : PySem.W.Frag} {mg : Str → Option Value} {base : Heap} (T : Txt K w mg)  {ff : Addr} {fd : FuncData} (F : Fun K "are_distinct" "are_distinct" s_are_distinct ff fd) (mf : mg "are_distinct" = some (.ref ff)) : Cal P w K mg base 1 "are_distinct" s_are_distinct ["things"] sp_are_distinct := by
  refine ⟨ff, fd, okD F sc_are_distinct (fun ds S Q E h => ?len) (fun cdv A outer s H E ds S Q E' hcd hr h => ⟨_, (dss_one (ds_ret (de_cmp (od_eq hr) (de_lenSet rfl (by rfl) T.nb_len (by rfl) T.nb_set (de_var 0)) (de_callB cd_len (by rfl) T.nb_len (da_cons (de_var 0) da_nil))))), ?run⟩), F.binds (ps := ["things"]) fun _ _ _ _ _ _ us hl => match us, hl with | [_], _ => rfl, mf, F⟩
  case len => obtain ⟨x, xs, rfl, _⟩ := h; rfl
  case run =>
    obtain ⟨x, xs, rfl, hx, hl, q⟩ := h
    simp only [dVar, dC, dOp, dUn, dChain, dTr, dB, dAnd, dOr, dNot, dIf, dAndV, dOrV, dNotV, dNil, dCons, dTup, dLst, dLf, dNext, dSeq, dBreak, dCont, dDrop, dRet, dRetN, dIfS, gdName, gdNil, gdCons, gdTup, gdSub, dAsg, dPar, dCall, dCallK, dCB, dM0, dM, dGet1, dGet2, dDk, dDt, dPart, dNoPart, dSlice, dAug, dYes, dSort2, revD, iTupD, iLstD, iLf, iLw, iRange1, iRange2, iRange3, iEnumD, iZipD, iZipMD, iStrD, dGix, dDc, dIsi, dSortSet, dLenSet, dDlit, gdLst, dFor, dWhile, dLc, dLcM, dFld, dFldSet, dFldAdd, dMeth, dMake, dPar3, dDisp, dPrs, dFsi, dGget, dKgt, dKgtL, dCut, dTcut, wipeD, bodyE, startD, List.map_cons, List.map_nil, List.length_cons, List.length_nil, List.replicate_succ, List.replicate_zero, List.cons_append, List.nil_append, Nat.reduceAdd, Nat.reduceSub, Nat.zero_add, List.getElem?_cons_zero, List.getElem?_cons_succ, List.set_cons_zero, List.set_cons_succ, Option.some.injEq, exists_eq_left', exists_eq_left, if_true, sizeLine_eq, Nat.reduceLeDiff, Nat.reduceLT, Nat.zero_le, true_and, and_true, Bool.false_eq_true, if_false]
    refine ⟨_, hx, by rw [List.length_map]; show xs.length + 1 < 4096; omega, xs.map Sum.inr, by rw [List.map_map, List.map_map]; rfl, fun n hn => len_sq hx ?_⟩
    rw [List.length_map]
    have e := nodup_len hn
    rw [← e] at q
    refine rt_of ?_
    have e2 : decide ((n : Int) = ((xs.length : Nat) : Int)) = decide (n = xs.length) := decide_eq_decide.mpr (by omega)
    show Q (.bl (xor false (decide ((n : Int) = ((xs.length : Nat) : Int))))) S
    rw [Bool.false_xor, e2]
    exact q
end K05


namespace K05
open PySem L2 PyProof.Rows DL
def sp_is_kind : SpD := fun ds S Q _ => ∃ d, ds = [d] ∧ Vk S d ∧ Q (.bl (kindOk d)) S
theorem ok_is_kind {P : Program} {w : World} {K : PySem.W.Frag} {mg : Str → Option Value} {base : Heap} (T : Txt K w mg) (C_are_names : Cal P w K mg base 2 "are_names" s_are_names ["thing"] sp_are_names) (C_are_distinct : Cal P w K mg base 1 "are_distinct" s_are_distinct ["things"] sp_are_distinct) (C_is_name : Cal P w K mg base 1 "is_name" s_is_name ["thing"] sp_is_name) {ff : Addr} {fd : FuncData} (F : Fun K "is_kind" "is_kind" s_is_kind ff fd) (mf : mg "is_kind" = some (.ref ff)) : Cal P w K mg base 3 "is_kind" s_is_kind ["thing"] sp_is_kind := by
  refine ⟨ff, fd, okD F sc_is_kind (fun ds S Q E h => ?len) (fun cdv A outer s H E ds S Q E' hcd hr h => ⟨_, (dss_cons (ds_if (dw_or (dt_not (dt_tr td_tru (de_isi (tn := "tuple") (by rfl) T.nb_isinstance (by rfl) T.nb_tuple (de_var 0)))) (dw_or (dt_cmp (od_ne hr) (de_callB cd_len (by rfl) T.nb_len (da_cons (de_var 0) da_nil)) de_int) (dw_or (dt_not (dt_tr td_tru (de_c C_is_name hr (da_cons (de_ix (xd_ix hr) (de_var 0) de_int) da_nil)))) (dw_or1 (dt_cmp (od_in hr) (de_ix (xd_ix hr) (de_var 0) de_int) (de_gt T.g_BARRED_KINDS)))))).pt (dss_one (ds_ret de_bl)) dss_nil)
      (dss_one (ds_ret (de_and (de_c C_are_names hr (da_cons (de_ix (xd_ix hr) (de_var 0) de_int) da_nil)) (de_and (de_cmp od_le (de_callB cd_len (by rfl) T.nb_len (da_cons (de_ix (xd_ix hr) (de_var 0) de_int) da_nil)) (de_gi T.g_MOST_FIELDS)) (de_one (de_c C_are_distinct hr (da_cons (de_ix (xd_ix hr) (de_var 0) de_int) da_nil)))))))), ?run⟩), F.binds (ps := ["thing"]) fun _ _ _ _ _ _ us hl => match us, hl with | [_], _ => rfl, mf, F⟩
  case len => obtain ⟨d, rfl, _⟩ := h; rfl
  case run =>
    obtain ⟨d, rfl, hd, q⟩ := h
    simp only [dVar, dC, dOp, dUn, dChain, dTr, dB, dAnd, dOr, dNot, dIf, dAndV, dOrV, dNotV, dNil, dCons, dTup, dLst, dLf, dNext, dSeq, dBreak, dCont, dDrop, dRet, dRetN, dIfS, gdName, gdNil, gdCons, gdTup, gdSub, dAsg, dPar, dCall, dCallK, dCB, dM0, dM, dGet1, dGet2, dDk, dDt, dPart, dNoPart, dSlice, dAug, dYes, dSort2, revD, iTupD, iLstD, iLf, iLw, iRange1, iRange2, iRange3, iEnumD, iZipD, iZipMD, iStrD, dGix, dDc, dIsi, dSortSet, dLenSet, dDlit, gdLst, dFor, dWhile, dLc, dLcM, dFld, dFldSet, dFldAdd, dMeth, dMake, dPar3, dDisp, dPrs, dFsi, dGget, dKgt, dKgtL, dCut, dTcut, wipeD, bodyE, startD, List.map_cons, List.map_nil, List.length_cons, List.length_nil, List.replicate_succ, List.replicate_zero, List.cons_append, List.nil_append, Nat.reduceAdd, Nat.reduceSub, Nat.zero_add, List.getElem?_cons_zero, List.getElem?_cons_succ, List.set_cons_zero, List.set_cons_succ, Option.some.injEq, exists_eq_left', exists_eq_left, if_true, sizeLine_eq, Nat.reduceLeDiff, Nat.reduceLT, Nat.zero_le, true_and, and_true, Bool.false_eq_true, if_false]
    obtain ⟨t, h1, h2, _⟩ := vk_ty hd
    refine ⟨t, h1, tru_b ?_⟩
    rw [h2]
    by_cases c : isTp d = true
    · obtain ⟨xs, rfl⟩ := tp_of c
      obtain ⟨hl, hv⟩ := vk_tup hd
      refine brF rfl (len_sq rfl ⟨_, rfl, br2 (fun a => ?_) fun a => ?_⟩)
      · have a := of_nxt a
        rw [kind_len (by omega)] at q
        exact rt_of q
      · have a := of_nxf a
        obtain ⟨x, y, rfl⟩ : ∃ x y, xs = [x, y] := by
          match xs, (show xs.length = 2 by omega) with
          | [x, y], _ => exact ⟨x, y, rfl⟩
        have hx := hv x (by simp)
        have hy := hv y (by simp)
        have q : Q (.bl (isName x && !decide (strOf x ∈ barred) && areNames y && decide ((items y).length ≤ 4) && dist (items y))) S := q
        refine ix_sq rfl rfl at_0 ⟨x, rfl, hx, tru_b (br2 (fun b => ?_) fun b => ?_)⟩
        · have b : isName x = false := by simpa using b
          rw [b] at q
          exact rt_of q
        · have b : isName x = true := by simpa using b
          obtain ⟨z, rfl, hz⟩ := nm_str b
          rw [b] at q
          have q : Q (.bl (true && !decide (z ∈ barred) && areNames y && decide ((items y).length ≤ 4) && dist (items y))) S := q
          refine ix_sq rfl rfl at_0 (in_barred (vk_str hx).1 ⟨_, rfl, br2 (fun e => ?_) fun e => ?_⟩)
          · rw [e] at q
            exact rt_of q
          · rw [e] at q
            refine ix_sq rfl rfl (at_n (i := 1) rfl) ⟨y, rfl, hy, _, rfl, br2 (fun f => ?_) fun f => ?_⟩
            · obtain ⟨ys, rfl, hys⟩ := an_tup f
              rw [f] at q
              refine ix_sq rfl rfl (at_n (i := 1) rfl) (len_sq rfl (it_of trivial ⟨_, rfl, br2 (fun g => ?_) fun g => ?_⟩))
              · have g := of_decide_eq_true g
                rw [decide_eq_true (p := (items (.tup ys)).length ≤ 4) (by show ys.length ≤ 4; omega)] at q
                exact ix_sq rfl rfl (at_n (i := 1) rfl) ⟨_, ys.map strOf, rfl, by rw [← names_str hys]; rfl, by rw [List.length_map]; omega, rt_of q⟩
              · have g := of_decide_eq_false g
                rw [decide_eq_false (p := (items (.tup ys)).length ≤ 4) (by show ¬ ys.length ≤ 4; omega)] at q
                rw [Bool.and_false, Bool.false_and] at q
                exact rt_of q
            · rw [f, Bool.and_false, Bool.false_and, Bool.false_and] at q
              exact rt_of q
    · have c : isTp d = false := by simpa using c
      rw [kind_no c] at q
      rw [c]
      exact brT rfl (rt_of q)
def sp_are_kinds : SpD := fun ds S Q _ => ∃ d, ds = [d] ∧ Vk S d ∧ Q (.bl (tupB kindsOk d)) S
theorem ok_are_kinds {P : Program} {w : World} {K : PySem.W.Frag} {mg : Str → Option Value} {base : Heap} (T : Txt K w mg) (C_are_distinct : Cal P w K mg base 1 "are_distinct" s_are_distinct ["things"] sp_are_distinct) (C_is_kind : Cal P w K mg base 3 "is_kind" s_is_kind ["thing"] sp_is_kind) {ff : Addr} {fd : FuncData} (F : Fun K "are_kinds" "are_kinds" s_are_kinds ff fd) (mf : mg "are_kinds" = some (.ref ff)) : Cal P w K mg base 4 "are_kinds" s_are_kinds ["thing"] sp_are_kinds := by
  refine ⟨ff, fd, okD F sc_are_kinds (fun ds S Q E h => ?len) (fun cdv A outer s H E ds S Q E' hcd hr h => ⟨_, (dss_cons (ds_if (dw_or (dt_not (dt_tr td_tru (de_isi (tn := "tuple") (by rfl) T.nb_isinstance (by rfl) T.nb_tuple (de_var 0)))) (dw_or (dt_cmp od_gt (de_callB cd_len (by rfl) T.nb_len (da_cons (de_var 0) da_nil)) (de_gi T.g_MOST_KINDS)) (dw_or1 (dt_not (dt_tr td_tru (de_callB (cd_all rfl) (by rfl) T.nb_all (da_cons (de_lc [("kind", 1)] rfl sc_are_kinds.nd (di_tup (de_var 0)) (blkOk_by (N := ["thing", "kind"]) (sc := defScope s_are_kinds) (by decide +kernel)) (fun _ _ _ _ _ => (pg_name (i := 1) sc_are_kinds.nd rfl (Or.inl rfl) (Or.inr rfl))) (fun N => (tg_name (vs := [1]) (i := 1) (by decide))) (fun _ _ _ _ _ => dts_nil) (fun _ _ _ _ _ => (de_c C_is_kind hr (da_cons (de_var 1) da_nil)))) da_nil))))))).pt (dss_one (ds_ret de_bl)) dss_nil)
      (dss_one (ds_ret (de_c C_are_distinct hr (da_cons (de_lc [("kind", 1)] rfl sc_are_kinds.nd (di_tup (de_var 0)) (blkOk_by (N := ["thing", "kind"]) (sc := defScope s_are_kinds) (by decide +kernel)) (fun _ _ _ _ _ => (pg_name (i := 1) sc_are_kinds.nd rfl (Or.inl rfl) (Or.inr rfl))) (fun N => (tg_name (vs := [1]) (i := 1) (by decide))) (fun _ _ _ _ _ => dts_nil) (fun _ _ _ _ _ => (de_ix (xd_ix hr) (de_var 1) de_int))) da_nil))))), ?run⟩), F.binds (ps := ["thing"]) fun _ _ _ _ _ _ us hl => match us, hl with | [_], _ => rfl, mf, F⟩
  case len => obtain ⟨d, rfl, _⟩ := h; rfl
  case run =>
    obtain ⟨d, rfl, hd, q⟩ := h
    simp only [dVar, dC, dOp, dUn, dChain, dTr, dB, dAnd, dOr, dNot, dIf, dAndV, dOrV, dNotV, dNil, dCons, dTup, dLst, dLf, dNext, dSeq, dBreak, dCont, dDrop, dRet, dRetN, dIfS, gdName, gdNil, gdCons, gdTup, gdSub, dAsg, dPar, dCall, dCallK, dCB, dM0, dM, dGet1, dGet2, dDk, dDt, dPart, dNoPart, dSlice, dAug, dYes, dSort2, revD, iTupD, iLstD, iLf, iLw, iRange1, iRange2, iRange3, iEnumD, iZipD, iZipMD, iStrD, dGix, dDc, dIsi, dSortSet, dLenSet, dDlit, gdLst, dFor, dWhile, dLc, dLcM, dFld, dFldSet, dFldAdd, dMeth, dMake, dPar3, dDisp, dPrs, dFsi, dGget, dKgt, dKgtL, dCut, dTcut, wipeD, bodyE, startD, List.map_cons, List.map_nil, List.length_cons, List.length_nil, List.replicate_succ, List.replicate_zero, List.cons_append, List.nil_append, Nat.reduceAdd, Nat.reduceSub, Nat.zero_add, List.getElem?_cons_zero, List.getElem?_cons_succ, List.set_cons_zero, List.set_cons_succ, Option.some.injEq, exists_eq_left', exists_eq_left, if_true, sizeLine_eq, Nat.reduceLeDiff, Nat.reduceLT, Nat.zero_le, true_and, and_true, Bool.false_eq_true, if_false]
    obtain ⟨t, h1, h2, _⟩ := vk_ty hd
    refine ⟨t, h1, tru_b ?_⟩
    rw [h2]
    by_cases c : isTp d = true
    · obtain ⟨xs, rfl⟩ := tp_of c
      obtain ⟨hl, hv⟩ := vk_tup hd
      have q : Q (.bl (decide (xs.length ≤ 8) && xs.all kindOk && decide ((xs.map nmOf).Nodup))) S := q
      refine brF rfl (len_sq rfl (it_of trivial ⟨_, rfl, br2 (fun a => ?_) fun a => ?_⟩))
      · have a := of_decide_eq_true a
        rw [decide_eq_false (p := xs.length ≤ 8) (by omega)] at q
        exact rt_of q
      · have a := of_decide_eq_false a
        rw [decide_eq_true (p := xs.length ≤ 8) (by omega), Bool.true_and] at q
        refine ⟨xs, .inl rfl, lc_mp (fun d => .bl (kindOk d)) hl (fun W i x acc hx w => ⟨x, rfl, hv x (List.mem_of_getElem? hx), w⟩) (all_f (tru_b (br2 (fun b => ?_) fun b => ?_)))⟩
        · have b : xs.all kindOk = false := by simpa using b
          rw [b] at q
          exact rt_of q
        · have b : xs.all kindOk = true := by simpa using b
          rw [b, Bool.true_and] at q
          refine ⟨xs, .inl rfl, lc_mp (fun d => .str (nmOf d)) hl (fun W i x acc hx w => ?_) ⟨_, xs.map nmOf, rfl, by rw [List.map_map]; rfl, by rw [List.length_map]; exact hl, rt_of q⟩⟩
          obtain ⟨z, ys, rfl, _⟩ := kind_shape (List.all_eq_true.mp b x (List.mem_of_getElem? hx))
          exact ix_sq rfl rfl at_0 w
    · have c : isTp d = false := by simpa using c
      rw [tupB_no c] at q
      rw [c]
      exact brT rfl (rt_of q)
def sp_has_head : SpD := fun ds S Q _ => ∃ (d : D) (n : Nat), ds = [d, .int (n : Nat)] ∧ 3 ≤ n ∧ Vk S d ∧ Q (.bl (headN n d)) S
theorem ok_has_head {P : Program} {w : World} {K : PySem.W.Frag} {mg : Str → Option Value} {base : Heap} (T : Txt K w mg) (C_are_distinct : Cal P w K mg base 1 "are_distinct" s_are_distinct ["things"] sp_are_distinct) (C_is_name : Cal P w K mg base 1 "is_name" s_is_name ["thing"] sp_is_name) (C_are_names : Cal P w K mg base 2 "are_names" s_are_names ["thing"] sp_are_names) {ff : Addr} {fd : FuncData} (F : Fun K "has_head" "has_head" s_has_head ff fd) (mf : mg "has_head" = some (.ref ff)) : Cal P w K mg base 3 "has_head" s_has_head ["thing", "size"] sp_has_head := by
  refine ⟨ff, fd, okD F sc_has_head (fun ds S Q E h => ?len) (fun cdv A outer s H E ds S Q E' hcd hr h => ⟨_, (dss_cons (ds_if (dw_or (dt_not (dt_tr td_tru (de_isi (tn := "tuple") (by rfl) T.nb_isinstance (by rfl) T.nb_tuple (de_var 0)))) (dw_or (dt_cmp (od_ne hr) (de_callB cd_len (by rfl) T.nb_len (da_cons (de_var 0) da_nil)) (de_var 1)) (dw_or (dt_not (dt_tr td_tru (de_c C_is_name hr (da_cons (de_ix (xd_ix hr) (de_var 0) de_int) da_nil)))) (dw_or1 (dt_not (dt_tr td_tru (de_c C_are_names hr (da_cons (de_ix (xd_ix hr) (de_var 0) de_int) da_nil)))))))).pt (dss_one (ds_ret de_bl)) dss_nil)
      (dss_one (ds_ret (de_and (de_c C_are_distinct hr (da_cons (de_ix (xd_ix hr) (de_var 0) de_int) da_nil)) (de_one (de_isi (tn := "tuple") (by rfl) T.nb_isinstance (by rfl) T.nb_tuple (de_ix (xd_ix hr) (de_var 0) de_int))))))), ?run⟩), F.binds (ps := ["thing", "size"]) fun _ _ _ _ _ _ us hl => match us, hl with | [_, _], _ => rfl, mf, F⟩
  case len => obtain ⟨d, n, rfl, _⟩ := h; rfl
  case run =>
    obtain ⟨d, n, rfl, h3, hd, q⟩ := h
    simp only [dVar, dC, dOp, dUn, dChain, dTr, dB, dAnd, dOr, dNot, dIf, dAndV, dOrV, dNotV, dNil, dCons, dTup, dLst, dLf, dNext, dSeq, dBreak, dCont, dDrop, dRet, dRetN, dIfS, gdName, gdNil, gdCons, gdTup, gdSub, dAsg, dPar, dCall, dCallK, dCB, dM0, dM, dGet1, dGet2, dDk, dDt, dPart, dNoPart, dSlice, dAug, dYes, dSort2, revD, iTupD, iLstD, iLf, iLw, iRange1, iRange2, iRange3, iEnumD, iZipD, iZipMD, iStrD, dGix, dDc, dIsi, dSortSet, dLenSet, dDlit, gdLst, dFor, dWhile, dLc, dLcM, dFld, dFldSet, dFldAdd, dMeth, dMake, dPar3, dDisp, dPrs, dFsi, dGget, dKgt, dKgtL, dCut, dTcut, wipeD, bodyE, startD, List.map_cons, List.map_nil, List.length_cons, List.length_nil, List.replicate_succ, List.replicate_zero, List.cons_append, List.nil_append, Nat.reduceAdd, Nat.reduceSub, Nat.zero_add, List.getElem?_cons_zero, List.getElem?_cons_succ, List.set_cons_zero, List.set_cons_succ, Option.some.injEq, exists_eq_left', exists_eq_left, if_true, sizeLine_eq, Nat.reduceLeDiff, Nat.reduceLT, Nat.zero_le, true_and, and_true, Bool.false_eq_true, if_false]
    obtain ⟨t, h1, h2, _⟩ := vk_ty hd
    refine ⟨t, h1, tru_b ?_⟩
    rw [h2]
    by_cases c : isTp d = true
    · obtain ⟨xs, rfl⟩ := tp_of c
      obtain ⟨hl, hv⟩ := vk_tup hd
      refine brF rfl (len_sq rfl ⟨_, rfl, br2 (fun a => ?_) fun a => ?_⟩)
      · have a := of_nxt a
        rw [head_len (by omega) h3] at q
        exact rt_of q
      · have a := of_nxf a
        obtain ⟨x, y, z, r, rfl⟩ : ∃ x y z r, xs = x :: y :: z :: r := by
          match xs, (show xs.length = n by omega) with
          | [], e => rw [← e] at h3; exact absurd h3 (by simp)
          | [_], e => rw [← e] at h3; exact absurd h3 (by simp)
          | [_, _], e => rw [← e] at h3; exact absurd h3 (by simp)
          | x :: y :: z :: r, _ => exact ⟨x, y, z, r, rfl⟩
        have hx := hv x (by simp)
        have hy := hv y (by simp)
        have hz := hv z (by simp)
        have q : Q (.bl (decide (r.length + 3 = n) && isName x && areNames y && dist (items y) && isTp z)) S := q
        rw [decide_eq_true (p := r.length + 3 = n) (by simp only [List.length_cons] at a; omega), Bool.true_and] at q
        refine ix_sq rfl rfl at_0 ⟨x, rfl, hx, tru_b (br2 (fun b => ?_) fun b => ?_)⟩
        · have b : isName x = false := by simpa using b
          rw [b] at q
          exact rt_of q
        · have b : isName x = true := by simpa using b
          rw [b, Bool.true_and] at q
          refine ix_sq rfl rfl (at_n (i := 1) rfl) ⟨y, rfl, hy, tru_b (br2 (fun f => ?_) fun f => ?_)⟩
          · have f : areNames y = false := by simpa using f
            rw [f] at q
            exact rt_of q
          · have f : areNames y = true := by simpa using f
            obtain ⟨ys, rfl, hys⟩ := an_tup f
            rw [f, Bool.true_and] at q
            refine ix_sq rfl rfl (at_n (i := 1) rfl) ⟨_, ys.map strOf, rfl, by rw [← names_str hys]; rfl, by rw [List.length_map]; exact (vk_tup hy).1, _, rfl, br2 (fun g => ?_) fun g => ?_⟩
            · have g : dist (items (.tup ys)) = true := g
              rw [g, Bool.true_and] at q
              obtain ⟨t2, g1, g2, _⟩ := vk_ty hz
              refine ix_sq rfl rfl (at_n (i := 2) rfl) ⟨t2, g1, ?_⟩
              rw [g2]
              exact rt_of q
            · have g : dist (items (.tup ys)) = false := g
              rw [g, Bool.false_and] at q
              exact rt_of q
    · have c : isTp d = false := by simpa using c
      rw [head_no c] at q
      rw [c]
      exact brT rfl (rt_of q)
def sp_have_heads : SpD := fun ds S Q _ => ∃ (d : D) (n m : Nat), ds = [d, .int (n : Nat), .int (m : Nat)] ∧ 3 ≤ n ∧ Vk S d ∧ Q (.bl (tupB (heads n m) d)) S
theorem ok_have_heads {P : Program} {w : World} {K : PySem.W.Frag} {mg : Str → Option Value} {base : Heap} (T : Txt K w mg) (C_are_distinct : Cal P w K mg base 1 "are_distinct" s_are_distinct ["things"] sp_are_distinct) (C_has_head : Cal P w K mg base 3 "has_head" s_has_head ["thing", "size"] sp_has_head) {ff : Addr} {fd : FuncData} (F : Fun K "have_heads" "have_heads" s_have_heads ff fd) (mf : mg "have_heads" = some (.ref ff)) : Cal P w K mg base 4 "have_heads" s_have_heads ["thing", "size", "most"] sp_have_heads := by
  refine ⟨ff, fd, okD F sc_have_heads (fun ds S Q E h => ?len) (fun cdv A outer s H E ds S Q E' hcd hr h => ⟨_, (dss_cons (ds_if (dw_or (dt_not (dt_tr td_tru (de_isi (tn := "tuple") (by rfl) T.nb_isinstance (by rfl) T.nb_tuple (de_var 0)))) (dw_or (dt_cmp od_gt (de_callB cd_len (by rfl) T.nb_len (da_cons (de_var 0) da_nil)) (de_var 2)) (dw_or1 (dt_not (dt_tr td_tru (de_callB (cd_all rfl) (by rfl) T.nb_all (da_cons (de_lc [("one", 3)] rfl sc_have_heads.nd (di_tup (de_var 0)) (blkOk_by (N := ["thing", "size", "most", "one"]) (sc := defScope s_have_heads) (by decide +kernel)) (fun _ _ _ _ _ => (pg_name (i := 3) sc_have_heads.nd rfl (Or.inl rfl) (Or.inr rfl))) (fun N => (tg_name (vs := [3]) (i := 3) (by decide))) (fun _ _ _ _ _ => dts_nil) (fun _ _ _ _ _ => (de_c C_has_head hr (da_cons (de_var 3) (da_cons (de_var 1) da_nil))))) da_nil))))))).pt (dss_one (ds_ret de_bl)) dss_nil)
      (dss_one (ds_ret (de_c C_are_distinct hr (da_cons (de_lc [("one", 3)] rfl sc_have_heads.nd (di_tup (de_var 0)) (blkOk_by (N := ["thing", "size", "most", "one"]) (sc := defScope s_have_heads) (by decide +kernel)) (fun _ _ _ _ _ => (pg_name (i := 3) sc_have_heads.nd rfl (Or.inl rfl) (Or.inr rfl))) (fun N => (tg_name (vs := [3]) (i := 3) (by decide))) (fun _ _ _ _ _ => dts_nil) (fun _ _ _ _ _ => (de_ix (xd_ix hr) (de_var 3) de_int))) da_nil))))), ?run⟩), F.binds (ps := ["thing", "size", "most"]) fun _ _ _ _ _ _ us hl => match us, hl with | [_, _, _], _ => rfl, mf, F⟩
  case len => obtain ⟨d, n, m, rfl, _⟩ := h; rfl
  case run =>
    obtain ⟨d, n, m, rfl, h3, hd, q⟩ := h
    simp only [dVar, dC, dOp, dUn, dChain, dTr, dB, dAnd, dOr, dNot, dIf, dAndV, dOrV, dNotV, dNil, dCons, dTup, dLst, dLf, dNext, dSeq, dBreak, dCont, dDrop, dRet, dRetN, dIfS, gdName, gdNil, gdCons, gdTup, gdSub, dAsg, dPar, dCall, dCallK, dCB, dM0, dM, dGet1, dGet2, dDk, dDt, dPart, dNoPart, dSlice, dAug, dYes, dSort2, revD, iTupD, iLstD, iLf, iLw, iRange1, iRange2, iRange3, iEnumD, iZipD, iZipMD, iStrD, dGix, dDc, dIsi, dSortSet, dLenSet, dDlit, gdLst, dFor, dWhile, dLc, dLcM, dFld, dFldSet, dFldAdd, dMeth, dMake, dPar3, dDisp, dPrs, dFsi, dGget, dKgt, dKgtL, dCut, dTcut, wipeD, bodyE, startD, List.map_cons, List.map_nil, List.length_cons, List.length_nil, List.replicate_succ, List.replicate_zero, List.cons_append, List.nil_append, Nat.reduceAdd, Nat.reduceSub, Nat.zero_add, List.getElem?_cons_zero, List.getElem?_cons_succ, List.set_cons_zero, List.set_cons_succ, Option.some.injEq, exists_eq_left', exists_eq_left, if_true, sizeLine_eq, Nat.reduceLeDiff, Nat.reduceLT, Nat.zero_le, true_and, and_true, Bool.false_eq_true, if_false]
    obtain ⟨t, h1, h2, _⟩ := vk_ty hd
    refine ⟨t, h1, tru_b ?_⟩
    rw [h2]
    by_cases c : isTp d = true
    · obtain ⟨xs, rfl⟩ := tp_of c
      obtain ⟨hl, hv⟩ := vk_tup hd
      have q : Q (.bl (decide (xs.length ≤ m) && xs.all (headN n) && decide ((xs.map nmOf).Nodup))) S := q
      refine brF rfl (len_sq rfl (it_of trivial ⟨_, rfl, br2 (fun a => ?_) fun a => ?_⟩))
      · have a := of_decide_eq_true a
        rw [decide_eq_false (p := xs.length ≤ m) (by omega)] at q
        exact rt_of q
      · have a := of_decide_eq_false a
        rw [decide_eq_true (p := xs.length ≤ m) (by omega), Bool.true_and] at q
        refine ⟨xs, .inl rfl, lc_mp (fun d => .bl (headN n d)) hl (fun W i x acc hx w => ⟨x, n, rfl, h3, hv x (List.mem_of_getElem? hx), w⟩) (all_f (tru_b (br2 (fun b => ?_) fun b => ?_)))⟩
        · have b : xs.all (headN n) = false := by simpa using b
          rw [b] at q
          exact rt_of q
        · have b : xs.all (headN n) = true := by simpa using b
          rw [b, Bool.true_and] at q
          refine ⟨xs, .inl rfl, lc_mp (fun d => .str (nmOf d)) hl (fun W i x acc hx w => ?_) ⟨_, xs.map nmOf, rfl, by rw [List.map_map]; rfl, by rw [List.length_map]; exact hl, rt_of q⟩⟩
          obtain ⟨z, ys, ts, r, rfl, _⟩ := head_shape (List.all_eq_true.mp b x (List.mem_of_getElem? hx))
          exact ix_sq rfl rfl at_0 w
    · have c : isTp d = false := by simpa using c
      rw [tupB_no c] at q
      rw [c]
      exact brT rfl (rt_of q)
theorem eqv_main (z : Str) (ys : List D) : PyData.eqv (toPy (.tup [.str z, .tup ys])) (toPy (.tup [.str "main", .tup []])) = (decide (z = "main") && ys.isEmpty) := by
  unfold toPy toPys
  simp only [toPy, toPys, PyData.eqv, PyData.eqvAll]
  cases ys with
  | nil =>
    simp [toPys, PyData.eqvAll]
    first | done | rfl
  | cons y ys => simp [toPys, PyData.eqvAll]
theorem cm_names {S : Sto} {ys : List D} (h : ys.all isName = true) (hv : ∀ d ∈ ys, Vk S d) : Cm 1 (.tup ys) :=
  Cm.tup (k := 0) fun d hd => by
    obtain ⟨z, rfl, _⟩ := nm_str (List.all_eq_true.mp h d hd)
    exact Cm.str (vk_str (hv _ hd)).1
theorem eq_main {neg : Bool} {z : Str} {ys : List D} {S : Sto} {Q : KD} (hz : PyData.strOk z = true) (hy : Cm 1 (.tup ys)) (q : Q (.bl (xor neg (decide (z = "main") && ys.isEmpty))) S) : eqD neg (.tup [.str z, .tup ys]) (.tup [.str "main", .tup []]) S Q :=
  ceq_of (k := 2) (k' := 2) (Cm.tup (cmc (Cm.str hz) (cm1 hy))) (Cm.tup (cmc (Cm.str (by decide +kernel)) (cm1 (Cm.tup fun d hd => by cases hd)))) (by rw [eqv_main]; exact q) (fun u e => nomatch e)
def sp_are_procedures : SpD := fun ds S Q _ => ∃ d, ds = [d] ∧ Vk S d ∧ Q (.bl (tupB procsOk d)) S
theorem ok_are_procedures {P : Program} {w : World} {K : PySem.W.Frag} {mg : Str → Option Value} {base : Heap} (T : Txt K w mg) (C_have_heads : Cal P w K mg base 4 "have_heads" s_have_heads ["thing", "size", "most"] sp_have_heads) {ff : Addr} {fd : FuncData} (F : Fun K "are_procedures" "are_procedures" s_are_procedures ff fd) (mf : mg "are_procedures" = some (.ref ff)) : Cal P w K mg base 5 "are_procedures" s_are_procedures ["thing"] sp_are_procedures := by
  refine ⟨ff, fd, okD F sc_are_procedures (fun ds S Q E h => ?len) (fun cdv A outer s H E ds S Q E' hcd hr h => ⟨_, (dss_one (ds_ret (de_and (de_c C_have_heads hr (da_cons (de_var 0) (da_cons de_int (da_cons (de_gi T.g_MOST_PROCEDURES) da_nil)))) (de_and (de_cmp (od_ne0 hr) (de_var 0) (de_tup da_nil)) (de_one (de_cmp (od_eq hr) (de_slice (xd_slice false) (de_ix (xd_ix hr) (de_var 0) de_int) do_none (do_some de_int)) (de_tup (da_cons de_str (da_cons (de_tup da_nil) da_nil))))))))), ?run⟩), F.binds (ps := ["thing"]) fun _ _ _ _ _ _ us hl => match us, hl with | [_], _ => rfl, mf, F⟩
  case len => obtain ⟨d, rfl, _⟩ := h; rfl
  case run =>
    obtain ⟨d, rfl, hd, q⟩ := h
    simp only [dVar, dC, dOp, dUn, dChain, dTr, dB, dAnd, dOr, dNot, dIf, dAndV, dOrV, dNotV, dNil, dCons, dTup, dLst, dLf, dNext, dSeq, dBreak, dCont, dDrop, dRet, dRetN, dIfS, gdName, gdNil, gdCons, gdTup, gdSub, dAsg, dPar, dCall, dCallK, dCB, dM0, dM, dGet1, dGet2, dDk, dDt, dPart, dNoPart, dSlice, dAug, dYes, dSort2, revD, iTupD, iLstD, iLf, iLw, iRange1, iRange2, iRange3, iEnumD, iZipD, iZipMD, iStrD, dGix, dDc, dIsi, dSortSet, dLenSet, dDlit, gdLst, dFor, dWhile, dLc, dLcM, dFld, dFldSet, dFldAdd, dMeth, dMake, dPar3, dDisp, dPrs, dFsi, dGget, dKgt, dKgtL, dCut, dTcut, wipeD, bodyE, startD, List.map_cons, List.map_nil, List.length_cons, List.length_nil, List.replicate_succ, List.replicate_zero, List.cons_append, List.nil_append, Nat.reduceAdd, Nat.reduceSub, Nat.zero_add, List.getElem?_cons_zero, List.getElem?_cons_succ, List.set_cons_zero, List.set_cons_succ, Option.some.injEq, exists_eq_left', exists_eq_left, if_true, sizeLine_eq, Nat.reduceLeDiff, Nat.reduceLT, Nat.zero_le, true_and, and_true, Bool.false_eq_true, if_false]
    refine ⟨d, 3, 6, rfl, by decide, hd, _, rfl, br2 (fun a => ?_) fun a => ?_⟩
    · obtain ⟨ps, rfl⟩ : ∃ ps, d = .tup ps := by
        by_cases c : isTp d = true
        · exact tp_of c
        · rw [tupB_no (by simpa using c)] at a
          cases a
      obtain ⟨hl, hv⟩ := vk_tup hd
      have a : heads 3 6 ps = true := a
      have q : Q (.bl (heads 3 6 ps && isMain ps)) S := q
      rw [a, Bool.true_and] at q
      refine e0_t ⟨_, rfl, br2 (fun b => ?_) fun b => ?_⟩
      · obtain ⟨p0, r, rfl⟩ : ∃ p0 r, ps = p0 :: r := by
          cases ps with
          | nil => cases b
          | cons x y => exact ⟨x, y, rfl⟩
        unfold heads at a
        rw [Bool.and_eq_true, Bool.and_eq_true] at a
        obtain ⟨z, ys, ts, r', rfl, hr, hz, hys, _⟩ := head_shape (List.all_eq_true.mp a.1.2 p0 (by simp))
        obtain rfl : r' = [] := List.eq_nil_of_length_eq_zero (by omega)
        have h0 := (vk_tup (hv _ (List.mem_cons_self))).2
        have q : Q (.bl (decide (z = "main") && ys.isEmpty)) S := q
        refine ix_sq rfl rfl at_0 ⟨2, rfl, sl_t ?_⟩
        exact eq_main (vk_str (h0 _ (by simp))).1 (cm_names hys (vk_tup (h0 _ (by simp))).2) (by rw [Bool.false_xor]; exact rt_of q)
      · have e : ps = [] := by
          cases ps with
          | nil => rfl
          | cons x y => cases b
        subst e
        exact rt_of q
    · have e : tupB procsOk d = false := by
        by_cases c : isTp d = true
        · obtain ⟨ps, rfl⟩ := tp_of c
          have a : heads 3 6 ps = false := a
          show (heads 3 6 ps && isMain ps) = false
          rw [a]; rfl
        · exact tupB_no (by simpa using c)
      rw [e] at q
      exact rt_of q
/-- what sizes_of makes -/
def SzOk (S : Sto) (p : Addr) (s : Sz) : Prop := ∃ a b c, S p = some (.dk [(.inr "k", .ref a), (.inr "t", .ref b), (.inr "p", .ref c)]) ∧ S a = some (tabD s.kn) ∧ S b = some (tabD s.tm) ∧ S c = some (tabD s.pr)
def sp_sizes_of : SpD := fun ds S Q _ => ∃ (ks ts ps : List D), ds = [.tup ks, .tup ts, .tup ps] ∧ ks.length ≤ 1000 ∧ ts.length ≤ 1000 ∧ ps.length ≤ 1000 ∧ ks.all kindOk = true ∧ ts.all (headN 4) = true ∧ ps.all (headN 3) = true ∧ (ks.map nmOf).Nodup ∧ (ts.map nmOf).Nodup ∧ (ps.map nmOf).Nodup ∧
  ∀ p S', SzOk S' p (szOf ks ts ps) → Sub S S' → Q (.ref p) S'
theorem ok_sizes_of {P : Program} {w : World} {K : PySem.W.Frag} {mg : Str → Option Value} {base : Heap} (T : Txt K w mg)  {ff : Addr} {fd : FuncData} (F : Fun K "sizes_of" "sizes_of" s_sizes_of ff fd) (mf : mg "sizes_of" = some (.ref ff)) : Cal P w K mg base 1 "sizes_of" s_sizes_of ["kinds", "templates", "procedures"] sp_sizes_of := by
  refine ⟨ff, fd, okD F sc_sizes_of (fun ds S Q E h => ?len) (fun cdv A outer s H E ds S Q E' hcd hr h => ⟨_, (dss_one (ds_ret (de_disp [(.inr "k", _), (.inr "t", _), (.inr "p", _)] (pps_cons pe_str (de_dc [("name", 3), ("fields", 4)] rfl sc_sizes_of.nd (di_tup (de_var 0)) (blkOk_by (N := ["kinds", "templates", "procedures", "name", "fields", "template", "procedure"]) (sc := defScope s_sizes_of) (by decide +kernel)) (fun _ _ _ _ _ => (pg_tup (n := 2) rfl (pgs_cons (pg_name (i := 3) sc_sizes_of.nd rfl (Or.inl rfl) (Or.inr rfl)) (pgs_cons (pg_name (i := 4) sc_sizes_of.nd rfl (Or.inl rfl) (Or.inr rfl)) pgs_nil)))) (fun N => (tg_tup (vs := [3, 4]) (n := 2) (tgs_cons (vs := [3, 4]) (i := 3) (by decide) (tgs_cons (vs := [3, 4]) (i := 4) (by decide) (tgs_nil (vs := [3, 4])))))) (fun _ _ _ _ _ => dts_nil) (fun _ _ _ _ _ => (de_var 3)) (fun _ _ _ _ _ => (de_callB cd_len (by rfl) T.nb_len (da_cons (de_var 4) da_nil)))) (pps_cons pe_str (de_dc [("template", 5)] rfl sc_sizes_of.nd (di_tup (de_var 1)) (blkOk_by (N := ["kinds", "templates", "procedures", "name", "fields", "template", "procedure"]) (sc := defScope s_sizes_of) (by decide +kernel)) (fun _ _ _ _ _ => (pg_name (i := 5) sc_sizes_of.nd rfl (Or.inl rfl) (Or.inr rfl))) (fun N => (tg_name (vs := [5]) (i := 5) (by decide))) (fun _ _ _ _ _ => dts_nil) (fun _ _ _ _ _ => (de_ix (xd_ix hr) (de_var 5) de_int)) (fun _ _ _ _ _ => (de_callB cd_len (by rfl) T.nb_len (da_cons (de_ix (xd_ix hr) (de_var 5) de_int) da_nil)))) (pps_cons pe_str (de_dc [("procedure", 6)] rfl sc_sizes_of.nd (di_tup (de_slice (xd_slice false) (de_var 2) (do_some de_int) do_none)) (blkOk_by (N := ["kinds", "templates", "procedures", "name", "fields", "template", "procedure"]) (sc := defScope s_sizes_of) (by decide +kernel)) (fun _ _ _ _ _ => (pg_name (i := 6) sc_sizes_of.nd rfl (Or.inl rfl) (Or.inr rfl))) (fun N => (tg_name (vs := [6]) (i := 6) (by decide))) (fun _ _ _ _ _ => dts_nil) (fun _ _ _ _ _ => (de_ix (xd_ix hr) (de_var 6) de_int)) (fun _ _ _ _ _ => (de_callB cd_len (by rfl) T.nb_len (da_cons (de_ix (xd_ix hr) (de_var 6) de_int) da_nil)))) pps_nil)))))), ?run⟩), F.binds (ps := ["kinds", "templates", "procedures"]) fun _ _ _ _ _ _ us hl => match us, hl with | [_, _, _], _ => rfl, mf, F⟩
  case len => obtain ⟨ks, ts, ps, rfl, _⟩ := h; rfl
  case run =>
    obtain ⟨ks, ts, ps, rfl, l1, l2, l3, a1, a2, a3, n1, n2, n3, q⟩ := h
    simp only [dVar, dC, dOp, dUn, dChain, dTr, dB, dAnd, dOr, dNot, dIf, dAndV, dOrV, dNotV, dNil, dCons, dTup, dLst, dLf, dNext, dSeq, dBreak, dCont, dDrop, dRet, dRetN, dIfS, gdName, gdNil, gdCons, gdTup, gdSub, dAsg, dPar, dCall, dCallK, dCB, dM0, dM, dGet1, dGet2, dDk, dDt, dPart, dNoPart, dSlice, dAug, dYes, dSort2, revD, iTupD, iLstD, iLf, iLw, iRange1, iRange2, iRange3, iEnumD, iZipD, iZipMD, iStrD, dGix, dDc, dIsi, dSortSet, dLenSet, dDlit, gdLst, dFor, dWhile, dLc, dLcM, dFld, dFldSet, dFldAdd, dMeth, dMake, dPar3, dDisp, dPrs, dFsi, dGget, dKgt, dKgtL, dCut, dTcut, wipeD, bodyE, startD, List.map_cons, List.map_nil, List.length_cons, List.length_nil, List.replicate_succ, List.replicate_zero, List.cons_append, List.nil_append, Nat.reduceAdd, Nat.reduceSub, Nat.zero_add, List.getElem?_cons_zero, List.getElem?_cons_succ, List.set_cons_zero, List.set_cons_succ, Option.some.injEq, exists_eq_left', exists_eq_left, if_true, sizeLine_eq, Nat.reduceLeDiff, Nat.reduceLT, Nat.zero_le, true_and, and_true, Bool.false_eq_true, if_false]
    intro p np
    have s0 : DL.Sub S (up S p (.dk [])) := DL.Sub.refl.un np
    refine ⟨ks, .inl rfl, fun A nA => ?_⟩
    have sA : DL.Sub S (up (up S p (.dk [])) A (tabD (named ks))) := s0.un nA
    have pA : p ≠ A := fun e => by subst e; rw [up_same] at nA; cases nA
    refine dc_tab l1 n1 (fun W i x S2 kvs hx e hz w => ?_) ?_
    · obtain ⟨z, ys, rfl, _⟩ := kind_shape (List.all_eq_true.mp a1 x hx)
      exact ⟨[.str z, .tup ys], rfl, rfl, .str z, [.tup ys], rfl, .tup ys, [], rfl, rfl, len_sq rfl ⟨kvs, .inr z, rfl, e, hz, w⟩⟩
    refine ⟨ts, .inl rfl, fun B nB => ?_⟩
    have pB : p ≠ B := fun e => by subst e; rw [up_ne pA, up_same] at nB; cases nB
    have AB : A ≠ B := fun e => by subst e; rw [up_same] at nB; cases nB
    have sB := sA.un (o := tabD (named ts)) nB
    refine dc_tab l2 n2 (fun W i x S2 kvs hx e hz w => ?_) ?_
    · obtain ⟨z, ys, rs, r, rfl, _⟩ := head_shape (List.all_eq_true.mp a2 x hx)
      exact ix_sq rfl rfl at_0 (ix_sq rfl rfl (at_n (i := 1) rfl) (len_sq rfl ⟨kvs, .inr z, rfl, e, hz, w⟩))
    have ecut : cutD ps (some 1) none = ps.drop 1 := by
      cases ps with
      | nil => rfl
      | cons x y => exact cut_1 x y
    refine ⟨1, rfl, sl_t ?_⟩
    rw [ecut]
    refine ⟨ps.drop 1, .inl rfl, fun C nC => ?_⟩
    have AC : A ≠ C := fun e => by subst e; rw [up_ne AB, up_same] at nC; cases nC
    have BC : B ≠ C := fun e => by subst e; rw [up_same] at nC; cases nC
    have pC : p ≠ C := fun e => by subst e; rw [up_ne pB, up_ne pA, up_same] at nC; cases nC
    have sC := sB.un (o := tabD (named (ps.drop 1))) nC
    refine dc_tab (by rw [List.length_drop]; omega) (by rw [List.map_drop]; exact List.Pairwise.drop n3) (fun W i x S2 kvs hx e hz w => ?_) ?_
    · obtain ⟨z, ys, rs, r, rfl, _⟩ := head_shape (List.all_eq_true.mp a3 x (List.mem_of_mem_drop hx))
      exact ix_sq rfl rfl at_0 (ix_sq rfl rfl (at_n (i := 1) rfl) (len_sq rfl ⟨kvs, .inr z, rfl, e, hz, w⟩))
    refine ⟨by rw [up_ne pC, up_ne pB, up_ne pA, up_same], ?_⟩
    refine rt_of (q p _ ⟨A, B, C, up_same, ?_, ?_, ?_⟩ ?_)
    · rw [up_ne pA.symm, up_ne AC, up_ne AB, up_same]; rfl
    · rw [up_ne pB.symm, up_ne BC, up_same]; rfl
    · rw [up_ne pC.symm, up_same]; rfl
    · exact sC.u np
end K05


namespace K05
open PySem L2 PyProof.Rows DL
theorem at_dk {S : Sto} {p : Addr} {kvs : List (Key × D)} {x : D} {κ : Key} (e : S p = some (.dk kvs)) (hk : keyD x = some κ) : atD S x (.ref p) = some (valD kvs κ) := by
  unfold atD
  dsimp only
  rw [e]
  dsimp only
  rw [hk]
  rfl
theorem val_tab (z : Str) : ∀ l : List (Str × Nat), valD (l.map fun q => ((.inr q.1 : Key), D.int (q.2 : Nat))) (.inr z) = (ar l z).map fun n => D.int (n : Nat)
  | [] => rfl
  | q :: l => by
    have ih := val_tab z l
    unfold valD ar at ih ⊢
    rw [List.map_cons, List.find?_cons, List.find?_cons]
    by_cases h : q.1 = z
    · have h1 : decide ((.inr q.1 : Key) = .inr z) = true := decide_eq_true (by rw [h])
      rw [h1, decide_eq_true h]
      rfl
    · have h1 : decide ((.inr q.1 : Key) = .inr z) = false := decide_eq_false fun e => h (Sum.inr.inj e)
      rw [h1, decide_eq_false h]
      exact ih
theorem has_ar (z : Str) : ∀ l : List (Str × Nat), has l z = (ar l z).isSome
  | [] => rfl
  | q :: l => by
    have ih := has_ar z l
    unfold has ar at ih ⊢
    rw [List.map_cons, List.find?_cons]
    by_cases h : q.1 = z
    · rw [decide_eq_true h]
      simp [h]
    · rw [decide_eq_false h, ← ih]
      have : z ≠ q.1 := fun e => h e.symm
      simp [this]
theorem in_tab {neg : Bool} {z : Str} {a : Addr} {l : List (Str × Nat)} {S : Sto} {Q : KD} (e : S a = some (tabD l)) (q : Q (.bl (xor neg (has l z))) S) : inD neg (.str z) (.ref a) S Q := by
  refine in_at (at_dk e rfl) ?_
  rw [val_tab, Option.isSome_map, ← has_ar]
  exact q
theorem val3 (x y w : D) (g : Str) : valD [((.inr "k" : Key), x), (.inr "t", y), (.inr "p", w)] (.inr g) = if g = "k" then some x else if g = "t" then some y else if g = "p" then some w else none := by
  have e : ∀ (a : Str), decide ((.inr a : Key) = .inr g) = decide (g = a) := fun a => decide_eq_decide.mpr ⟨fun h => (Sum.inr.inj h).symm, fun h => by rw [h]⟩
  unfold valD
  rw [List.find?_cons, List.find?_cons, List.find?_cons, e, e, e]
  by_cases h1 : g = "k"
  · rw [decide_eq_true h1, if_pos h1]; rfl
  · rw [decide_eq_false h1, if_neg h1]
    by_cases h2 : g = "t"
    · rw [decide_eq_true h2, if_pos h2]; rfl
    · rw [decide_eq_false h2, if_neg h2]
      by_cases h3 : g = "p"
      · rw [decide_eq_true h3, if_pos h3]; rfl
      · rw [decide_eq_false h3, if_neg h3]; rfl
theorem name_non {d : D} (h : d = .non) : isName d = false := by rw [h]; rfl
def sp_is_part : SpD := fun ds S Q _ => ∃ (sg : Str) (d : D) (p : Addr) (m : Int) (s : Sz), ds = [.str sg, d, .ref p, .int m] ∧ Vk S d ∧ SzOk S p s ∧ Q (.bl (part s m sg d)) S
theorem ok_is_part {P : Program} {w : World} {K : PySem.W.Frag} {mg : Str → Option Value} {base : Heap} (T : Txt K w mg) (C_are_names : Cal P w K mg base 2 "are_names" s_are_names ["thing"] sp_are_names) (C_is_number : Cal P w K mg base 2 "is_number" s_is_number ["thing"] sp_is_number) (C_is_name : Cal P w K mg base 1 "is_name" s_is_name ["thing"] sp_is_name) (C_is_integer : Cal P w K mg base 1 "is_integer" s_is_integer ["thing"] sp_is_integer) {ff : Addr} {fd : FuncData} (F : Fun K "is_part" "is_part" s_is_part ff fd) (mf : mg "is_part" = some (.ref ff)) : Cal P w K mg base 3 "is_part" s_is_part ["sign", "thing", "sizes", "many"] sp_is_part := by
  refine ⟨ff, fd, okD F sc_is_part (fun ds S Q E h => ?len) (fun cdv A outer s H E ds S Q E' hcd hr h => ⟨_, (dss_cons (ds_if (dt_cmp (od_eq hr) (de_var 0) de_str) (dss_one (ds_ret (de_or (de_cmp od_is (de_var 1) de_non) (de_one (de_c C_is_name hr (da_cons (de_var 1) da_nil)))))) dss_nil)
      (dss_cons (ds_if (dt_cmp (od_eq hr) (de_var 0) de_str) (dss_one (ds_ret (de_c C_are_names hr (da_cons (de_var 1) da_nil)))) dss_nil)
      (dss_cons (ds_if (dt_cmp (od_eq hr) (de_var 0) de_str) (dss_one (ds_ret (de_c C_is_number hr (da_cons (de_var 1) da_nil)))) dss_nil)
      (dss_cons (ds_if (dt_cmp (od_eq hr) (de_var 0) de_str) (dss_one (ds_ret (de_and (de_c C_is_integer hr (da_cons (de_var 1) da_nil)) (de_one (de_chain od_le od_le de_int (de_var 1) (de_var 3)))))) dss_nil)
      (dss_cons (ds_if (dt_not (dt_tr td_tru (de_c C_is_name hr (da_cons (de_var 1) da_nil)))) (dss_one (ds_ret de_bl)) dss_nil)
      (dss_cons (ds_if (dt_cmp (od_eq hr) (de_var 0) de_str) (dss_one (ds_ret (de_or (de_cmp (od_in hr) (de_var 1) (de_gt T.g_BARRED_KINDS)) (de_one (de_cmp (od_in hr) (de_var 1) (de_ix (xd_ix hr) (de_var 2) de_str)))))) dss_nil)
      (dss_one (ds_ret (de_or (de_cmp (od_notin hr) (de_var 0) (de_var 2)) (de_one (de_cmp (od_in hr) (de_var 1) (de_ix (xd_ix hr) (de_var 2) (de_var 0))))))))))))), ?run⟩), F.binds (ps := ["sign", "thing", "sizes", "many"]) fun _ _ _ _ _ _ us hl => match us, hl with | [_, _, _, _], _ => rfl, mf, F⟩
  case len => obtain ⟨sg, d, p, m, s, rfl, _⟩ := h; rfl
  case run =>
    obtain ⟨sg, d, p, m, s, rfl, hd, hs, q⟩ := h
    simp only [dVar, dC, dOp, dUn, dChain, dTr, dB, dAnd, dOr, dNot, dIf, dAndV, dOrV, dNotV, dNil, dCons, dTup, dLst, dLf, dNext, dSeq, dBreak, dCont, dDrop, dRet, dRetN, dIfS, gdName, gdNil, gdCons, gdTup, gdSub, dAsg, dPar, dCall, dCallK, dCB, dM0, dM, dGet1, dGet2, dDk, dDt, dPart, dNoPart, dSlice, dAug, dYes, dSort2, revD, iTupD, iLstD, iLf, iLw, iRange1, iRange2, iRange3, iEnumD, iZipD, iZipMD, iStrD, dGix, dDc, dIsi, dSortSet, dLenSet, dDlit, gdLst, dFor, dWhile, dLc, dLcM, dFld, dFldSet, dFldAdd, dMeth, dMake, dPar3, dDisp, dPrs, dFsi, dGget, dKgt, dKgtL, dCut, dTcut, wipeD, bodyE, startD, List.map_cons, List.map_nil, List.length_cons, List.length_nil, List.replicate_succ, List.replicate_zero, List.cons_append, List.nil_append, Nat.reduceAdd, Nat.reduceSub, Nat.zero_add, List.getElem?_cons_zero, List.getElem?_cons_succ, List.set_cons_zero, List.set_cons_succ, Option.some.injEq, exists_eq_left', exists_eq_left, if_true, sizeLine_eq, Nat.reduceLeDiff, Nat.reduceLT, Nat.zero_le, true_and, and_true, Bool.false_eq_true, if_false]
    obtain ⟨a, b, c, e, ea, eb, ec⟩ := hs
    unfold part at q
    refine ⟨_, rfl, br2 (fun h => ?_) fun h => ?_⟩
    · rw [if_pos (of_xt h)] at q
      refine ⟨rfl, _, rfl, br2 (fun g => ?_) fun g => ?_⟩
      · rw [decide_eq_true (of_xt g)] at q
        exact rt_of q
      · rw [decide_eq_false (of_xf g), Bool.false_or] at q
        exact ⟨d, rfl, hd, rt_of q⟩
    rw [if_neg (of_xf h)] at q
    refine ⟨_, rfl, br2 (fun h => ?_) fun h => ?_⟩
    · rw [if_pos (of_xt h)] at q
      exact ⟨d, rfl, hd, rt_of q⟩
    rw [if_neg (of_xf h)] at q
    refine ⟨_, rfl, br2 (fun h => ?_) fun h => ?_⟩
    · rw [if_pos (of_xt h)] at q
      exact ⟨d, rfl, hd, rt_of q⟩
    rw [if_neg (of_xf h)] at q
    refine ⟨_, rfl, br2 (fun h => ?_) fun h => ?_⟩
    · rw [if_pos (of_xt h)] at q
      refine ⟨d, rfl, hd, _, rfl, br2 (fun g => ?_) fun g => ?_⟩
      · obtain ⟨i, rfl⟩ := i_of g
        rw [cnt_i] at q
        refine it_of trivial ⟨_, rfl, br2 (fun j => it_of trivial ?_) fun j => ?_⟩
        · rw [j, Bool.true_and] at q
          exact rt_of q
        · rw [j] at q
          exact rt_of q
      · have e : isCnt m d = false := by
          unfold isCnt
          split
          · cases g
          · rfl
        rw [e] at q
        exact rt_of q
    rw [if_neg (of_xf h)] at q
    refine ⟨d, rfl, hd, tru_b (br2 (fun g => ?_) fun g => ?_)⟩
    · have g : isName d = false := by simpa using g
      rw [g] at q
      exact rt_of q
    have g : isName d = true := by simpa using g
    obtain ⟨z, rfl, hz⟩ := nm_str g
    rw [g, Bool.true_and] at q
    refine ⟨_, rfl, br2 (fun h => ?_) fun h => ?_⟩
    · rw [if_pos (of_xt h)] at q
      refine in_barred (vk_str hd).1 ⟨_, rfl, br2 (fun i => ?_) fun i => ?_⟩
      · have q : Q (.bl (decide (z ∈ barred) || has s.kn z)) S := q
        rw [i] at q
        exact rt_of q
      · have q : Q (.bl (decide (z ∈ barred) || has s.kn z)) S := q
        rw [i, Bool.false_or] at q
        refine ix_at (d := .ref a) (by rw [at_dk e rfl, val3, if_pos rfl]) (in_tab ea ?_)
        rw [Bool.false_xor]
        exact rt_of q
    rw [if_neg (of_xf h)] at q
    refine in_at (at_dk e (κ := .inr sg) rfl) ⟨_, rfl, ?_⟩
    rw [val3]
    by_cases h1 : sg = "k"
    · rw [if_pos h1] at q ⊢
      refine brF rfl (ix_at (d := .ref a) (by rw [at_dk e (κ := .inr sg) rfl, val3, if_pos h1]) (in_tab ea ?_))
      rw [Bool.false_xor]
      exact rt_of q
    rw [if_neg h1] at q ⊢
    by_cases h2 : sg = "t"
    · rw [if_pos h2] at q ⊢
      refine brF rfl (ix_at (d := .ref b) (by rw [at_dk e (κ := .inr sg) rfl, val3, if_neg h1, if_pos h2]) (in_tab eb ?_))
      rw [Bool.false_xor]
      exact rt_of q
    rw [if_neg h2] at q ⊢
    by_cases h3 : sg = "p"
    · rw [if_pos h3] at q ⊢
      refine brF rfl (ix_at (d := .ref c) (by rw [at_dk e (κ := .inr sg) rfl, val3, if_neg h1, if_neg h2, if_pos h3]) (in_tab ec ?_))
      rw [Bool.false_xor]
      exact rt_of q
    rw [if_neg h3] at q ⊢
    exact brT rfl (rt_of q)
theorem lc_zp {a b : D} {xs ys : List D} {S : Sto} {Q : List D → Sto → Prop} {B : (Nat → List D → Sto → Prop) → Nat → List D → D → Sto → Prop} (h1 : sdOf S a = some xs) (h2 : sdOf S b = some ys) (hl : xs.length = ys.length) (hz : xs.length ≤ 1000) (f : D → D → D)
    (hs : ∀ (W : Nat → List D → Sto → Prop) (i : Nat) (x y : D) (acc : List D), x ∈ xs → y ∈ ys → W (i + 1) (acc ++ [f x y]) S → B W i acc (.tup [x, y]) S) (hd : Q (List.zipWith f xs ys) S) :
    ∃ (W : Nat → List D → Sto → Prop) (n : Nat), W 0 [] S ∧ ∀ i acc S2, W i acc S2 → ∃ r, zipMI a b i S2 = some r ∧ (r = none → Q acc S2) ∧ ∀ x, r = some x → i < n ∧ acc.length < sizeLine ∧ B W i acc x S2 := by
  refine ⟨fun i acc S' => i ≤ xs.length ∧ S' = S ∧ acc = (List.zipWith f xs ys).take i, xs.length, ⟨Nat.zero_le _, rfl, rfl⟩, ?_⟩
  rintro i acc S' ⟨hi, rfl, rfl⟩
  by_cases h : i < xs.length
  · have g1 := List.getElem?_eq_getElem h
    have g2 := List.getElem?_eq_getElem (l := ys) (i := i) (by omega)
    refine ⟨_, zip_at h1 h2 g1 g2, (fun e => nomatch e), fun x e => ?_⟩
    cases e
    refine ⟨h, by rw [List.length_take, List.length_zipWith, sizeLine_eq]; omega, hs (fun i acc S2 => i ≤ xs.length ∧ S2 = S' ∧ acc = (List.zipWith f xs ys).take i) i _ _ _ (List.getElem_mem _) (List.getElem_mem _) ⟨h, rfl, ?_⟩⟩
    rw [tk1 (x := f xs[i] (ys[i]'(by omega)))]
    rw [List.getElem?_zipWith, g1, g2]
  · have e : i = xs.length := by omega
    refine ⟨none, zip_no h1 h2 (by omega) (by omega) (.inl e), fun _ => ?_, fun x e => nomatch e⟩
    rw [List.take_of_length_le (by rw [List.length_zipWith]; omega)]
    exact hd
def shapes : List Str := ["xy", "x", "xn", "xyy", "xkY", "xyf", "o", "y", "opY", "r", "yyr", "ywr", "xtY"]
theorem sh_mem {w v : Str} (h : lookS SH w = some v) : v ∈ shapes := by
  unfold lookS at h
  obtain ⟨q, hq, rfl⟩ := Option.map_eq_some_iff.mp h
  have hm := List.mem_of_find?_eq_some hq
  have h2 : ∀ q ∈ SH, q.2 ∈ shapes := by decide +kernel
  exact h2 q hm
theorem parts_len {s : Sz} {m : Int} : ∀ {gs : List Str} {ds : List D}, gs.length ≠ ds.length → parts s m gs ds = false
  | [], [], h => absurd rfl h
  | [], _ :: _, _ => rfl
  | _ :: _, [], _ => rfl
  | g :: gs, d :: ds, h => by
    unfold parts
    rw [parts_len (fun e => h (by rw [List.length_cons, List.length_cons, e])), Bool.and_false]
theorem parts_all {s : Sz} {m : Int} : ∀ {cs : List Nat} {ds : List D}, cs.length = ds.length → (List.zipWith (fun g d => part s m (strOf g) d) (cs.map fun c => D.str ⟨#[c]⟩) ds).all id = parts s m (cs.map fun c => ⟨#[c]⟩) ds
  | [], [], _ => rfl
  | [], _ :: _, h => by simp at h
  | _ :: _, [], h => by simp at h
  | c :: cs, d :: ds, h => by
    have ih := parts_all (s := s) (m := m) (cs := cs) (ds := ds) (by simpa using h)
    rw [List.map_cons, List.map_cons, List.zipWith_cons_cons, List.all_cons, ih]
    rfl
theorem shape_len : ∀ v ∈ shapes, v.length ≤ 64 := by decide +kernel
theorem row_eq {s : Sz} {m : Int} {w : Str} {ds : List D} : rowOk s m (.tup (.str w :: ds)) = (match lookS SH w with | none => false | some z => parts s m (sgs z) ds && fits s (sgs z) ds) := rfl
theorem look_none {w : Str} (h : lookS SH w = none) : lookD SH w = .non := by unfold lookD; rw [h]
theorem look_some {w v : Str} (h : lookS SH w = some v) : lookD SH w = .str v := by unfold lookD; rw [h]
theorem y_fits {s : Sz} {l : List (Str × Nat)} {k : Str} {g : Str} {d1 d2 d3 : D} (hk : tabOf s k = l) : fits s [g, k, "Y"] [d1, d2, d3] = decide (ar l (strOf d2) = some (lenOf d3)) := by
  unfold fits
  dsimp only
  rw [hk]
  rfl
theorem at_last {α : Type} {xs : List α} {x : α} (h : xs[xs.length - 1]? = some x) : atI xs (-1) = some x := by
  have hl := (List.getElem?_eq_some_iff.mp h).1
  obtain ⟨n, hn⟩ : ∃ n, xs.length = n + 1 := ⟨xs.length - 1, by omega⟩
  unfold atI
  rw [hn, ixN_z]
  rw [hn] at h
  exact h
theorem strY (c : Nat) : ((⟨#[c]⟩ : Str) = "Y") ↔ c = 89 := by
  have e : ("Y" : Str) = ⟨#[89]⟩ := by decide +kernel
  rw [e]
  constructor
  · intro h
    have := congrArg (fun z : Str => z.cps[0]?) h
    simpa using this
  · intro h; rw [h]
theorem y_tail {S : Sto} {Q : KD} {p ta : Addr} {w v z2 : Str} {l : List (Str × Nat)} {d1 : D} {ys : List D} {n c0 ck : Nat} (hv : v.cps.toList = [c0, ck, 89]) (hl : v.length ≤ 64) (ht : atD S (.str ⟨#[ck]⟩) (.ref p) = some (some (.ref ta))) (ea : S ta = some (tabD l)) (har : ar l z2 = some n) (q : Q (.bl (decide (n = ys.length))) S) :
    negD (.int 1) S fun y S2 => ixD (.str v) y S2 fun x S1 => eqD true x (.str "Y") S1 fun x S1 => ∃ c, x = D.bl c ∧ if c = true then (∃ d1 S1_1, VW (D.bl true) S1 d1 S1_1 ∧ Q d1 S1_1) else ixD (.tup [.str w, d1, .str z2, .tup ys]) (.int 3) S1 fun x S1 => lenD [x] S1 fun x S1 => ixD (.str v) (.int 1) S1 fun y S2 => ixD (.ref p) y S2 fun x_2 S1 =>
      ixD (.tup [.str w, d1, .str z2, .tup ys]) (.int 2) S1 fun y S2 => ixD x_2 y S2 fun y S2 => eqD false x y S2 fun d S' => ∃ d1 S1, VW d S' d1 S1 ∧ Q d1 S1 := by
  have hz := Nat.le_trans hl (show 64 ≤ sizeLine by decide)
  refine ng (ix_tx hz (i := -1) (c := 89) (at_last (by rw [hv]; rfl)) ⟨_, rfl, brF (nxf ((strY 89).mpr rfl)) ?_⟩)
  refine ix_sq rfl rfl (at_n (i := 3) rfl) (len_sq rfl (ix_tx hz (i := 1) (c := ck) (by rw [hv]; exact at_n (i := 1) rfl) (ix_at ht (ix_sq rfl rfl (at_n (i := 2) rfl) (ix_at (d := .int (n : Nat)) (by rw [at_dk ea rfl, val_tab, har]; rfl) (rt_of ?_))))))
  rw [Bool.false_xor]
  have e : decide (((ys.length : Nat) : Int) = ((n : Nat) : Int)) = decide (n = ys.length) := decide_eq_decide.mpr (by omega)
  rw [e]
  exact q
theorem part_Y {s : Sz} {m : Int} {d : D} : part s m "Y" d = areNames d := by
  unfold part
  rw [if_neg (ofS (by decide)), if_pos rfl]
theorem part_k {s : Sz} {m : Int} {d : D} : part s m "k" d = (isName d && has s.kn (strOf d)) := by
  unfold part
  rw [if_neg (ofS (by decide)), if_neg (ofS (by decide)), if_neg (ofS (by decide)), if_neg (ofS (by decide)), if_neg (ofS (by decide)), if_pos rfl]
theorem part_t {s : Sz} {m : Int} {d : D} : part s m "t" d = (isName d && has s.tm (strOf d)) := by
  unfold part
  rw [if_neg (ofS (by decide)), if_neg (ofS (by decide)), if_neg (ofS (by decide)), if_neg (ofS (by decide)), if_neg (ofS (by decide)), if_neg (ofS (by decide)), if_pos rfl]
theorem part_p {s : Sz} {m : Int} {d : D} : part s m "p" d = (isName d && has s.pr (strOf d)) := by
  unfold part
  rw [if_neg (ofS (by decide)), if_neg (ofS (by decide)), if_neg (ofS (by decide)), if_neg (ofS (by decide)), if_neg (ofS (by decide)), if_neg (ofS (by decide)), if_neg (ofS (by decide)), if_pos rfl]
theorem sgs3 {v : Str} {a b c : Nat} (h : v.cps.toList = [a, b, c]) : sgs v = [⟨#[a]⟩, ⟨#[b]⟩, ⟨#[c]⟩] := by unfold sgs; rw [h]; rfl
theorem not_y : ∀ v ∈ shapes, v ∈ (["xkY", "opY", "xtY"] : List Str) ∨ (v.cps.toList[v.cps.toList.length - 1]?).any (fun c => decide (c ≠ 89)) = true := by decide +kernel
theorem three_parts {s : Sz} {m : Int} {g k y : Str} {ds : List D} (h : parts s m [g, k, y] ds = true) : ∃ d1 d2 d3, ds = [d1, d2, d3] ∧ part s m k d2 = true ∧ part s m y d3 = true ∧ part s m g d1 = true := by
  match ds, h with
  | [], h => cases h
  | [_], h => simp [parts] at h
  | [_, _], h => simp [parts] at h
  | [a, b, c], h =>
    simp only [parts, Bool.and_true, Bool.and_eq_true] at h
    exact ⟨a, b, c, rfl, h.2.1, h.2.2, h.1⟩
  | _ :: _ :: _ :: _ :: _, h => simp [parts] at h
def sp_is_row : SpD := fun ds S Q _ => ∃ (d : D) (p : Addr) (m : Int) (s : Sz), ds = [d, .ref p, .int m] ∧ Vk S d ∧ SzOk S p s ∧ Q (.bl (rowOk s m d)) S
theorem ok_is_row {P : Program} {w : World} {K : PySem.W.Frag} {mg : Str → Option Value} {base : Heap} (T : Txt K w mg) (C_is_part : Cal P w K mg base 3 "is_part" s_is_part ["sign", "thing", "sizes", "many"] sp_is_part) {ff : Addr} {fd : FuncData} (F : Fun K "is_row" "is_row" s_is_row ff fd) (mf : mg "is_row" = some (.ref ff)) : Cal P w K mg base 4 "is_row" s_is_row ["thing", "sizes", "many"] sp_is_row := by
  refine ⟨ff, fd, okD F sc_is_row (fun ds S Q E h => ?len) (fun cdv A outer s H E ds S Q E' hcd hr h => ⟨_, (dss_cons (ds_if (dw_or (dt_not (dt_tr td_tru (de_isi (tn := "tuple") (by rfl) T.nb_isinstance (by rfl) T.nb_tuple (de_var 0)))) (dw_or (dt_cmp (od_eq0 hr) (de_var 0) (de_tup da_nil)) (dw_or1 (dt_not (dt_tr td_tru (de_isi (tn := "str") (by rfl) T.nb_isinstance (by rfl) T.nb_str (de_ix (xd_ix hr) (de_var 0) de_int))))))).pt (dss_one (ds_ret de_bl)) dss_nil)
      (dss_cons (ds_set 3 sc_is_row.nd (de_gget T.g_SHAPES (de_ix (xd_ix hr) (de_var 0) de_int) ⟨rfl, rfl, rfl, rfl⟩))
      (dss_cons (ds_if (dw_or (dt_cmp od_is (de_var 3) de_non) (dw_or1 (dt_cmp (od_ne hr) (de_callB cd_len (by rfl) T.nb_len (da_cons (de_var 0) da_nil)) (de_op (od_add false) de_int (de_callB cd_len (by rfl) T.nb_len (da_cons (de_var 3) da_nil)))))).pt (dss_one (ds_ret de_bl)) dss_nil)
      (dss_cons (ds_if (dt_not (dt_tr td_tru (de_callB (cd_all rfl) (by rfl) T.nb_all (da_cons (de_lc [("sign", 4), ("part", 5)] rfl sc_is_row.nd (di_zipM (by rfl) T.nb_zip (da_cons (de_var 3) (da_cons (de_slice (xd_slice false) (de_var 0) (do_some de_int) do_none) da_nil))) (blkOk_by (N := ["thing", "sizes", "many", "signs", "sign", "part"]) (sc := defScope s_is_row) (by decide +kernel)) (fun _ _ _ _ _ => (pg_tup (n := 2) rfl (pgs_cons (pg_name (i := 4) sc_is_row.nd rfl (Or.inl rfl) (Or.inr rfl)) (pgs_cons (pg_name (i := 5) sc_is_row.nd rfl (Or.inl rfl) (Or.inr rfl)) pgs_nil)))) (fun N => (tg_tup (vs := [4, 5]) (n := 2) (tgs_cons (vs := [4, 5]) (i := 4) (by decide) (tgs_cons (vs := [4, 5]) (i := 5) (by decide) (tgs_nil (vs := [4, 5])))))) (fun _ _ _ _ _ => dts_nil) (fun _ _ _ _ _ => (de_c C_is_part hr (da_cons (de_var 4) (da_cons (de_var 5) (da_cons (de_var 1) (da_cons (de_var 2) da_nil))))))) da_nil)))) (dss_one (ds_ret de_bl)) dss_nil)
      (dss_one (ds_ret (de_or (de_cmp (od_ne hr) (de_ix (xd_ix hr) (de_var 3) (de_un ud_neg de_int)) de_str) (de_one (de_cmp (od_eq hr) (de_callB cd_len (by rfl) T.nb_len (da_cons (de_ix (xd_ix hr) (de_var 0) de_int) da_nil)) (de_ix (xd_ix hr) (de_ix (xd_ix hr) (de_var 1) (de_ix (xd_ix hr) (de_var 3) de_int)) (de_ix (xd_ix hr) (de_var 0) de_int))))))))))), ?run⟩), F.binds (ps := ["thing", "sizes", "many"]) fun _ _ _ _ _ _ us hl => match us, hl with | [_, _, _], _ => rfl, mf, F⟩
  case len => obtain ⟨d, p, m, s, rfl, _⟩ := h; rfl
  case run =>
    obtain ⟨d, p, m, s, rfl, hd, hs, q⟩ := h
    simp only [dVar, dC, dOp, dUn, dChain, dTr, dB, dAnd, dOr, dNot, dIf, dAndV, dOrV, dNotV, dNil, dCons, dTup, dLst, dLf, dNext, dSeq, dBreak, dCont, dDrop, dRet, dRetN, dIfS, gdName, gdNil, gdCons, gdTup, gdSub, dAsg, dPar, dCall, dCallK, dCB, dM0, dM, dGet1, dGet2, dDk, dDt, dPart, dNoPart, dSlice, dAug, dYes, dSort2, revD, iTupD, iLstD, iLf, iLw, iRange1, iRange2, iRange3, iEnumD, iZipD, iZipMD, iStrD, dGix, dDc, dIsi, dSortSet, dLenSet, dDlit, gdLst, dFor, dWhile, dLc, dLcM, dFld, dFldSet, dFldAdd, dMeth, dMake, dPar3, dDisp, dPrs, dFsi, dGget, dKgt, dKgtL, dCut, dTcut, wipeD, bodyE, startD, List.map_cons, List.map_nil, List.length_cons, List.length_nil, List.replicate_succ, List.replicate_zero, List.cons_append, List.nil_append, Nat.reduceAdd, Nat.reduceSub, Nat.zero_add, List.getElem?_cons_zero, List.getElem?_cons_succ, List.set_cons_zero, List.set_cons_succ, Option.some.injEq, exists_eq_left', exists_eq_left, if_true, sizeLine_eq, Nat.reduceLeDiff, Nat.reduceLT, Nat.zero_le, true_and, and_true, Bool.false_eq_true, if_false]
    obtain ⟨t, h1, h2, _⟩ := vk_ty hd
    refine ⟨t, h1, tru_b ?_⟩
    rw [h2]
    by_cases c : isTp d = true
    rotate_left
    · have c : isTp d = false := by simpa using c
      have e : rowOk s m d = false := by
        unfold rowOk
        split
        · cases c
        · rfl
      rw [e] at q
      rw [c]
      exact brT rfl (rt_of q)
    obtain ⟨xs, rfl⟩ := tp_of c
    obtain ⟨hl, hv⟩ := vk_tup hd
    refine brF rfl (e0_t ⟨_, rfl, br2 (fun h => ?_) fun h => ?_⟩)
    · have e : xs = [] := by simpa using h
      subst e
      exact rt_of q
    obtain ⟨x, ds, rfl⟩ : ∃ x ds, xs = x :: ds := by
      cases xs with
      | nil => cases h
      | cons x y => exact ⟨x, y, rfl⟩
    have hx := hv x (by simp)
    obtain ⟨t2, g1, _, g2, _⟩ := vk_ty hx
    refine ix_sq rfl rfl at_0 ⟨t2, g1, tru_b ?_⟩
    rw [g2]
    by_cases c2 : isS x = true
    rotate_left
    · have c2 : isS x = false := by simpa using c2
      have e : rowOk s m (.tup (x :: ds)) = false := by
        unfold rowOk
        split
        · rename_i w ds' e'
          cases e'
          cases c2
        · rfl
      rw [e] at q
      rw [c2]
      exact brT rfl (rt_of q)
    obtain ⟨w, rfl⟩ := s_of c2
    refine brF rfl (ix_sq rfl rfl at_0 ⟨w, rfl, rfl, _, rfl, ?_⟩)
    generalize eS : ([("copy", "xy"), ("none", "x"), ("number", "xn"), ("plus", "xyy"), ("minus", "xyy"), ("times", "xyy"), ("make", "xkY"), ("read", "xyf"), ("input", "o"), ("tell", "y"), ("call", "opY"), ("return", "y"), ("jump", "r"), ("less", "yyr"), ("same", "yyr"), ("is", "ywr"), ("use", "xtY")] : List (Str × Str)) = tb
    have eS : tb = SH := eS.symm
    subst eS
    rw [row_eq] at q
    cases hz : lookS SH w with
    | none =>
      rw [hz] at q
      rw [look_none hz]
      exact brT (xt rfl) (rt_of q)
    | some v =>
      rw [hz] at q
      have q : Q (.bl (parts s m (sgs v) ds && fits s (sgs v) ds)) S := q
      rw [look_some hz]
      have hsh := sh_mem hz
      refine brF (xf (fun e => nomatch e)) (len_sq rfl (len_s (shape_len v hsh) (add_i ⟨_, rfl, br2 (fun a => ?_) fun a => ?_⟩)))
      · have a := of_nxt a
        rw [parts_len (by unfold sgs; rw [List.length_map, ← len_cps]; rw [List.length_cons] at a; omega)] at q
        exact rt_of q
      · have a := of_nxf a
        have hlen : v.cps.toList.length = ds.length := by rw [← len_cps]; rw [List.length_cons] at a; omega
        refine ⟨1, rfl, sl_t ?_⟩
        rw [cut_1]
        refine ⟨_, _, DL.signs v, ds, rfl, rfl, rfl, lc_zp (xs := DL.signs v) (ys := ds) rfl rfl (by unfold DL.signs; rw [List.length_map, hlen]) (by unfold DL.signs; rw [List.length_map, hlen]; rw [List.length_cons] at hl; omega) (fun g d => .bl (part s m (strOf g) d)) (fun W i x y acc hx2 hy w2 => ?_) ?_⟩
        · unfold DL.signs at hx2
          obtain ⟨c, _, rfl⟩ := List.mem_map.mp hx2
          exact ⟨_, rfl, rfl, _, _, rfl, _, _, rfl, rfl, _, y, p, m, s, rfl, hv y (List.mem_cons_of_mem _ hy), hs, w2⟩
        · refine ⟨_, List.zipWith (fun g d => part s m (strOf g) d) (DL.signs v) ds, rfl, by unfold lsOf; rw [List.map_zipWith], tru_b ?_⟩
          unfold DL.signs
          rw [parts_all hlen]
          have q : Q (.bl (parts s m (v.cps.toList.map fun c => ⟨#[c]⟩) ds && fits s (sgs v) ds)) S := q
          refine br2 (fun b => ?_) fun b => ?_
          · have b : parts s m (v.cps.toList.map fun c => ⟨#[c]⟩) ds = false := by simpa using b
            rw [b] at q
            exact rt_of q
          · have b : parts s m (v.cps.toList.map fun c => ⟨#[c]⟩) ds = true := by simpa using b
            rw [b, Bool.true_and] at q
            obtain ⟨ta, tb, tc, e, ea, eb, ec⟩ := hs
            have other : ∀ (v : Str) (c : Nat) (ds : List D), v.cps.toList[v.cps.toList.length - 1]? = some c → v.length ≤ 64 → (⟨#[c]⟩ : Str) ≠ "Y" → v.cps.toList ≠ [] → fits s (sgs v) ds = true := fun v c ds hc hl hne hn => by
              unfold fits
              split
              · rename_i g k y d1 d2 d3 e1
                have : y = ⟨#[c]⟩ := by
                  unfold sgs at e1
                  have e2 := congrArg (fun l => l[2]?) e1
                  have e3 := congrArg List.length e1
                  rw [List.length_map] at e3
                  simp only [List.length_cons, List.length_nil] at e3
                  rw [e3] at hc
                  simp only [List.getElem?_map] at e2
                  rw [hc] at e2
                  simpa using e2.symm
                rw [this, decide_eq_false hne]
                rfl
              · rfl
            rcases not_y v hsh with hy | hy
            · have hy3 : v = "xkY" ∨ v = "opY" ∨ v = "xtY" := by simpa using hy
              have nK : ¬ ((Str.ofString "t") = Str.ofString "k") := ofS (by decide)
              have nP : ¬ ((Str.ofString "p") = Str.ofString "k") := ofS (by decide)
              have nP2 : ¬ ((Str.ofString "p") = Str.ofString "t") := ofS (by decide)
              obtain ⟨a, ck, k, l, tt, hv3, hk, hp, hl3, et, ht⟩ : ∃ (a ck : Nat) (k : Str) (l : List (Str × Nat)) (tt : Addr), v.cps.toList = [a, ck, 89] ∧ (⟨#[ck]⟩ : Str) = k ∧ (∀ d, part s m k d = (isName d && has l (strOf d))) ∧ tabOf s k = l ∧ S tt = some (tabD l) ∧ atD S (.str k) (.ref p) = some (some (.ref tt)) := by
                rcases hy3 with hv' | hv' | hv'
                · exact ⟨120, 107, "k", s.kn, ta, by rw [hv']; decide +kernel, by decide +kernel, fun d => part_k, by unfold tabOf; rw [if_pos rfl], ea, by rw [at_dk e rfl, val3, if_pos rfl]⟩
                · exact ⟨111, 112, "p", s.pr, tc, by rw [hv']; decide +kernel, by decide +kernel, fun d => part_p, by unfold tabOf; rw [if_neg nP, if_neg nP2, if_pos rfl], ec, by rw [at_dk e rfl, val3, if_neg nP, if_neg nP2, if_pos rfl]⟩
                · exact ⟨120, 116, "t", s.tm, tb, by rw [hv']; decide +kernel, by decide +kernel, fun d => part_t, by unfold tabOf; rw [if_neg nK, if_pos rfl], eb, by rw [at_dk e rfl, val3, if_neg nK, if_pos rfl]⟩
              have b2 : parts s m (sgs v) ds = true := b
              rw [sgs3 hv3, hk, (strY 89).mpr rfl] at b2 q
              obtain ⟨d1, d2, d3, rfl, p2, p3, _⟩ := three_parts b2
              rw [hp, Bool.and_eq_true] at p2
              rw [part_Y] at p3
              obtain ⟨z2, rfl, _⟩ := nm_str p2.1
              obtain ⟨ys, rfl, _⟩ := an_tup p3
              rw [y_fits hl3] at q
              have hh : has l z2 = true := p2.2
              rw [has_ar] at hh
              obtain ⟨n, hn⟩ := Option.isSome_iff_exists.mp hh
              refine y_tail (l := l) (n := n) hv3 (shape_len v hsh) (by rw [hk]; exact ht) et hn ?_
              have e2 : decide (ar l (strOf (.str z2)) = some (lenOf (.tup ys))) = decide (n = ys.length) := by
                show decide (ar l z2 = some ys.length) = _
                rw [hn]
                exact decide_eq_decide.mpr ⟨fun h => Option.some.inj h, fun h => by rw [h]⟩
              rw [e2] at q
              exact q
            · obtain ⟨c, hc, hne⟩ : ∃ c, v.cps.toList[v.cps.toList.length - 1]? = some c ∧ c ≠ 89 := by
                cases hq : v.cps.toList[v.cps.toList.length - 1]? with
                | none => rw [hq] at hy; cases hy
                | some c => rw [hq] at hy; exact ⟨c, rfl, of_decide_eq_true hy⟩
              have hne2 : ¬ (⟨#[c]⟩ : Str) = "Y" := fun e => hne ((strY c).mp e)
              rw [other v c ds hc (shape_len v hsh) hne2 (fun e => by rw [e] at hc; cases hc)] at q
              exact ng (ix_tx (Nat.le_trans (shape_len v hsh) (by decide)) (i := -1) (c := c) (at_last hc) ⟨_, rfl, brT (nxt hne2) (rt_of q)⟩)
def sp_are_rows : SpD := fun ds S Q _ => ∃ (rs : List D) (p : Addr) (s : Sz), ds = [.tup rs, .ref p] ∧ Vk S (.tup rs) ∧ SzOk S p s ∧ Q (.bl (rowsOk s rs)) S
theorem ok_are_rows {P : Program} {w : World} {K : PySem.W.Frag} {mg : Str → Option Value} {base : Heap} (T : Txt K w mg) (C_is_row : Cal P w K mg base 4 "is_row" s_is_row ["thing", "sizes", "many"] sp_is_row) {ff : Addr} {fd : FuncData} (F : Fun K "are_rows" "are_rows" s_are_rows ff fd) (mf : mg "are_rows" = some (.ref ff)) : Cal P w K mg base 5 "are_rows" s_are_rows ["rows", "sizes"] sp_are_rows := by
  refine ⟨ff, fd, okD F sc_are_rows (fun ds S Q E h => ?len) (fun cdv A outer s H E ds S Q E' hcd hr h => ⟨_, (dss_one (ds_ret (de_callB (cd_all rfl) (by rfl) T.nb_all (da_cons (de_lc [("row", 2)] rfl sc_are_rows.nd (di_tup (de_var 0)) (blkOk_by (N := ["rows", "sizes", "row"]) (sc := defScope s_are_rows) (by decide +kernel)) (fun _ _ _ _ _ => (pg_name (i := 2) sc_are_rows.nd rfl (Or.inl rfl) (Or.inr rfl))) (fun N => (tg_name (vs := [2]) (i := 2) (by decide))) (fun _ _ _ _ _ => dts_nil) (fun _ _ _ _ _ => (de_c C_is_row hr (da_cons (de_var 2) (da_cons (de_var 1) (da_cons (de_callB cd_len (by rfl) T.nb_len (da_cons (de_var 0) da_nil)) da_nil)))))) da_nil)))), ?run⟩), F.binds (ps := ["rows", "sizes"]) fun _ _ _ _ _ _ us hl => match us, hl with | [_, _], _ => rfl, mf, F⟩
  case len => obtain ⟨rs, p, s, rfl, _⟩ := h; rfl
  case run =>
    obtain ⟨rs, p, s, rfl, hd, hs, q⟩ := h
    simp only [dVar, dC, dOp, dUn, dChain, dTr, dB, dAnd, dOr, dNot, dIf, dAndV, dOrV, dNotV, dNil, dCons, dTup, dLst, dLf, dNext, dSeq, dBreak, dCont, dDrop, dRet, dRetN, dIfS, gdName, gdNil, gdCons, gdTup, gdSub, dAsg, dPar, dCall, dCallK, dCB, dM0, dM, dGet1, dGet2, dDk, dDt, dPart, dNoPart, dSlice, dAug, dYes, dSort2, revD, iTupD, iLstD, iLf, iLw, iRange1, iRange2, iRange3, iEnumD, iZipD, iZipMD, iStrD, dGix, dDc, dIsi, dSortSet, dLenSet, dDlit, gdLst, dFor, dWhile, dLc, dLcM, dFld, dFldSet, dFldAdd, dMeth, dMake, dPar3, dDisp, dPrs, dFsi, dGget, dKgt, dKgtL, dCut, dTcut, wipeD, bodyE, startD, List.map_cons, List.map_nil, List.length_cons, List.length_nil, List.replicate_succ, List.replicate_zero, List.cons_append, List.nil_append, Nat.reduceAdd, Nat.reduceSub, Nat.zero_add, List.getElem?_cons_zero, List.getElem?_cons_succ, List.set_cons_zero, List.set_cons_succ, Option.some.injEq, exists_eq_left', exists_eq_left, if_true, sizeLine_eq, Nat.reduceLeDiff, Nat.reduceLT, Nat.zero_le, true_and, and_true, Bool.false_eq_true, if_false]
    obtain ⟨hl, hv⟩ := vk_tup hd
    refine ⟨rs, .inl rfl, lc_mp (fun d => .bl (rowOk s rs.length d)) hl (fun W i x acc hx w => len_sq rfl ⟨x, p, _, s, rfl, hv x (List.mem_of_getElem? hx), hs, w⟩) (all_f (rt_of q))⟩
end K05

namespace K05
open PySem L2 PyProof.Rows DL
def lawFits (l : List (Str × Nat)) : List D → Bool
  | [_, _, n, y] => isName n && areNames y && decide (ar l (strOf n) = some (lenOf y))
  | _ => false
def g1 : List Str := ["none", "tell", "return"]
def g2 : List Str := ["copy", "plus", "minus", "times", "read"]
def g3 : List Str := ["less", "same"]
def g4 : List Str := ["make", "use"]
def non0 : List D → Bool
  | d :: _ => decide (d = .non)
  | _ => false
def nth1 : List D → D
  | _ :: d :: _ => d
  | _ => .non
def lrow (s : Sz) (m : Int) (w : Str) (ds : List D) : Bool :=
  if w = "input" then decide (ds.length = 1) && (non0 ds || (ds.map isName).headD false)
  else if w ∈ g1 then decide (ds.map isName = [true])
  else if w ∈ g2 then decide (ds.map isName = List.replicate (if w = "copy" then 2 else 3) true)
  else if w = "number" then decide (ds.length = 2) && (ds.map isName).headD false && isCnt 1000002 (nth1 ds)
  else if w = "jump" then decide (ds.length = 1) && isCnt m (ds.getLastD .non)
  else if w ∈ g3 then decide (ds.length = 3) && decide ((ds.map isName).take 2 = [true, true]) && isCnt m (ds.getLastD .non)
  else if w = "is" then decide (ds.length = 3) && decide ((ds.map isName).take 2 = [true, true]) && (isCnt m (ds.getLastD .non) && decide (strOf (nth1 ds) ∈ s.kn.map (·.1) ++ barred))
  else if w ∈ g4 then lawFits (if w = "make" then s.kn else s.tm) (.str w :: ds) && (ds.map isName).headD false
  else decide (w = "call") && lawFits s.pr (.str w :: ds) && (non0 ds || (ds.map isName).headD false)
theorem part_n {s : Sz} {m : Int} {d : D} {g : Str} (h : g ∈ (["x", "y", "f"] : List Str)) : part s m g d = isName d := by
  have n : ∀ a ∈ (["o", "Y", "n", "r", "w", "k", "t", "p"] : List Str), g ≠ a := by revert g; decide +kernel
  unfold part
  rw [if_neg (n _ (by simp)), if_neg (n _ (by simp)), if_neg (n _ (by simp)), if_neg (n _ (by simp)), if_neg (n _ (by simp)), if_neg (n _ (by simp)), if_neg (n _ (by simp)), if_neg (n _ (by simp)), Bool.and_true]
theorem part_o {s : Sz} {m : Int} {d : D} : part s m "o" d = (decide (d = .non) || isName d) := by
  unfold part
  rw [if_pos rfl]
theorem part_num {s : Sz} {m : Int} {d : D} : part s m "n" d = isCnt 1000002 d := by
  unfold part
  rw [if_neg (ofS (by decide)), if_neg (ofS (by decide)), if_pos rfl]
theorem part_r {s : Sz} {m : Int} {d : D} : part s m "r" d = isCnt m d := by
  unfold part
  rw [if_neg (ofS (by decide)), if_neg (ofS (by decide)), if_neg (ofS (by decide)), if_pos rfl]
theorem part_w {s : Sz} {m : Int} {d : D} : part s m "w" d = (isName d && (decide (strOf d ∈ barred) || has s.kn (strOf d))) := by
  unfold part
  rw [if_neg (ofS (by decide)), if_neg (ofS (by decide)), if_neg (ofS (by decide)), if_neg (ofS (by decide)), if_pos rfl]
theorem px {s : Sz} {m : Int} {d : D} : part s m "x" d = isName d := part_n (by simp)
theorem py {s : Sz} {m : Int} {d : D} : part s m "y" d = isName d := part_n (by simp)
theorem pf {s : Sz} {m : Int} {d : D} : part s m "f" d = isName d := part_n (by simp)
theorem row_some {s : Sz} {m : Int} {w v : Str} {gs : List Str} {ds : List D} (h : lookS SH w = some v) (hg : sgs v = gs) : rowOk s m (.tup (.str w :: ds)) = (parts s m gs ds && fits s gs ds) := by
  rw [row_eq, h]
  dsimp only
  rw [hg]
theorem fits_no {s : Sz} {a b c : Str} {ds : List D} (h : c ≠ "Y") : fits s [a, b, c] ds = true := by
  unfold fits
  split
  · rename_i e
    cases e
    rw [decide_eq_false h]; rfl
  · rfl
theorem fits2 {s : Sz} {a b : Str} {ds : List D} : fits s [a, b] ds = true := rfl
theorem fits1 {s : Sz} {a : Str} {ds : List D} : fits s [a] ds = true := rfl
theorem r1 {s : Sz} {m : Int} {w g : Str} {ds : List D} {v : Str} (h : lookS SH w = some v) (hg : sgs v = [g]) : rowOk s m (.tup (.str w :: ds)) = (match ds with | [a] => part s m g a | _ => false) := by
  rw [row_some h hg, fits1, Bool.and_true]
  match ds with
  | [] => rfl
  | [a] => simp [parts]
  | _ :: _ :: _ => simp [parts]
theorem r2 {s : Sz} {m : Int} {w g k : Str} {ds : List D} {v : Str} (h : lookS SH w = some v) (hg : sgs v = [g, k]) : rowOk s m (.tup (.str w :: ds)) = (match ds with | [a, b] => part s m g a && part s m k b | _ => false) := by
  rw [row_some h hg, fits2, Bool.and_true]
  match ds with
  | [] => rfl
  | [_] => simp [parts]
  | [a, b] => simp [parts]
  | _ :: _ :: _ :: _ => simp [parts]
theorem r3 {s : Sz} {m : Int} {w g k y : Str} {ds : List D} {v : Str} (h : lookS SH w = some v) (hg : sgs v = [g, k, y]) (hy : y ≠ "Y") : rowOk s m (.tup (.str w :: ds)) = (match ds with | [a, b, c] => part s m g a && (part s m k b && part s m y c) | _ => false) := by
  rw [row_some h hg, fits_no hy, Bool.and_true]
  match ds with
  | [] => rfl
  | [_] => simp [parts]
  | [_, _] => simp [parts]
  | [a, b, c] => simp [parts]
  | _ :: _ :: _ :: _ :: _ => simp [parts]
theorem rY {s : Sz} {m : Int} {w g k : Str} {ds : List D} {v : Str} (h : lookS SH w = some v) (hg : sgs v = [g, k, "Y"]) {l : List (Str × Nat)} (hl : tabOf s k = l) (hp : ∀ d, part s m k d = (isName d && has l (strOf d))) : rowOk s m (.tup (.str w :: ds)) = (match ds with | [a, _, _] => part s m g a && lawFits l (.str w :: ds) | _ => false) := by
  rw [row_some h hg]
  match ds with
  | [] => rfl
  | [_] => simp [parts]
  | [_, _] => simp [parts]
  | [a, b, c] =>
    rw [y_fits hl]
    simp only [parts, Bool.and_true, part_Y, hp, lawFits, has_ar]
    cases ar l (strOf b) <;> cases part s m g a <;> cases isName b <;> cases areNames c <;> simp
  | _ :: _ :: _ :: _ :: _ => simp [parts]
theorem lrow_eq {s : Sz} {m : Int} {w : Str} {ds : List D} (hne : ds ≠ []) : lrow s m w ds = rowOk s m (.tup (.str w :: ds)) := by
  have hw : w ∈ SH.map (·.1) ∨ lookS SH w = none := by
    cases e : lookS SH w with
    | none => exact .inr rfl
    | some v =>
      unfold lookS at e
      obtain ⟨q, hq, _⟩ := Option.map_eq_some_iff.mp e
      have h1 := List.find?_some hq
      have h2 : q.1 = w := by simpa using h1
      exact .inl (List.mem_map.mpr ⟨q, List.mem_of_find?_eq_some hq, h2⟩)
  have g1n : ∀ {w : Str}, (w = "none" ∨ w = "tell" ∨ w = "return") → w ∈ g1 := fun h => by unfold g1; simpa using h
  rcases hw with hw | hw
  · have hw : w = "copy" ∨ w = "none" ∨ w = "number" ∨ w = "plus" ∨ w = "minus" ∨ w = "times" ∨ w = "make" ∨ w = "read" ∨ w = "input" ∨ w = "tell" ∨ w = "call" ∨ w = "return" ∨ w = "jump" ∨ w = "less" ∨ w = "same" ∨ w = "is" ∨ w = "use" := by simpa [SH] using hw
    have t1 : ∀ {w g : Str} {v : Str}, w ≠ "input" → w ∈ g1 → lookS SH w = some v → sgs v = [g] → (∀ d, part s m g d = isName d) → lrow s m w ds = rowOk s m (.tup (.str w :: ds)) := fun {w g v} h1 h2 h3 h4 h5 => by
      rw [r1 h3 h4]
      unfold lrow
      rw [if_neg h1, if_pos h2]
      match ds, hne with
      | [], h => exact absurd rfl h
      | [a], _ => dsimp only; rw [h5]; cases h : isName a <;> simp [h]
      | _ :: _ :: _, _ => simp
    have t2 : ∀ {w g k y : Str} {v : Str}, w ≠ "input" → w ∉ g1 → w ∈ g2 → w ≠ "copy" → lookS SH w = some v → sgs v = [g, k, y] → y ≠ "Y" → (∀ d, part s m g d = isName d) → (∀ d, part s m k d = isName d) → (∀ d, part s m y d = isName d) → lrow s m w ds = rowOk s m (.tup (.str w :: ds)) := fun {w g k y v} h1 h2 h2' h2c h3 h4 hy h5 h6 h7 => by
      rw [r3 h3 h4 hy]
      unfold lrow
      rw [if_neg h1, if_neg h2, if_pos h2', if_neg h2c]
      match ds, hne with
      | [], h => exact absurd rfl h
      | [_], _ => simp [List.replicate]
      | [_, _], _ => simp [List.replicate]
      | [a, b, c], _ =>
        dsimp only
        rw [h5, h6, h7]
        cases h8 : isName a <;> cases h9 : isName b <;> cases h10 : isName c <;> simp [List.replicate, h8, h9, h10]
      | _ :: _ :: _ :: _ :: _, _ => simp [List.replicate]
    have nn : ∀ {a b : String}, a ≠ b → Str.ofString a ≠ Str.ofString b := fun h => ofS h
    have D1 : ∀ x ∈ SH.map (·.1), ∀ y ∈ SH.map (·.1), True := fun _ _ _ _ => trivial
    rcases hw with rfl | rfl | rfl | rfl | rfl | rfl | rfl | rfl | rfl | rfl | rfl | rfl | rfl | rfl | rfl | rfl | rfl
    · rw [r2 (v := "xy") (g := "x") (k := "y") (by decide +kernel) (by decide +kernel)]
      unfold lrow
      rw [if_neg (ofS (by decide)), if_neg (by decide +kernel), if_pos (by decide +kernel), if_pos rfl]
      match ds, hne with
      | [], h => exact absurd rfl h
      | [_], _ => simp [List.replicate]
      | [a, b], _ =>
        dsimp only
        rw [px, py]
        cases h8 : isName a <;> cases h9 : isName b <;> simp [List.replicate, h8, h9]
      | _ :: _ :: _ :: _, _ => simp [List.replicate]
    · exact t1 (v := "x") (g := "x") (ofS (by decide)) (by decide +kernel) (by decide +kernel) (by decide +kernel) fun d => px
    · rw [r2 (v := "xn") (g := "x") (k := "n") (by decide +kernel) (by decide +kernel)]
      unfold lrow
      rw [if_neg (ofS (by decide)), if_neg (by decide +kernel), if_neg (by decide +kernel), if_pos rfl]
      match ds, hne with
      | [], h => exact absurd rfl h
      | [_], _ => simp
      | [a, b], _ =>
        dsimp only
        rw [px, part_num]
        simp [nth1]
      | _ :: _ :: _ :: _, _ => simp
    · exact t2 (v := "xyy") (g := "x") (k := "y") (y := "y") (ofS (by decide)) (by decide +kernel) (by decide +kernel) (ofS (by decide)) (by decide +kernel) (by decide +kernel) (ofS (by decide)) (fun d => px) (fun d => py) fun d => py
    · exact t2 (v := "xyy") (g := "x") (k := "y") (y := "y") (ofS (by decide)) (by decide +kernel) (by decide +kernel) (ofS (by decide)) (by decide +kernel) (by decide +kernel) (ofS (by decide)) (fun d => px) (fun d => py) fun d => py
    · exact t2 (v := "xyy") (g := "x") (k := "y") (y := "y") (ofS (by decide)) (by decide +kernel) (by decide +kernel) (ofS (by decide)) (by decide +kernel) (by decide +kernel) (ofS (by decide)) (fun d => px) (fun d => py) fun d => py
    · rw [rY (v := "xkY") (g := "x") (k := "k") (by decide +kernel) (by decide +kernel) (l := s.kn) (by unfold tabOf; rw [if_pos rfl]) fun d => part_k]
      unfold lrow
      rw [if_neg (ofS (by decide)), if_neg (by decide +kernel), if_neg (by decide +kernel), if_neg (ofS (by decide)), if_neg (ofS (by decide)), if_neg (by decide +kernel), if_neg (ofS (by decide)), if_pos (by decide +kernel), if_pos rfl]
      match ds, hne with
      | [], h => exact absurd rfl h
      | [_], _ => simp [lawFits]
      | [_, _], _ => simp [lawFits]
      | [a, b, c], _ =>
        dsimp only
        rw [px, Bool.and_comm]
        rfl
      | _ :: _ :: _ :: _ :: _, _ => simp [lawFits]
    · exact t2 (v := "xyf") (g := "x") (k := "y") (y := "f") (ofS (by decide)) (by decide +kernel) (by decide +kernel) (ofS (by decide)) (by decide +kernel) (by decide +kernel) (ofS (by decide)) (fun d => px) (fun d => py) fun d => pf
    · rw [r1 (v := "o") (g := "o") (by decide +kernel) (by decide +kernel)]
      unfold lrow
      rw [if_pos rfl]
      match ds, hne with
      | [], h => exact absurd rfl h
      | [a], _ => dsimp only; rw [part_o]; simp [non0]
      | _ :: _ :: _, _ => simp
    · exact t1 (v := "y") (g := "y") (ofS (by decide)) (by decide +kernel) (by decide +kernel) (by decide +kernel) fun d => py
    · have nP : ¬ ((Str.ofString "p") = Str.ofString "k") := ofS (by decide)
      have nP2 : ¬ ((Str.ofString "p") = Str.ofString "t") := ofS (by decide)
      rw [rY (v := "opY") (g := "o") (k := "p") (by decide +kernel) (by decide +kernel) (l := s.pr) (by unfold tabOf; rw [if_neg nP, if_neg nP2, if_pos rfl]) fun d => part_p]
      unfold lrow
      rw [if_neg (ofS (by decide)), if_neg (by decide +kernel), if_neg (by decide +kernel), if_neg (ofS (by decide)), if_neg (ofS (by decide)), if_neg (by decide +kernel), if_neg (ofS (by decide)), if_neg (by decide +kernel), decide_eq_true rfl, Bool.true_and]
      match ds, hne with
      | [], h => exact absurd rfl h
      | [_], _ => simp [lawFits]
      | [_, _], _ => simp [lawFits]
      | [a, b, c], _ =>
        dsimp only
        rw [part_o, Bool.and_comm]
        rfl
      | _ :: _ :: _ :: _ :: _, _ => simp [lawFits]
    · exact t1 (v := "y") (g := "y") (ofS (by decide)) (by decide +kernel) (by decide +kernel) (by decide +kernel) fun d => py
    · rw [r1 (v := "r") (g := "r") (by decide +kernel) (by decide +kernel)]
      unfold lrow
      rw [if_neg (ofS (by decide)), if_neg (by decide +kernel), if_neg (by decide +kernel), if_neg (ofS (by decide)), if_pos rfl]
      match ds, hne with
      | [], h => exact absurd rfl h
      | [a], _ => dsimp only; rw [part_r]; simp
      | _ :: _ :: _, _ => simp
    · rw [r3 (v := "yyr") (g := "y") (k := "y") (y := "r") (by decide +kernel) (by decide +kernel) (ofS (by decide))]
      unfold lrow
      rw [if_neg (ofS (by decide)), if_neg (by decide +kernel), if_neg (by decide +kernel), if_neg (ofS (by decide)), if_neg (ofS (by decide)), if_pos (by decide +kernel)]
      match ds, hne with
      | [], h => exact absurd rfl h
      | [_], _ => simp
      | [_, _], _ => simp
      | [a, b, c], _ =>
        dsimp only
        rw [py, py, part_r]
        cases h8 : isName a <;> cases h9 : isName b <;> simp [h8, h9]
      | _ :: _ :: _ :: _ :: _, _ => simp
    · rw [r3 (v := "yyr") (g := "y") (k := "y") (y := "r") (by decide +kernel) (by decide +kernel) (ofS (by decide))]
      unfold lrow
      rw [if_neg (ofS (by decide)), if_neg (by decide +kernel), if_neg (by decide +kernel), if_neg (ofS (by decide)), if_neg (ofS (by decide)), if_pos (by decide +kernel)]
      match ds, hne with
      | [], h => exact absurd rfl h
      | [_], _ => simp
      | [_, _], _ => simp
      | [a, b, c], _ =>
        dsimp only
        rw [py, py, part_r]
        cases h8 : isName a <;> cases h9 : isName b <;> simp [h8, h9]
      | _ :: _ :: _ :: _ :: _, _ => simp
    · rw [r3 (v := "ywr") (g := "y") (k := "w") (y := "r") (by decide +kernel) (by decide +kernel) (ofS (by decide))]
      unfold lrow
      rw [if_neg (ofS (by decide)), if_neg (by decide +kernel), if_neg (by decide +kernel), if_neg (ofS (by decide)), if_neg (ofS (by decide)), if_neg (by decide +kernel), if_pos rfl]
      match ds, hne with
      | [], h => exact absurd rfl h
      | [_], _ => simp
      | [_, _], _ => simp
      | [a, b, c], _ =>
        dsimp only
        rw [py, part_w, part_r]
        have e : decide (strOf (nth1 [a, b, c]) ∈ s.kn.map (·.1) ++ barred) = (decide (strOf b ∈ barred) || has s.kn (strOf b)) := by
          unfold has
          show decide (strOf b ∈ _) = _
          by_cases h1 : strOf b ∈ s.kn.map (·.1) <;> by_cases h2 : strOf b ∈ barred <;> simp [h1, h2]
        rw [e]
        cases h8 : isName a <;> cases h9 : isName b <;> cases h10 : isCnt m c <;> simp [h8, h9, h10]
      | _ :: _ :: _ :: _ :: _, _ => simp
    · have nK : ¬ ((Str.ofString "t") = Str.ofString "k") := ofS (by decide)
      rw [rY (v := "xtY") (g := "x") (k := "t") (by decide +kernel) (by decide +kernel) (l := s.tm) (by unfold tabOf; rw [if_neg nK, if_pos rfl]) fun d => part_t]
      unfold lrow
      rw [if_neg (ofS (by decide)), if_neg (by decide +kernel), if_neg (by decide +kernel), if_neg (ofS (by decide)), if_neg (ofS (by decide)), if_neg (by decide +kernel), if_neg (ofS (by decide)), if_pos (by decide +kernel), if_neg (ofS (by decide))]
      match ds, hne with
      | [], h => exact absurd rfl h
      | [_], _ => simp [lawFits]
      | [_, _], _ => simp [lawFits]
      | [a, b, c], _ =>
        dsimp only
        rw [px, Bool.and_comm]
        rfl
      | _ :: _ :: _ :: _ :: _, _ => simp [lawFits]
  · rw [row_eq, hw]
    have ne : ∀ x, x ∈ SH.map (·.1) → w ≠ x := fun x hx e => by
      subst e
      have : ∀ x ∈ SH.map (·.1), (lookS SH x).isSome = true := by decide +kernel
      have := this _ hx
      rw [hw] at this
      cases this
    have n1 : w ∉ g1 := fun h => by
      have : ∀ x ∈ g1, x ∈ SH.map (·.1) := by decide +kernel
      exact ne w (this w h) rfl
    have n2 : w ∉ g2 := fun h => by
      have : ∀ x ∈ g2, x ∈ SH.map (·.1) := by decide +kernel
      exact ne w (this w h) rfl
    have n3 : w ∉ g3 := fun h => by
      have : ∀ x ∈ g3, x ∈ SH.map (·.1) := by decide +kernel
      exact ne w (this w h) rfl
    have n4 : w ∉ g4 := fun h => by
      have : ∀ x ∈ g4, x ∈ SH.map (·.1) := by decide +kernel
      exact ne w (this w h) rfl
    unfold lrow
    rw [if_neg (ne _ (by decide +kernel)), if_neg n1, if_neg n2, if_neg (ne _ (by decide +kernel)), if_neg (ne _ (by decide +kernel)), if_neg n3, if_neg (ne _ (by decide +kernel)), if_neg n4, decide_eq_false (ne _ (by decide +kernel))]
    rfl
end K05


namespace K05
open PySem L2 PyProof.Rows DL
def sp__law_is_name : SpD := fun ds S Q _ => ∃ d, ds = [d] ∧ Vk S d ∧ Q (.bl (isName d)) S
theorem ok__law_is_name {P : Program} {w : World} {K : PySem.W.Frag} {mg : Str → Option Value} {base : Heap} (T : Txt K w mg)  {ff : Addr} {fd : FuncData} (F : Fun K "_law_is_name" "_law_is_name" s__law_is_name ff fd) (mf : mg "_law_is_name" = some (.ref ff)) : Cal P w K mg base 1 "_law_is_name" s__law_is_name ["it"] sp__law_is_name := by
  refine ⟨ff, fd, okD F sc__law_is_name (fun ds S Q E h => ?len) (fun cdv A outer s H E ds S Q E' hcd hr h => ⟨_, (dss_cons (ds_if (dw_or (dt_not (dt_tr td_tru (de_isi (tn := "str") (by rfl) T.nb_isinstance (by rfl) T.nb_str (de_var 0)))) (dw_or (dt_cmp (od_eq hr) (de_callB cd_len (by rfl) T.nb_len (da_cons (de_var 0) da_nil)) de_int) (dw_or (dt_cmp od_gt (de_callB cd_len (by rfl) T.nb_len (da_cons (de_var 0) da_nil)) de_int) (dw_or1 (dt_cmp (od_notin hr) (de_ix (xd_ix hr) (de_var 0) de_int) de_str))))).pt (dss_one (ds_ret de_bl)) dss_nil)
      (dss_one (ds_ret (de_cmp (od_eq0 hr) (de_lc [("sign", 1)] rfl sc__law_is_name.nd (di_str (de_var 0)) (blkOk_by (N := ["it", "sign"]) (sc := defScope s__law_is_name) (by decide +kernel)) (fun _ _ _ _ _ => (pg_name (i := 1) sc__law_is_name.nd rfl (Or.inl rfl) (Or.inr rfl))) (fun N => (tg_name (vs := [1]) (i := 1) (by decide))) (fun _ _ _ _ _ => pts_one (dt_cmp (od_notin hr) (de_var 1) de_str)) (fun _ _ _ _ _ => (de_var 1))) (de_lf da_nil))))), ?run⟩), F.binds (ps := ["it"]) fun _ _ _ _ _ _ us hl => match us, hl with | [_], _ => rfl, mf, F⟩
  case len => obtain ⟨d, rfl, _⟩ := h; rfl
  case run =>
    obtain ⟨d, rfl, hd, q⟩ := h
    simp only [dVar, dC, dOp, dUn, dChain, dTr, dB, dAnd, dOr, dNot, dIf, dAndV, dOrV, dNotV, dNil, dCons, dTup, dLst, dLf, dNext, dSeq, dBreak, dCont, dDrop, dRet, dRetN, dIfS, gdName, gdNil, gdCons, gdTup, gdSub, dAsg, dPar, dCall, dCallK, dCB, dM0, dM, dGet1, dGet2, dDk, dDt, dPart, dNoPart, dSlice, dAug, dYes, dSort2, revD, iTupD, iLstD, iLf, iLw, iRange1, iRange2, iRange3, iEnumD, iZipD, iZipMD, iStrD, dGix, dDc, dIsi, dSortSet, dLenSet, dDlit, gdLst, dFor, dWhile, dLc, dLcM, dFld, dFldSet, dFldAdd, dMeth, dMake, dPar3, dDisp, dPrs, dFsi, dGget, dKgt, dKgtL, dCut, dTcut, wipeD, bodyE, startD, List.map_cons, List.map_nil, List.length_cons, List.length_nil, List.replicate_succ, List.replicate_zero, List.cons_append, List.nil_append, Nat.reduceAdd, Nat.reduceSub, Nat.zero_add, List.getElem?_cons_zero, List.getElem?_cons_succ, List.set_cons_zero, List.set_cons_succ, Option.some.injEq, exists_eq_left', exists_eq_left, if_true, sizeLine_eq, Nat.reduceLeDiff, Nat.reduceLT, Nat.zero_le, true_and, and_true, Bool.false_eq_true, if_false]
    obtain ⟨t, h1, _, h2, _⟩ := vk_ty hd
    refine ⟨t, h1, tru_b ?_⟩
    rw [h2]
    by_cases c : isS d = true
    rotate_left
    · have c : isS d = false := by simpa using c
      rw [nm_not c] at q
      rw [c]
      exact brT rfl (rt_of q)
    obtain ⟨z, rfl⟩ := s_of c
    obtain ⟨hs, hz⟩ := vk_str hd
    have q : Q (.bl (nmS z)) S := q
    unfold nmS at q
    refine brF rfl (len_s hz ⟨_, rfl, br2 (fun a => ?_) fun a => len_s hz (it_of trivial ⟨_, rfl, br2 (fun b => ?_) fun b => ?_⟩)⟩)
    · have a := of_xt a
      rw [decide_eq_false (p := 1 ≤ z.length) (by omega)] at q
      exact rt_of q
    · have b := of_decide_eq_true b
      rw [decide_eq_false (p := z.length ≤ 8) (by omega), Bool.and_false] at q
      exact rt_of q
    have a := of_xf a
    have b := of_decide_eq_false b
    rw [decide_eq_true (p := 1 ≤ z.length) (by omega), decide_eq_true (p := z.length ≤ 8) (by omega), Bool.true_and, Bool.true_and] at q
    obtain ⟨c0, r0, hc⟩ : ∃ c0 r0, z.cps.toList = c0 :: r0 := by
      cases e : z.cps.toList with
      | nil => have := len_cps z; rw [e] at this; simp at this; omega
      | cons x y => exact ⟨x, y, rfl⟩
    refine ix_tx (Nat.le_trans hz (by decide)) (i := 0) (by rw [hc]; exact at_0) ⟨c0, rfl, _, rfl, br2 (fun h => ?_) fun h => ⟨z, rfl, ?_⟩⟩
    · have h : ¬ c0 ∈ low := of_nxt h
      rw [hc] at q
      have e : firstLow (c0 :: r0) = false := decide_eq_false h
      rw [e] at q
      exact rt_of q
    · have h : c0 ∈ low := of_nxf h
      have e : firstLow z.cps.toList = true := by rw [hc]; exact decide_eq_true h
      rw [e, Bool.true_and] at q
      refine lc_fl (ds := DL.signs z) (fun d => !(match d with | .at (.str y) => sgn (y.cps.toList.headD 0) | _ => false)) (by unfold DL.signs; rw [List.length_map, ← len_cps]; omega) (fun W i x acc hx w1 w2 => ?_) ?_
      · unfold DL.signs at hx
        obtain ⟨c, _, rfl⟩ := map_at hx
        refine ⟨c, rfl, _, rfl, br2 (fun g => w1 ?_) fun g => w2 ?_⟩
        · show (!sgn c) = true
          rw [← sgn_of]
          rw [decide_eq_false (of_nxt g)]
          rfl
        · show (!sgn c) = false
          rw [← sgn_of]
          rw [decide_eq_true (of_nxf g)]
          rfl
      · refine e0_f ?_
        rw [Bool.false_xor, filt_nil]
        have e2 : (DL.signs z).all (fun d => match d with | .at (.str y) => sgn (y.cps.toList.headD 0) | _ => false) = z.cps.toList.all sgn := by
          unfold DL.signs
          rw [List.all_map]
          rfl
        rw [e2]
        exact rt_of q
def sp__law_are_names : SpD := fun ds S Q _ => ∃ d, ds = [d] ∧ Vk S d ∧ Q (.bl (areNames d)) S
theorem ok__law_are_names {P : Program} {w : World} {K : PySem.W.Frag} {mg : Str → Option Value} {base : Heap} (T : Txt K w mg) (C__law_is_name : Cal P w K mg base 1 "_law_is_name" s__law_is_name ["it"] sp__law_is_name) {ff : Addr} {fd : FuncData} (F : Fun K "_law_are_names" "_law_are_names" s__law_are_names ff fd) (mf : mg "_law_are_names" = some (.ref ff)) : Cal P w K mg base 2 "_law_are_names" s__law_are_names ["it"] sp__law_are_names := by
  refine ⟨ff, fd, okD F sc__law_are_names (fun ds S Q E h => ?len) (fun cdv A outer s H E ds S Q E' hcd hr h => ⟨_, (dss_one (ds_ret (de_and (de_isi (tn := "tuple") (by rfl) T.nb_isinstance (by rfl) T.nb_tuple (de_var 0)) (de_one (de_cmp (od_eq0 hr) (de_lc [("one", 1)] rfl sc__law_are_names.nd (di_tup (de_var 0)) (blkOk_by (N := ["it", "one"]) (sc := defScope s__law_are_names) (by decide +kernel)) (fun _ _ _ _ _ => (pg_name (i := 1) sc__law_are_names.nd rfl (Or.inl rfl) (Or.inr rfl))) (fun N => (tg_name (vs := [1]) (i := 1) (by decide))) (fun _ _ _ _ _ => pts_one (dt_not (dt_tr td_tru (de_c C__law_is_name hr (da_cons (de_var 1) da_nil))))) (fun _ _ _ _ _ => (de_var 1))) (de_lf da_nil)))))), ?run⟩), F.binds (ps := ["it"]) fun _ _ _ _ _ _ us hl => match us, hl with | [_], _ => rfl, mf, F⟩
  case len => obtain ⟨d, rfl, _⟩ := h; rfl
  case run =>
    obtain ⟨d, rfl, hd, q⟩ := h
    simp only [dVar, dC, dOp, dUn, dChain, dTr, dB, dAnd, dOr, dNot, dIf, dAndV, dOrV, dNotV, dNil, dCons, dTup, dLst, dLf, dNext, dSeq, dBreak, dCont, dDrop, dRet, dRetN, dIfS, gdName, gdNil, gdCons, gdTup, gdSub, dAsg, dPar, dCall, dCallK, dCB, dM0, dM, dGet1, dGet2, dDk, dDt, dPart, dNoPart, dSlice, dAug, dYes, dSort2, revD, iTupD, iLstD, iLf, iLw, iRange1, iRange2, iRange3, iEnumD, iZipD, iZipMD, iStrD, dGix, dDc, dIsi, dSortSet, dLenSet, dDlit, gdLst, dFor, dWhile, dLc, dLcM, dFld, dFldSet, dFldAdd, dMeth, dMake, dPar3, dDisp, dPrs, dFsi, dGget, dKgt, dKgtL, dCut, dTcut, wipeD, bodyE, startD, List.map_cons, List.map_nil, List.length_cons, List.length_nil, List.replicate_succ, List.replicate_zero, List.cons_append, List.nil_append, Nat.reduceAdd, Nat.reduceSub, Nat.zero_add, List.getElem?_cons_zero, List.getElem?_cons_succ, List.set_cons_zero, List.set_cons_succ, Option.some.injEq, exists_eq_left', exists_eq_left, if_true, sizeLine_eq, Nat.reduceLeDiff, Nat.reduceLT, Nat.zero_le, true_and, and_true, Bool.false_eq_true, if_false]
    obtain ⟨t, h1, h2, _⟩ := vk_ty hd
    refine ⟨t, h1, _, rfl, ?_⟩
    rw [h2]
    by_cases c : isTp d = true
    · obtain ⟨xs, rfl⟩ := tp_of c
      obtain ⟨hl, hv⟩ := vk_tup hd
      refine brT c ⟨xs, .inl rfl, lc_fl (fun d => !isName d) hl (fun W i x acc hx w1 w2 => ⟨x, rfl, hv x (List.mem_of_getElem? hx), tru_b (br2 (fun g => w1 g) fun g => w2 g)⟩) (e0_f ?_)⟩
      rw [Bool.false_xor, filt_nil]
      exact rt_of q
    · have c : isTp d = false := by simpa using c
      rw [an_no c] at q
      exact brF c (rt_of q)
def sp__law_is_count : SpD := fun ds S Q _ => ∃ (d : D) (m : Int), ds = [d, .int m] ∧ Vk S d ∧ Q (.bl (isCnt m d)) S
theorem ok__law_is_count {P : Program} {w : World} {K : PySem.W.Frag} {mg : Str → Option Value} {base : Heap} (T : Txt K w mg)  {ff : Addr} {fd : FuncData} (F : Fun K "_law_is_count" "_law_is_count" s__law_is_count ff fd) (mf : mg "_law_is_count" = some (.ref ff)) : Cal P w K mg base 1 "_law_is_count" s__law_is_count ["it", "most"] sp__law_is_count := by
  refine ⟨ff, fd, okD F sc__law_is_count (fun ds S Q E h => ?len) (fun cdv A outer s H E ds S Q E' hcd hr h => ⟨_, (dss_one (ds_ret (de_and (de_isi (tn := "int") (by rfl) T.nb_isinstance (by rfl) T.nb_int (de_var 0)) (de_and (de_not (de_isi (tn := "bool") (by rfl) T.nb_isinstance (by rfl) T.nb_bool (de_var 0))) (de_and (de_cmp od_ge (de_var 0) de_int) (de_one (de_cmp od_le (de_var 0) (de_var 1)))))))), ?run⟩), F.binds (ps := ["it", "most"]) fun _ _ _ _ _ _ us hl => match us, hl with | [_, _], _ => rfl, mf, F⟩
  case len => obtain ⟨d, m, rfl, _⟩ := h; rfl
  case run =>
    obtain ⟨d, m, rfl, hd, q⟩ := h
    simp only [dVar, dC, dOp, dUn, dChain, dTr, dB, dAnd, dOr, dNot, dIf, dAndV, dOrV, dNotV, dNil, dCons, dTup, dLst, dLf, dNext, dSeq, dBreak, dCont, dDrop, dRet, dRetN, dIfS, gdName, gdNil, gdCons, gdTup, gdSub, dAsg, dPar, dCall, dCallK, dCB, dM0, dM, dGet1, dGet2, dDk, dDt, dPart, dNoPart, dSlice, dAug, dYes, dSort2, revD, iTupD, iLstD, iLf, iLw, iRange1, iRange2, iRange3, iEnumD, iZipD, iZipMD, iStrD, dGix, dDc, dIsi, dSortSet, dLenSet, dDlit, gdLst, dFor, dWhile, dLc, dLcM, dFld, dFldSet, dFldAdd, dMeth, dMake, dPar3, dDisp, dPrs, dFsi, dGget, dKgt, dKgtL, dCut, dTcut, wipeD, bodyE, startD, List.map_cons, List.map_nil, List.length_cons, List.length_nil, List.replicate_succ, List.replicate_zero, List.cons_append, List.nil_append, Nat.reduceAdd, Nat.reduceSub, Nat.zero_add, List.getElem?_cons_zero, List.getElem?_cons_succ, List.set_cons_zero, List.set_cons_succ, Option.some.injEq, exists_eq_left', exists_eq_left, if_true, sizeLine_eq, Nat.reduceLeDiff, Nat.reduceLT, Nat.zero_le, true_and, and_true, Bool.false_eq_true, if_false]
    obtain ⟨t, h1, _, _, h3, h4⟩ := vk_ty hd
    refine ⟨t, h1, _, rfl, ?_⟩
    rw [h3]
    by_cases c : isI d = true
    · obtain ⟨i, rfl⟩ := i_of c
      refine brT rfl ⟨t, h1, _, rfl, _, rfl, ?_⟩
      rw [h4]
      rw [cnt_i] at q
      refine brT rfl (it_of trivial ⟨_, rfl, br2 (fun g => it_of trivial ?_) fun g => ?_⟩)
      · have g := of_decide_eq_true g
        rw [decide_eq_true g, Bool.true_and] at q
        exact rt_of q
      · have g := of_decide_eq_false g
        rw [decide_eq_false g] at q
        exact rt_of q
    · have c : isI d = false := by simpa using c
      have e : isCnt m d = false := by
        unfold isCnt
        split
        · cases c
        · rfl
      rw [e] at q
      rw [c, Bool.false_or]
      refine br2 (fun g => ⟨t, h1, _, rfl, _, rfl, ?_⟩) fun g => rt_of q
      rw [h4, g]
      exact brF rfl (rt_of q)
def sp__law_fits : SpD := fun ds S Q _ => ∃ (xs : List D) (a : Addr) (l : List (Str × Nat)), ds = [.tup xs, .ref a] ∧ Vk S (.tup xs) ∧ S a = some (tabD l) ∧ Q (.bl (lawFits l xs)) S
theorem ok__law_fits {P : Program} {w : World} {K : PySem.W.Frag} {mg : Str → Option Value} {base : Heap} (T : Txt K w mg) (C__law_is_name : Cal P w K mg base 1 "_law_is_name" s__law_is_name ["it"] sp__law_is_name) (C__law_are_names : Cal P w K mg base 2 "_law_are_names" s__law_are_names ["it"] sp__law_are_names) {ff : Addr} {fd : FuncData} (F : Fun K "_law_fits" "_law_fits" s__law_fits ff fd) (mf : mg "_law_fits" = some (.ref ff)) : Cal P w K mg base 3 "_law_fits" s__law_fits ["row", "named"] sp__law_fits := by
  refine ⟨ff, fd, okD F sc__law_fits (fun ds S Q E h => ?len) (fun cdv A outer s H E ds S Q E' hcd hr h => ⟨_, (dss_cons (ds_if (dw_or (dt_cmp (od_ne hr) (de_callB cd_len (by rfl) T.nb_len (da_cons (de_var 0) da_nil)) de_int) (dw_or (dt_not (dt_tr td_tru (de_c C__law_is_name hr (da_cons (de_ix (xd_ix hr) (de_var 0) de_int) da_nil)))) (dw_or1 (dt_not (dt_tr td_tru (de_c C__law_are_names hr (da_cons (de_ix (xd_ix hr) (de_var 0) de_int) da_nil))))))).pt (dss_one (ds_ret de_bl)) dss_nil)
      (dss_one (ds_ret (de_and (de_cmp (od_in hr) (de_ix (xd_ix hr) (de_var 0) de_int) (de_var 1)) (de_one (de_cmp (od_eq hr) (de_callB cd_len (by rfl) T.nb_len (da_cons (de_ix (xd_ix hr) (de_var 0) de_int) da_nil)) (de_ix (xd_ix hr) (de_var 1) (de_ix (xd_ix hr) (de_var 0) de_int)))))))), ?run⟩), F.binds (ps := ["row", "named"]) fun _ _ _ _ _ _ us hl => match us, hl with | [_, _], _ => rfl, mf, F⟩
  case len => obtain ⟨xs, a, l, rfl, _⟩ := h; rfl
  case run =>
    obtain ⟨xs, a, l, rfl, hd, hs, q⟩ := h
    simp only [dVar, dC, dOp, dUn, dChain, dTr, dB, dAnd, dOr, dNot, dIf, dAndV, dOrV, dNotV, dNil, dCons, dTup, dLst, dLf, dNext, dSeq, dBreak, dCont, dDrop, dRet, dRetN, dIfS, gdName, gdNil, gdCons, gdTup, gdSub, dAsg, dPar, dCall, dCallK, dCB, dM0, dM, dGet1, dGet2, dDk, dDt, dPart, dNoPart, dSlice, dAug, dYes, dSort2, revD, iTupD, iLstD, iLf, iLw, iRange1, iRange2, iRange3, iEnumD, iZipD, iZipMD, iStrD, dGix, dDc, dIsi, dSortSet, dLenSet, dDlit, gdLst, dFor, dWhile, dLc, dLcM, dFld, dFldSet, dFldAdd, dMeth, dMake, dPar3, dDisp, dPrs, dFsi, dGget, dKgt, dKgtL, dCut, dTcut, wipeD, bodyE, startD, List.map_cons, List.map_nil, List.length_cons, List.length_nil, List.replicate_succ, List.replicate_zero, List.cons_append, List.nil_append, Nat.reduceAdd, Nat.reduceSub, Nat.zero_add, List.getElem?_cons_zero, List.getElem?_cons_succ, List.set_cons_zero, List.set_cons_succ, Option.some.injEq, exists_eq_left', exists_eq_left, if_true, sizeLine_eq, Nat.reduceLeDiff, Nat.reduceLT, Nat.zero_le, true_and, and_true, Bool.false_eq_true, if_false]
    obtain ⟨hl, hv⟩ := vk_tup hd
    refine len_sq rfl ⟨_, rfl, br2 (fun g => ?_) fun g => ?_⟩
    · have g := of_nxt g
      have e : lawFits l xs = false := by
        match xs, g with
        | [], _ => rfl
        | [_], _ => rfl
        | [_, _], _ => rfl
        | [_, _, _], _ => rfl
        | [_, _, _, _], g => exact absurd rfl g
        | _ :: _ :: _ :: _ :: _ :: _, _ => rfl
      rw [e] at q
      exact rt_of q
    have g := of_nxf g
    obtain ⟨x0, x1, n, y, rfl⟩ : ∃ x0 x1 n y, xs = [x0, x1, n, y] := by
      match xs, (show xs.length = 4 by omega) with
      | [x0, x1, n, y], _ => exact ⟨x0, x1, n, y, rfl⟩
    have q : Q (.bl (isName n && areNames y && decide (ar l (strOf n) = some (lenOf y)))) S := q
    refine ix_sq rfl rfl (at_n (i := 2) rfl) ⟨n, rfl, hv _ (by simp), tru_b (br2 (fun a => ?_) fun a => ?_)⟩
    · have a : isName n = false := by simpa using a
      rw [a] at q
      exact rt_of q
    have a : isName n = true := by simpa using a
    obtain ⟨z, rfl, _⟩ := nm_str a
    rw [a, Bool.true_and] at q
    refine ix_sq rfl rfl (at_n (i := 3) rfl) ⟨y, rfl, hv _ (by simp), tru_b (br2 (fun b => ?_) fun b => ?_)⟩
    · have b : areNames y = false := by simpa using b
      rw [b] at q
      exact rt_of q
    have b : areNames y = true := by simpa using b
    obtain ⟨ys, rfl, _⟩ := an_tup b
    rw [b, Bool.true_and] at q
    have q : Q (.bl (decide (ar l z = some ys.length))) S := q
    refine ix_sq rfl rfl (at_n (i := 2) rfl) (in_tab hs ⟨_, rfl, br2 (fun f => ?_) fun f => ?_⟩)
    · rw [Bool.false_xor, has_ar] at f
      obtain ⟨k, hk⟩ := Option.isSome_iff_exists.mp f
      rw [hk] at q
      refine ix_sq rfl rfl (at_n (i := 3) rfl) (len_sq rfl (ix_sq rfl rfl (at_n (i := 2) rfl) (ix_at (d := .int (k : Nat)) (by rw [at_dk hs rfl, val_tab, hk]; rfl) (rt_of ?_))))
      rw [Bool.false_xor]
      have e : decide (((ys.length : Nat) : Int) = ((k : Nat) : Int)) = decide (some k = some ys.length) := decide_eq_decide.mpr ⟨fun h => by congr 1; omega, fun h => by have := Option.some.inj h; omega⟩
      rw [e]
      exact q
    · rw [Bool.false_xor, has_ar] at f
      have e : ar l z = none := by
        cases h : ar l z with
        | none => rfl
        | some k => rw [h] at f; cases f
      rw [e] at q
      exact rt_of q
theorem eqv_bls : ∀ bs cs : List Bool, PyData.eqvAll (toPys (bs.map D.bl)) (toPys (cs.map D.bl)) = decide (bs = cs)
  | [], [] => by simp [toPys, PyData.eqvAll]
  | [], c :: cs => by simp [toPys, PyData.eqvAll]
  | b :: bs, [] => by simp [toPys, PyData.eqvAll]
  | b :: bs, c :: cs => by
    have ih := eqv_bls bs cs
    rw [List.map_cons, List.map_cons]
    unfold toPys
    unfold toPy
    simp only [PyData.eqvAll, PyData.eqv, ih]
    cases b <;> cases c <;> simp
theorem eq_bls {neg : Bool} {bs cs : List Bool} {S : Sto} {Q : KD} (q : Q (.bl (xor neg (decide (bs = cs)))) S) : eqD neg (.fl (bs.map D.bl)) (.fl (cs.map D.bl)) S Q := by
  have cm : ∀ l : List Bool, Cm 1 (.fl (l.map D.bl)) := fun l => Cm.fl (k := 0) fun d hd => by
    obtain ⟨b, _, rfl⟩ := List.mem_map.mp hd
    exact Cm.bl
  refine ceq_of (cm bs) (cm cs) ?_ (fun u e => nomatch e)
  have e : PyData.eqv (toPy (.fl (bs.map D.bl))) (toPy (.fl (cs.map D.bl))) = decide (bs = cs) := by
    unfold toPy
    simp only [PyData.eqv]
    exact eqv_bls bs cs
  rw [e]
  exact q
theorem in_ws {neg : Bool} {ws : List Str} {w : Str} {y : D} {S : Sto} {Q : KD} (hy : sqOf S y = some (ws.map D.str)) (hn : ∀ z, y ≠ .str z) (hw : PyData.strOk w = true) (hs : ∀ x ∈ ws, PyData.strOk x = true) (q : Q (.bl (xor neg (decide (w ∈ ws)))) S) : inD neg (.str w) y S Q := by
  have hm : ∃ m, ∀ x ∈ ws, x.length ≤ m := by
    clear q hs hy
    induction ws with
    | nil => exact ⟨0, fun x hx => by cases hx⟩
    | cons z zs ih =>
      obtain ⟨m, hm⟩ := ih
      exact ⟨max z.length m, fun x hx => by
        rcases List.mem_cons.mp hx with e | h
        · rw [e]; omega
        · have := hm x h; omega⟩
  obtain ⟨m, hm⟩ := hm
  exact in_of (k := 1) (w := w.length) (k' := 1) (w' := m) (Sm.str hw (Nat.le_refl _)) hy (fun d hd => by
    obtain ⟨x, hx, rfl⟩ := List.mem_map.mp hd
    exact Sm.str (hs x hx) (hm x hx)) (by decide) (by decide) hn (by rw [any_str]; exact q)
theorem ok1 : ∀ x ∈ g1, PyData.strOk x = true := by decide +kernel
theorem ok2 : ∀ x ∈ g2, PyData.strOk x = true := by decide +kernel
theorem ok3 : ∀ x ∈ g3, PyData.strOk x = true := by decide +kernel
theorem ok5 : ∀ x ∈ g4, PyData.strOk x = true := by decide +kernel
theorem ok4 : ∀ x ∈ barred, PyData.strOk x = true := by decide +kernel
theorem get_last {x y : D} {r : List D} : (x :: y :: r)[(x :: y :: r).length - 1]? = some ((y :: r).getLastD .non) := by
  have : (x :: y :: r).length - 1 = (y :: r).length := by simp
  rw [this]
  rw [List.getElem?_eq_getElem (by simp)]
  congr 1
  have : (x :: y :: r)[(y :: r).length]'(by simp) = (y :: r).getLast (by simp) := by
    rw [List.getLast_eq_getElem]
    simp
  rw [this]
  simp [List.getLastD]
theorem cut2 (l : List D) : cutD l none (some 2) = l.take 2 := cut_take l 2
theorem rep_bl : ∀ n : Nat, (List.replicate n [D.bl true]).flatten = (List.replicate n true).map D.bl
  | 0 => rfl
  | n + 1 => by rw [List.replicate_succ, List.flatten_cons, rep_bl n, List.replicate_succ, List.map_cons]; rfl
theorem last_mem {y : D} {r : List D} : (y :: r).getLastD .non ∈ y :: r := by
  have : (y :: r).getLastD .non = (y :: r).getLast (by simp) := by simp [List.getLastD]
  rw [this]
  exact List.getLast_mem _
/-- the law's three tables -/
def KnOk (S : Sto) (p : Addr) (s : Sz) : Prop := ∃ a c b, S p = some (.lst [.ref a, .ref c, .ref b]) ∧ S a = some (tabD s.kn) ∧ S c = some (tabD s.pr) ∧ S b = some (tabD s.tm)
def sp__law_is_row : SpD := fun ds S Q _ => ∃ (d : D) (p : Addr) (s : Sz) (m : Int), ds = [d, .ref p, .int m] ∧ Vk S d ∧ KnOk S p s ∧ s.kn.length ≤ 100 ∧ (∀ q ∈ s.kn, PyData.strOk q.1 = true) ∧ Q (.bl (rowOk s m d)) S
theorem ok__law_is_row {P : Program} {w : World} {K : PySem.W.Frag} {mg : Str → Option Value} {base : Heap} (T : Txt K w mg) (C__law_is_count : Cal P w K mg base 1 "_law_is_count" s__law_is_count ["it", "most"] sp__law_is_count) (C__law_fits : Cal P w K mg base 3 "_law_fits" s__law_fits ["row", "named"] sp__law_fits) (C__law_is_name : Cal P w K mg base 1 "_law_is_name" s__law_is_name ["it"] sp__law_is_name) {ff : Addr} {fd : FuncData} (F : Fun K "_law_is_row" "_law_is_row" s__law_is_row ff fd) (mf : mg "_law_is_row" = some (.ref ff)) : Cal P w K mg base 4 "_law_is_row" s__law_is_row ["row", "known", "many"] sp__law_is_row := by
  refine ⟨ff, fd, okD F sc__law_is_row (fun ds S Q E h => ?len) (fun cdv A outer s H E ds S Q E' hcd hr h => ⟨_, (dss_cons (ds_if (dw_or (dt_not (dt_tr td_tru (de_isi (tn := "tuple") (by rfl) T.nb_isinstance (by rfl) T.nb_tuple (de_var 0)))) (dw_or (dt_cmp od_lt (de_callB cd_len (by rfl) T.nb_len (da_cons (de_var 0) da_nil)) de_int) (dw_or1 (dt_not (dt_tr td_tru (de_isi (tn := "str") (by rfl) T.nb_isinstance (by rfl) T.nb_str (de_ix (xd_ix hr) (de_var 0) de_int))))))).pt (dss_one (ds_ret de_bl)) dss_nil)
      (dss_cons (ds_par 3 4 rfl sc__law_is_row.nd (da_cons (de_ix (xd_ix hr) (de_var 0) de_int) (da_cons (de_lc [("part", 5)] rfl sc__law_is_row.nd (di_tup (de_slice (xd_slice false) (de_var 0) (do_some de_int) do_none)) (blkOk_by (N := ["row", "known", "many", "word", "names", "part", "to"]) (sc := defScope s__law_is_row) (by decide +kernel)) (fun _ _ _ _ _ => (pg_name (i := 5) sc__law_is_row.nd rfl (Or.inl rfl) (Or.inr rfl))) (fun N => (tg_name (vs := [5]) (i := 5) (by decide))) (fun _ _ _ _ _ => dts_nil) (fun _ _ _ _ _ => (de_c C__law_is_name hr (da_cons (de_var 5) da_nil)))) da_nil)))
      (dss_cons (ds_set 6 sc__law_is_row.nd (de_c C__law_is_count hr (da_cons (de_ix (xd_ix hr) (de_var 0) (de_un ud_neg de_int)) (da_cons (de_var 2) da_nil))))
      (dss_cons (ds_if (dt_cmp (od_eq hr) (de_var 3) de_str) (dss_one (ds_ret (de_and (de_cmp (od_eq hr) (de_callB cd_len (by rfl) T.nb_len (da_cons (de_var 0) da_nil)) de_int) (de_one (de_or (de_cmp od_is (de_ix (xd_ix hr) (de_var 0) de_int) de_non) (de_one (de_ix (xd_ix hr) (de_var 4) de_int))))))) dss_nil)
      (dss_cons (ds_if (dt_cmp (od_in hr) (de_var 3) (de_tup (da_cons de_str (da_cons de_str (da_cons de_str da_nil))))) (dss_one (ds_ret (de_cmp (od_eq hr) (de_var 4) (de_lf (da_cons de_bl da_nil))))) dss_nil)
      (dss_cons (ds_if (dt_cmp (od_in hr) (de_var 3) (de_tup (da_cons de_str (da_cons de_str (da_cons de_str (da_cons de_str (da_cons de_str da_nil))))))) (dss_one (ds_ret (de_cmp (od_eq hr) (de_var 4) (de_op od_mulL (de_lst (da_cons de_bl da_nil)) (de_get2 hr (de_dlit [(.inr "copy", .int 2)] (pps_cons pe_str pe_int pps_nil)) (de_var 3) de_int ⟨rfl, rfl, rfl, rfl⟩))))) dss_nil)
      (dss_cons (ds_if (dt_cmp (od_eq hr) (de_var 3) de_str) (dss_one (ds_ret (de_and (de_cmp (od_eq hr) (de_callB cd_len (by rfl) T.nb_len (da_cons (de_var 0) da_nil)) de_int) (de_and (de_ix (xd_ix hr) (de_var 4) de_int) (de_one (de_c C__law_is_count hr (da_cons (de_ix (xd_ix hr) (de_var 0) de_int) (da_cons de_int da_nil)))))))) dss_nil)
      (dss_cons (ds_if (dt_cmp (od_eq hr) (de_var 3) de_str) (dss_one (ds_ret (de_and (de_cmp (od_eq hr) (de_callB cd_len (by rfl) T.nb_len (da_cons (de_var 0) da_nil)) de_int) (de_one (de_var 6))))) dss_nil)
      (dss_cons (ds_if (dt_cmp (od_in hr) (de_var 3) (de_tup (da_cons de_str (da_cons de_str da_nil)))) (dss_one (ds_ret (de_and (de_cmp (od_eq hr) (de_callB cd_len (by rfl) T.nb_len (da_cons (de_var 0) da_nil)) de_int) (de_and (de_cmp (od_eq hr) (de_slice (xd_slice false) (de_var 4) do_none (do_some de_int)) (de_lf (da_cons de_bl (da_cons de_bl da_nil)))) (de_one (de_var 6)))))) dss_nil)
      (dss_cons (ds_if (dt_cmp (od_eq hr) (de_var 3) de_str) (dss_cons (ds_if (dw_or (dt_cmp (od_ne hr) (de_callB cd_len (by rfl) T.nb_len (da_cons (de_var 0) da_nil)) de_int) (dw_or1 (dt_cmp (od_ne hr) (de_slice (xd_slice false) (de_var 4) do_none (do_some de_int)) (de_lf (da_cons de_bl (da_cons de_bl da_nil)))))).pt (dss_one (ds_ret de_bl)) dss_nil)
      (dss_one (ds_ret (de_and (de_var 6) (de_one (de_cmp (od_in hr) (de_ix (xd_ix hr) (de_var 0) de_int) (de_op (od_add false) (de_callTy (cd_listDk rfl) (by rfl) T.nb_list (da_cons (de_ix (xd_ix hr) (de_var 1) de_int) da_nil)) (de_lf (da_cons de_str (da_cons de_str da_nil)))))))))) dss_nil)
      (dss_cons (ds_if (dt_cmp (od_in hr) (de_var 3) (de_tup (da_cons de_str (da_cons de_str da_nil)))) (dss_one (ds_ret (de_and (de_c C__law_fits hr (da_cons (de_var 0) (da_cons (de_ix (xd_ix hr) (de_var 1) (de_m PySem.F.plainAttrs_list PySem.F.slot_list_index PySem.F.type_list_index md_index (de_lf (da_cons de_str (da_cons de_str (da_cons de_str da_nil)))) (da_cons (de_var 3) da_nil))) da_nil))) (de_one (de_ix (xd_ix hr) (de_var 4) de_int))))) dss_nil)
      (dss_one (ds_ret (de_and (de_cmp (od_eq hr) (de_var 3) de_str) (de_and (de_c C__law_fits hr (da_cons (de_var 0) (da_cons (de_ix (xd_ix hr) (de_var 1) de_int) da_nil))) (de_one (de_or (de_cmp od_is (de_ix (xd_ix hr) (de_var 0) de_int) de_non) (de_one (de_ix (xd_ix hr) (de_var 4) de_int))))))))))))))))))), ?run⟩), F.binds (ps := ["row", "known", "many"]) fun _ _ _ _ _ _ us hl => match us, hl with | [_, _, _], _ => rfl, mf, F⟩
  case len => obtain ⟨d, p, s, m, rfl, _⟩ := h; rfl
  case run =>
    obtain ⟨d, kp, s, m, rfl, hd, ⟨a, c, b, hkp, ha, hc, hb⟩, hkl, hks, q⟩ := h
    simp only [dVar, dC, dOp, dUn, dChain, dTr, dB, dAnd, dOr, dNot, dIf, dAndV, dOrV, dNotV, dNil, dCons, dTup, dLst, dLf, dNext, dSeq, dBreak, dCont, dDrop, dRet, dRetN, dIfS, gdName, gdNil, gdCons, gdTup, gdSub, dAsg, dPar, dCall, dCallK, dCB, dM0, dM, dGet1, dGet2, dDk, dDt, dPart, dNoPart, dSlice, dAug, dYes, dSort2, revD, iTupD, iLstD, iLf, iLw, iRange1, iRange2, iRange3, iEnumD, iZipD, iZipMD, iStrD, dGix, dDc, dIsi, dSortSet, dLenSet, dDlit, gdLst, dFor, dWhile, dLc, dLcM, dFld, dFldSet, dFldAdd, dMeth, dMake, dPar3, dDisp, dPrs, dFsi, dGget, dKgt, dKgtL, dCut, dTcut, wipeD, bodyE, startD, List.map_cons, List.map_nil, List.length_cons, List.length_nil, List.replicate_succ, List.replicate_zero, List.cons_append, List.nil_append, Nat.reduceAdd, Nat.reduceSub, Nat.zero_add, List.getElem?_cons_zero, List.getElem?_cons_succ, List.set_cons_zero, List.set_cons_succ, Option.some.injEq, exists_eq_left', exists_eq_left, if_true, sizeLine_eq, Nat.reduceLeDiff, Nat.reduceLT, Nat.zero_le, true_and, and_true, Bool.false_eq_true, if_false]
    obtain ⟨t, h1, h2, _⟩ := vk_ty hd
    refine ⟨t, h1, tru_b ?_⟩
    rw [h2]
    by_cases cc : isTp d = true
    rotate_left
    · have cc : isTp d = false := by simpa using cc
      have e : rowOk s m d = false := by
        unfold rowOk
        split
        · cases cc
        · rfl
      rw [e] at q
      rw [cc]
      exact brT rfl (rt_of q)
    obtain ⟨xs, rfl⟩ := tp_of cc
    obtain ⟨hl, hv⟩ := vk_tup hd
    refine brF rfl (len_sq rfl (show ltD (.int xs.length) (.int 2) S _ from ⟨_, rfl, br2 (fun g => ?_) fun g => ?_⟩))
    · have g := of_decide_eq_true g
      have e : rowOk s m (.tup xs) = false := by
        match xs, g with
        | [], _ => rfl
        | [x], _ =>
          unfold rowOk
          split
          · rename_i w ds' e'
            cases e'
            cases hz : lookS SH w with
            | none => rfl
            | some v =>
              have := sh_mem hz
              dsimp only
              have e2 : (sgs v).length ≠ ([] : List D).length := by
                have all : ∀ v ∈ shapes, (sgs v).length ≠ 0 := by decide +kernel
                exact all v this
              rw [parts_len e2]; rfl
          · rfl
        | _ :: _ :: _, g => simp only [List.length_cons] at g; omega
      rw [e] at q
      exact rt_of q
    have g := of_decide_eq_false g
    obtain ⟨x, y, r, rfl⟩ : ∃ x y r, xs = x :: y :: r := by
      match xs, g with
      | [], g => simp at g
      | [_], g => simp at g
      | x :: y :: r, _ => exact ⟨x, y, r, rfl⟩
    have hx := hv x (by simp)
    obtain ⟨t2, j1, _, j2, _⟩ := vk_ty hx
    refine ix_sq rfl rfl at_0 ⟨t2, j1, tru_b ?_⟩
    rw [j2]
    by_cases c2 : isS x = true
    rotate_left
    · have c2 : isS x = false := by simpa using c2
      have e : rowOk s m (.tup (x :: y :: r)) = false := by
        unfold rowOk
        split
        · rename_i w ds' e'
          cases e'
          cases c2
        · rfl
      rw [e] at q
      rw [c2]
      exact brT rfl (rt_of q)
    obtain ⟨w, rfl⟩ := s_of c2
    have hw := (vk_str hx).1
    rw [← lrow_eq (List.cons_ne_nil y r)] at q
    unfold lrow at q
    refine brF rfl (ix_sq rfl rfl at_0 ⟨1, rfl, sl_t ?_⟩)
    rw [cut_1]
    have hl : (y :: r).length ≤ 1000 := by simp only [List.length_cons] at hl ⊢; omega
    refine ⟨_, .inl rfl, lc_mp (fun d => .bl (isName d)) hl (fun W i z acc hz wz => ⟨z, rfl, hv z (List.mem_cons_of_mem _ (List.mem_of_getElem? hz)), wz⟩) ?_⟩
    generalize hds : y :: r = ds at hv hl q hd
    have eb : (ds.map fun d => D.bl (isName d)) = (ds.map isName).map D.bl := by rw [List.map_map]; rfl
    rw [eb]
    have lz : (D.str w :: ds).length = ds.length + 1 := by simp
    have l1 : ∀ k : Int, decide ((((D.str w :: ds).length : Nat) : Int) = k + 1) = decide ((ds.length : Int) = k) := fun k => decide_eq_decide.mpr (by rw [lz]; omega)
    refine ⟨_, _, rfl, ng (ix_sq rfl rfl (i := -1) (at_last (by rw [← hds]; exact get_last)) ⟨ds.getLastD .non, m, rfl, hv _ (List.mem_cons_of_mem _ (by rw [← hds]; exact last_mem)), ?_⟩)⟩
    refine ⟨_, rfl, br2 (fun h => ?_) fun h => ?_⟩
    · rw [if_pos (of_xt h)] at q
      refine len_sq rfl ⟨_, rfl, br2 (fun f => ?_) fun f => ?_⟩
      · have f := of_xt f
        have f1 : ds.length = 1 := by rw [lz] at f; omega
        rw [decide_eq_true f1, Bool.true_and] at q
        subst hds
        refine ix_sq rfl rfl (at_n (i := 1) rfl) ⟨rfl, _, rfl, br2 (fun j => ?_) fun j => ?_⟩
        · have q : Q (.bl (decide (y = .non) || isName y)) S := q
          rw [decide_eq_true (of_xt j)] at q
          exact rt_of q
        · have q : Q (.bl (decide (y = .non) || isName y)) S := q
          rw [decide_eq_false (of_xf j), Bool.false_or] at q
          exact ix_sq rfl rfl at_0 (rt_of q)
      · have f := of_xf f
        have f1 : ¬ ds.length = 1 := by rw [lz] at f; omega
        rw [decide_eq_false f1] at q
        exact rt_of q
    rw [if_neg (of_xf h)] at q
    refine in_ws (ws := g1) rfl (fun z e => nomatch e) hw ok1 ⟨_, rfl, br2 (fun h => ?_) fun h => ?_⟩
    · rw [if_pos (of_xt h)] at q
      refine eq_bls (cs := [true]) ?_
      rw [Bool.false_xor]
      exact rt_of q
    rw [if_neg (of_xf h)] at q
    refine in_ws (ws := g2) rfl (fun z e => nomatch e) hw ok2 ⟨_, rfl, br2 (fun h => ?_) fun h => ?_⟩
    · rw [if_pos (of_xt h)] at q
      intro p np p1 np1
      obtain ⟨ne1, np1'⟩ := up_non np1
      refine ⟨ty_dk up_same, valD [((.inr "copy" : Key), D.int 2)] (.inr w), ?_, ?_⟩
      · exact at_dk (κ := .inr w) up_same rfl
      have ev : (valD [((.inr "copy" : Key), D.int 2)] (.inr w)).getD (.int 3) = .int ((if w = "copy" then 2 else 3 : Nat) : Nat) := by
        unfold valD
        rw [List.find?_cons]
        by_cases hc2 : w = "copy"
        · rw [if_pos hc2, decide_eq_true (by rw [hc2])]; rfl
        · rw [if_neg hc2, decide_eq_false (fun e => hc2 (Sum.inr.inj e).symm)]; rfl
      rw [ev]
      have h3 : (if w = "copy" then 2 else 3 : Nat) ≤ 3 := by split <;> decide
      generalize (if w = "copy" then 2 else 3 : Nat) = nn at q ev h3
      refine ⟨p, ((nn : Nat) : Int), [.bl true], rfl, rfl, by rw [up_ne (fun e => ne1 e.symm), up_same], by omega, by omega, by rw [Int.toNat_natCast, sizeLine_eq]; simp; omega, ?_⟩
      rw [Int.toNat_natCast, rep_bl]
      refine eq_bls ?_
      rw [Bool.false_xor]
      exact rt_sub ((DL.Sub.refl.un np).un np1) q
    rw [if_neg (of_xf h)] at q
    refine ⟨_, rfl, br2 (fun h => ?_) fun h => ?_⟩
    · rw [if_pos (of_xt h)] at q
      refine len_sq rfl ⟨_, rfl, br2 (fun f => ?_) fun f => ?_⟩
      · have f := of_xt f
        have f1 : ds.length = 2 := by rw [lz] at f; omega
        rw [decide_eq_true f1, Bool.true_and] at q
        subst hds
        obtain ⟨y2, rfl⟩ : ∃ y2, r = [y2] := by
          match r, f1 with
          | [y2], _ => exact ⟨y2, rfl⟩
        have q : Q (.bl (isName y && isCnt 1000002 y2)) S := q
        refine ix_sq rfl rfl at_0 ⟨_, rfl, br2 (fun j => ?_) fun j => ?_⟩
        · rw [j, Bool.true_and] at q
          exact ix_sq rfl rfl (at_n (i := 2) rfl) ⟨y2, _, rfl, hv _ (by simp), rt_of q⟩
        · rw [j, Bool.false_and] at q
          exact rt_of q
      · have f := of_xf f
        have f1 : ¬ ds.length = 2 := by rw [lz] at f; omega
        rw [decide_eq_false f1] at q
        exact rt_of q
    rw [if_neg (of_xf h)] at q
    refine ⟨_, rfl, br2 (fun h => ?_) fun h => ?_⟩
    · rw [if_pos (of_xt h)] at q
      refine len_sq rfl ⟨_, rfl, br2 (fun f => ?_) fun f => ?_⟩
      · have f := of_xt f
        rw [decide_eq_true (p := ds.length = 1) (by rw [lz] at f; omega), Bool.true_and] at q
        exact rt_of q
      · have f := of_xf f
        rw [decide_eq_false (p := ds.length = 1) (by rw [lz] at f; omega)] at q
        exact rt_of q
    rw [if_neg (of_xf h)] at q
    refine in_ws (ws := g3) rfl (fun z e => nomatch e) hw ok3 ⟨_, rfl, br2 (fun h => ?_) fun h => ?_⟩
    · rw [if_pos (of_xt h)] at q
      refine len_sq rfl ⟨_, rfl, br2 (fun f => ?_) fun f => ?_⟩
      · have f := of_xt f
        rw [decide_eq_true (p := ds.length = 3) (by rw [lz] at f; omega), Bool.true_and] at q
        refine ⟨2, rfl, sl_f rfl ?_⟩
        rw [cut2, ← List.map_take]
        refine eq_bls (cs := [true, true]) ⟨_, rfl, br2 (fun j => ?_) fun j => ?_⟩
        · rw [decide_eq_true (of_xt j), Bool.true_and] at q
          exact rt_of q
        · rw [decide_eq_false (of_xf j)] at q
          exact rt_of q
      · have f := of_xf f
        rw [decide_eq_false (p := ds.length = 3) (by rw [lz] at f; omega)] at q
        exact rt_of q
    rw [if_neg (of_xf h)] at q
    refine ⟨_, rfl, br2 (fun h => ?_) fun h => ?_⟩
    · rw [if_pos (of_xt h)] at q
      refine len_sq rfl ⟨_, rfl, br2 (fun f => ?_) fun f => ?_⟩
      · have f := of_nxt f
        rw [decide_eq_false (p := ds.length = 3) (by rw [lz] at f; omega)] at q
        exact rt_of q
      have f := of_nxf f
      have f1 : ds.length = 3 := by rw [lz] at f; omega
      rw [decide_eq_true f1, Bool.true_and] at q
      refine ⟨2, rfl, sl_f rfl ?_⟩
      rw [cut2, ← List.map_take]
      refine eq_bls (cs := [true, true]) ⟨_, rfl, br2 (fun j => ?_) fun j => ⟨_, rfl, ?_⟩⟩
      · rw [decide_eq_false (of_nxt j)] at q
        exact rt_of q
      have j := of_nxf j
      rw [decide_eq_true j, Bool.true_and] at q
      refine br2 (fun v => ?_) fun v => ?_
      · rw [v, Bool.true_and] at q
        subst hds
        obtain ⟨y2, y3, rfl⟩ : ∃ y2 y3, r = [y2, y3] := by
          match r, f1 with
          | [y2, y3], _ => exact ⟨y2, y3, rfl⟩
        have hy2 : isName y2 = true := by
          have j : [isName y, isName y2] = [true, true] := j
          simpa using (List.cons.inj (List.cons.inj j).2).1
        obtain ⟨z, rfl, _⟩ := nm_str hy2
        have q : Q (.bl (decide (z ∈ s.kn.map (·.1) ++ barred))) S := q
        refine ix_sq rfl rfl (at_n (i := 2) rfl) (ix_sq rfl (sq_l hkp) at_0 ⟨a, _, rfl, ha, add_f rfl rfl (by rw [List.length_map, List.length_map, sizeLine_eq]; simp; omega) ?_⟩)
        have e : (List.map (fun kv : Key × D => D.at (kV kv.1)) (s.kn.map fun q => ((.inr q.1 : Key), D.int (q.2 : Nat)))) ++ [D.str "none", D.str "number"] = (s.kn.map (·.1) ++ barred).map D.str := by
          rw [List.map_append, List.map_map, List.map_map]
          rfl
        rw [e]
        refine in_ws rfl (fun z e => nomatch e) (vk_str (hv _ (by simp))).1 (fun x hx => ?_) (by rw [Bool.false_xor]; exact rt_of q)
        rcases List.mem_append.mp hx with hx | hx
        · obtain ⟨p, hp, rfl⟩ := List.mem_map.mp hx
          exact hks p hp
        · exact ok4 x hx
      · rw [v, Bool.false_and] at q
        exact rt_of q
    rw [if_neg (of_xf h)] at q
    refine in_ws (ws := g4) rfl (fun z e => nomatch e) hw ok5 ⟨_, rfl, br2 (fun h => ?_) fun h => ?_⟩
    · rw [if_pos (of_xt h)] at q
      have hw4 : w = "make" ∨ w = "use" := by
        have := of_xt h
        unfold g4 at this
        simpa using this
      rcases hw4 with rfl | rfl
      · rw [if_pos rfl] at q
        refine ⟨rfl, ["make", "call", "use"], _, 0, rfl, rfl, rfl, fun m hm => absurd hm (Nat.not_lt_zero m), ix_sq rfl (sq_l hkp) at_0 ⟨_, a, s.kn, rfl, hd, ha, _, rfl, br2 (fun j => ?_) fun j => ?_⟩⟩
        · rw [j, Bool.true_and] at q
          subst hds
          exact ix_sq rfl rfl at_0 (rt_of q)
        · rw [j, Bool.false_and] at q
          exact rt_of q
      · rw [if_neg (ofS (by decide))] at q
        refine ⟨rfl, ["make", "call", "use"], _, 2, rfl, rfl, rfl, fun m hm => ?_, ix_sq rfl (sq_l hkp) (at_n (i := 2) rfl) ⟨_, b, s.tm, rfl, hd, hb, _, rfl, br2 (fun j => ?_) fun j => ?_⟩⟩
        · have : ∀ m, m < 2 → (["make", "call", "use"] : List Str)[m]? ≠ some (Str.ofString "use") := by decide +kernel
          exact this m hm
        · rw [j, Bool.true_and] at q
          subst hds
          exact ix_sq rfl rfl at_0 (rt_of q)
        · rw [j, Bool.false_and] at q
          exact rt_of q
    rw [if_neg (of_xf h)] at q
    refine ⟨_, rfl, br2 (fun h => ?_) fun h => ?_⟩
    · rw [decide_eq_true (of_xt h), Bool.true_and] at q
      refine ix_sq rfl (sq_l hkp) (at_n (i := 1) rfl) ⟨_, c, s.pr, rfl, hd, hc, _, rfl, br2 (fun j => ?_) fun j => ?_⟩
      · rw [j, Bool.true_and] at q
        subst hds
        refine ix_sq rfl rfl (at_n (i := 1) rfl) ⟨rfl, _, rfl, br2 (fun j => ?_) fun j => ?_⟩
        · have q : Q (.bl (decide (y = .non) || isName y)) S := q
          rw [decide_eq_true (of_xt j)] at q
          exact rt_of q
        · have q : Q (.bl (decide (y = .non) || isName y)) S := q
          rw [decide_eq_false (of_xf j), Bool.false_or] at q
          exact ix_sq rfl rfl at_0 (rt_of q)
      · rw [j, Bool.false_and] at q
        exact rt_of q
    · rw [decide_eq_false (of_xf h)] at q
      exact rt_of q
end K05

namespace K05
open PySem L2 PyProof.Rows DL
/-! ### which templates a template uses, by others too -/
def useOf : D → Option Str
  | .tup [.at (.str w), _, .at (.str t), _] => if w = "use" then some t else none
  | _ => none
def Us (ts : List D) (a b : Str) : Prop := ∃ d ∈ ts, nmOf d = a ∧ ∃ r ∈ rwOf d, useOf r = some b
inductive Rch (ts : List D) (a : Str) : Str → Prop
  | one {b : Str} : Us ts a b → Rch ts a b
  | step {b c : Str} : Rch ts a b → Us ts b c → Rch ts a c
/-- templates whose rows are such -/
structure UOk (ts : List D) : Prop where
  n : ts.length ≤ 100
  hd : ts.all (headN 4) = true
  nd : (ts.map nmOf).Nodup
  rw : ∀ d ∈ ts, ∀ r ∈ rwOf d, ∃ w rest, r = .tup (.str w :: rest) ∧ (w ≠ "use" ∨ ∃ a t b, rest = [a, .str t, b] ∧ t ∈ ts.map nmOf)
  ok : ∀ d ∈ ts, PyData.strOk (nmOf d) = true
  l : ∀ d ∈ ts, (rwOf d).length ≤ 1000
theorem nd_len : ∀ {zs l : List Str}, zs.Nodup → (∀ z ∈ zs, z ∈ l) → zs.length ≤ l.length
  | [], _, _, _ => Nat.zero_le _
  | z :: zs, l, h1, h2 => by
    rw [List.nodup_cons] at h1
    have hz := h2 z List.mem_cons_self
    have := nd_len (zs := zs) (l := l.erase z) h1.2 fun y hy => (List.mem_erase_of_ne (fun e => h1.1 (by rw [← e]; exact hy))).mpr (h2 y (List.mem_cons_of_mem _ hy))
    rw [List.length_erase_of_mem hz] at this
    have := List.length_pos_of_mem hz
    rw [List.length_cons]
    omega
theorem UOk.len {ts : List D} (u : UOk ts) {zs : List Str} (h1 : zs.Nodup) (h2 : ∀ z ∈ zs, z ∈ ts.map nmOf) : zs.length ≤ ts.length := by
  have := nd_len h1 h2
  rwa [List.length_map] at this
theorem use_ne {w : Str} {rest : List D} {z : Str} (h : w ≠ "use") : useOf (.tup (.str w :: rest)) ≠ some z := by
  intro e
  unfold useOf at e
  split at e
  · rename_i e2
    cases e2
    rw [if_neg h] at e
    cases e
  · cases e
theorem UOk.oks {ts : List D} (u : UOk ts) {z : Str} (h : z ∈ ts.map nmOf) : PyData.strOk z = true := by
  obtain ⟨d, hd, rfl⟩ := List.mem_map.mp h
  exact u.ok d hd
theorem UOk.us {ts : List D} (u : UOk ts) {a b : Str} (h : Us ts a b) : b ∈ ts.map nmOf := by
  obtain ⟨d, hd, _, r, hr, e⟩ := h
  obtain ⟨w, rest, rfl, h⟩ := u.rw d hd r hr
  rcases h with h | ⟨x, t, y, rfl, ht⟩
  · unfold useOf at e
    split at e
    · rename_i e2
      cases e2
      rw [if_neg h] at e
      cases e
    · cases e
  · have e : (if w = "use" then some t else none) = some b := e
    split at e
    · cases e; exact ht
    · cases e
theorem val_gen {f : D → Str} {v : D → D} : ∀ {ts : List D}, (ts.map f).Nodup → ∀ {d : D}, d ∈ ts → valD (ts.map fun d => ((.inr (f d) : Key), v d)) (.inr (f d)) = some (v d)
  | t :: ts, h, d, hd => by
    rw [List.map_cons, List.nodup_cons] at h
    unfold valD
    rw [List.map_cons, List.find?_cons]
    rcases List.mem_cons.mp hd with rfl | hm
    · rw [decide_eq_true rfl]; rfl
    · have ne : f t ≠ f d := fun e => h.1 (by rw [e]; exact List.mem_map_of_mem hm)
      have h1 : decide ((.inr (f t) : Key) = .inr (f d)) = false := decide_eq_false fun e => ne (Sum.inr.inj e)
      rw [h1]
      exact val_gen h.2 hm
theorem dc_gen {ds : List D} {S : Sto} {A : Addr} {Nx : Sto → Prop} {B : (Nat → Sto → Prop) → Nat → D → Sto → Prop} (f : D → Str) (v : D → D) (hl : ds.length ≤ 1000) (hn : (ds.map f).Nodup)
    (hs : ∀ (W : Nat → Sto → Prop) (i : Nat) (x : D) (S2 : Sto) (kvs : List (Key × D)), x ∈ ds → S2 A = some (.dk kvs) → kvs.length < sizeLine → W (i + 1) (up S2 A (.dk (putD kvs (.inr (f x)) (v x)))) → B W i x S2) (hd : Nx (up S A (.dk (ds.map fun d => ((.inr (f d) : Key), v d))))) :
    ∃ (W : Nat → Sto → Prop) (n : Nat), W 0 (up S A (.dk [])) ∧ ∀ i S2, W i S2 → ∃ r, seqI ds i S2 = some r ∧ (r = none → Nx S2) ∧ ∀ x, r = some x → i < n ∧ B W i x S2 :=
  dc_seq (fun i S' => S' = up S A (.dk ((ds.take i).map fun d => ((.inr (f d) : Key), v d)))) rfl (by
    rintro i x S' hx rfl
    refine hs (fun i S2 => S2 = up S A (.dk ((ds.take i).map fun d => ((.inr (f d) : Key), v d)))) i x _ _ (List.mem_of_getElem? hx) up_same ?_ ?_
    · rw [List.length_map, List.length_take, sizeLine_eq]
      omega
    · rw [up_up, put_new, tk1 hx, List.map_append]
      · rfl
      · rw [List.map_map]
        intro hm
        obtain ⟨y, hy, e⟩ := List.mem_map.mp hm
        have e : f y = f x := Sum.inr.inj e
        obtain ⟨hi, ex⟩ := List.getElem?_eq_some_iff.mp hx
        have e2 : ds.map f = (ds.take i).map f ++ (ds.drop i).map f := by rw [← List.map_append, List.take_append_drop]
        rw [e2] at hn
        have e3 : ds.drop i = x :: ds.drop (i + 1) := by rw [List.drop_eq_getElem_cons hi, ex]
        rw [e3] at hn
        exact (List.nodup_append.mp hn).2.2 (f y) (List.mem_map_of_mem hy) (f x) (by simp) e) (by
    rintro i S' hi rfl
    rw [List.take_of_length_le hi]
    exact hd)
/-- what the walk knows: found, waiting -/
structure Fnd (ts : List D) (a : Str) (fs ws : List Str) : Prop where
  nd : fs.Nodup
  r : ∀ z ∈ fs, Rch ts a z
  w : ∀ z ∈ ws, z ∈ ts.map nmOf
  f : ∀ z ∈ fs, z ∈ ts.map nmOf
  c : ∀ x, (x = a ∨ x ∈ fs) → x ∉ ws → ∀ y, Us ts x y → y ∈ fs
  wr : ∀ z ∈ ws, z = a ∨ z ∈ fs
theorem Fnd.start {ts : List D} {a : Str} (h : a ∈ ts.map nmOf) : Fnd ts a [] [a] :=
  ⟨List.nodup_nil, fun z hz => (nomatch hz), fun z hz => by rw [List.mem_singleton.mp hz]; exact h, fun z hz => (nomatch hz), fun x hx hn => absurd (hx.elim (fun e => by rw [e]; simp) (fun e => nomatch e)) hn, fun z hz => .inl (List.mem_singleton.mp hz)⟩
theorem Fnd.all {ts : List D} {a : Str} {fs : List Str} (h : Fnd ts a fs []) : ∀ z, z ∈ fs ↔ Rch ts a z := by
  intro z
  refine ⟨h.r z, fun k => ?_⟩
  induction k with
  | one u => exact h.c a (.inl rfl) (by simp) _ u
  | step _ u ih => exact h.c _ (.inr ih) (by simp) _ u
/-- within the walk of x's rows: so many are done -/
structure Fin (ts : List D) (a x : Str) (d : D) (i : Nat) (fs ws : List Str) : Prop where
  nd : fs.Nodup
  r : ∀ z ∈ fs, Rch ts a z
  w : ∀ z ∈ ws, z ∈ ts.map nmOf
  f : ∀ z ∈ fs, z ∈ ts.map nmOf
  c : ∀ y, (y = a ∨ y ∈ fs) → y ∉ ws → y ≠ x → ∀ z, Us ts y z → z ∈ fs
  wr : ∀ z ∈ ws, z = a ∨ z ∈ fs
  here : ∀ r ∈ (rwOf d).take i, ∀ z, useOf r = some z → z ∈ fs
  me : x = a ∨ x ∈ fs
theorem Fnd.go {ts : List D} {a x : Str} {fs ws : List Str} {d : D} (h : Fnd ts a fs (ws ++ [x])) (hd : d ∈ ts) (e : nmOf d = x) : Fin ts a x d 0 fs ws :=
  ⟨h.nd, h.r, fun z hz => h.w z (List.mem_append_left _ hz), h.f, fun y hy hw hx => h.c y hy fun hm => (List.mem_append.mp hm).elim hw fun hm => hx (List.mem_singleton.mp hm), fun z hz => h.wr z (List.mem_append_left _ hz), fun r hr => (by simp at hr), h.wr x (by simp)⟩
theorem Fin.done {ts : List D} {a x : Str} {fs ws : List Str} {d : D} {i : Nat} (u : UOk ts) (h : Fin ts a x d i fs ws) (hd : d ∈ ts) (e : nmOf d = x) (hi : (rwOf d).length ≤ i) : Fnd ts a fs ws := by
  refine ⟨h.nd, h.r, h.w, h.f, fun y hy hw z hz => ?_, h.wr⟩
  by_cases hx : y = x
  · obtain ⟨d', hd', e', r, hr, hu⟩ := hz
    have ed : d' = d := by
      have h1 := e'.trans (hx.trans e.symm)
      have key : ∀ {l : List D}, (l.map nmOf).Nodup → d' ∈ l → d ∈ l → d' = d := by
        intro l
        induction l with
        | nil => intro _ h; cases h
        | cons t l ih =>
          intro hn g1 g2
          rw [List.map_cons, List.nodup_cons] at hn
          rcases List.mem_cons.mp g1 with k1 | k1
          · rcases List.mem_cons.mp g2 with k2 | k2
            · rw [k1, k2]
            · exact absurd (by rw [← k1, h1]; exact List.mem_map_of_mem k2) hn.1
          · rcases List.mem_cons.mp g2 with k2 | k2
            · exact absurd (by rw [← k2, ← h1]; exact List.mem_map_of_mem k1) hn.1
            · exact ih hn.2 k1 k2
      exact key u.nd hd' hd
    subst ed
    exact h.here r (by rw [List.take_of_length_le hi]; exact hr) z hu
  · exact h.c y hy hw hx z hz
theorem Fin.skip {ts : List D} {a x : Str} {fs ws : List Str} {d r : D} {i : Nat} (h : Fin ts a x d i fs ws) (hr : (rwOf d)[i]? = some r) (hu : ∀ z, useOf r = some z → z ∈ fs) : Fin ts a x d (i + 1) fs ws := by
  refine ⟨h.nd, h.r, h.w, h.f, h.c, h.wr, fun q hq => ?_, h.me⟩
  rw [tk1 hr] at hq
  rcases List.mem_append.mp hq with g | g
  · exact h.here q g
  · rw [List.mem_singleton.mp g]; exact hu
theorem Fin.push {ts : List D} {a x t : Str} {fs ws : List Str} {d r : D} {i : Nat} (u : UOk ts) (h : Fin ts a x d i fs ws) (hd : d ∈ ts) (e : nmOf d = x) (hr : (rwOf d)[i]? = some r) (hu : useOf r = some t) (hn : t ∉ fs) : Fin ts a x d (i + 1) (fs ++ [t]) (ws ++ [t]) := by
  have us : Us ts x t := ⟨d, hd, e, r, List.mem_of_getElem? hr, hu⟩
  have tn := u.us us
  have rt : Rch ts a t := by
    rcases h.me with rfl | hm
    · exact .one us
    · exact .step (h.r x hm) us
  refine ⟨List.nodup_append.mpr ⟨h.nd, by simp, fun y hy z hz e => hn (by rw [List.mem_singleton.mp hz] at e; rw [← e]; exact hy)⟩, fun z hz => ?_, fun z hz => ?_, fun z hz => ?_, fun y hy hw hx z hz => ?_, fun z hz => ?_, fun q hq z hz => ?_, ?_⟩
  · rcases List.mem_append.mp hz with g | g
    · exact h.r z g
    · rw [List.mem_singleton.mp g]; exact rt
  · rcases List.mem_append.mp hz with g | g
    · exact h.w z g
    · rw [List.mem_singleton.mp g]; exact tn
  · rcases List.mem_append.mp hz with g | g
    · exact h.f z g
    · rw [List.mem_singleton.mp g]; exact tn
  · have hw1 : y ∉ ws := fun g => hw (List.mem_append_left _ g)
    have hy1 : y = a ∨ y ∈ fs := by
      rcases hy with g | g
      · exact .inl g
      · rcases List.mem_append.mp g with g | g
        · exact .inr g
        · exact absurd (List.mem_append_right ws g) hw
    exact List.mem_append_left _ (h.c y hy1 hw1 hx z hz)
  · rcases List.mem_append.mp hz with g | g
    · exact (h.wr z g).imp id fun k => List.mem_append_left _ k
    · exact .inr (List.mem_append_right _ g)
  · rw [tk1 hr] at hq
    rcases List.mem_append.mp hq with g | g
    · exact List.mem_append_left _ (h.here q g z hz)
    · rw [List.mem_singleton.mp g, hu] at hz
      cases hz
      exact List.mem_append_right _ (by simp)
  · exact h.me.imp id fun k => List.mem_append_left _ k
end K05


namespace K05
open PySem L2 PyProof.Rows DL
theorem sub_w {S S' : Sto} {p : Addr} {o : MO} (h : DL.Sub S S') (n : S p = none) : DL.Sub S (up S' p o) := h.u n
def sp_used_by : SpD := fun ds S Q _ => ∃ (ts : List D) (z : Str), ds = [.tup ts, .str z] ∧ UOk ts ∧ z ∈ ts.map nmOf ∧ ∀ fs : List Str, (∀ y, y ∈ fs ↔ Rch ts z y) → (∀ y ∈ fs, PyData.strOk y = true) → Q (.fl (fs.map D.str)) S
theorem ok_used_by {P : Program} {w : World} {K : PySem.W.Frag} {mg : Str → Option Value} {base : Heap} (T : Txt K w mg)  {ff : Addr} {fd : FuncData} (F : Fun K "used_by" "used_by" s_used_by ff fd) (mf : mg "used_by" = some (.ref ff)) : Cal P w K mg base 1 "used_by" s_used_by ["templates", "name"] sp_used_by := by
  refine ⟨ff, fd, okD F sc_used_by (fun ds S Q E h => ?len) (fun cdv A outer s H E ds S Q E' hcd hr h => ⟨_, (dss_cons (ds_setDc 2 [("template", 3)] rfl sc_used_by.nd (di_tup (de_var 0)) (blkOk_by (N := ["templates", "name", "rows", "template", "found", "waiting", "row"]) (sc := defScope s_used_by) (by decide +kernel)) (fun _ _ _ _ _ => (pg_name (i := 3) sc_used_by.nd rfl (Or.inl rfl) (Or.inr rfl))) (fun N => (tg_name (vs := [3]) (i := 3) (by decide))) (fun _ _ _ _ _ => dts_nil) (fun _ _ _ _ _ => (de_ix (xd_ix hr) (de_var 3) de_int)) (fun _ _ _ _ _ => (de_ix (xd_ix hr) (de_var 3) de_int)))
      (dss_cons (ds_set 4 sc_used_by.nd (de_lst da_nil))
      (dss_cons (ds_set 5 sc_used_by.nd (de_lst (da_cons (de_var 1) da_nil)))
      (dss_cons (ds_while PassesOwn.never (dt_cmp (od_ne0 hr) (de_var 5) (de_lf da_nil)) (dss_one (ds_for PassesOwn.never rfl (di_tup (de_ix (xd_ix hr) (de_var 2) (de_m0 PySem.F.plainAttrs_list PySem.F.slot_list_pop PySem.F.type_list_pop md_pop (de_var 5)))) (dg_name 6 sc_used_by.nd) (dss_one (ds_if (dw_and (dt_cmp (od_eq hr) (de_ix (xd_ix hr) (de_var 6) de_int) de_str) (dw_and1 (dt_cmp (od_notin hr) (de_ix (xd_ix hr) (de_var 6) de_int) (de_var 4)))).pt (dss_cons (ds_expr (de_m PySem.F.plainAttrs_list PySem.F.slot_list_append PySem.F.type_list_append md_append (de_var 4) (da_cons (de_ix (xd_ix hr) (de_var 6) de_int) da_nil)))
      (dss_one (ds_expr (de_m PySem.F.plainAttrs_list PySem.F.slot_list_append PySem.F.type_list_append md_append (de_var 5) (da_cons (de_ix (xd_ix hr) (de_var 6) de_int) da_nil))))) dss_nil)))))
      (dss_one (ds_ret (de_var 4))))))), ?run⟩), F.binds (ps := ["templates", "name"]) fun _ _ _ _ _ _ us hl => match us, hl with | [_, _], _ => rfl, mf, F⟩
  case len => obtain ⟨ts, z, rfl, _⟩ := h; rfl
  case run =>
    obtain ⟨ts, z, rfl, u, hz, q⟩ := h
    simp only [dVar, dC, dOp, dUn, dChain, dTr, dB, dAnd, dOr, dNot, dIf, dAndV, dOrV, dNotV, dNil, dCons, dTup, dLst, dLf, dNext, dSeq, dBreak, dCont, dDrop, dRet, dRetN, dIfS, gdName, gdNil, gdCons, gdTup, gdSub, dAsg, dPar, dCall, dCallK, dCB, dM0, dM, dGet1, dGet2, dDk, dDt, dPart, dNoPart, dSlice, dAug, dYes, dSort2, revD, iTupD, iLstD, iLf, iLw, iRange1, iRange2, iRange3, iEnumD, iZipD, iZipMD, iStrD, dGix, dDc, dIsi, dSortSet, dLenSet, dDlit, gdLst, dFor, dWhile, dLc, dLcM, dFld, dFldSet, dFldAdd, dMeth, dMake, dPar3, dDisp, dPrs, dFsi, dGget, dKgt, dKgtL, dCut, dTcut, wipeD, bodyE, startD, List.map_cons, List.map_nil, List.length_cons, List.length_nil, List.replicate_succ, List.replicate_zero, List.cons_append, List.nil_append, Nat.reduceAdd, Nat.reduceSub, Nat.zero_add, List.getElem?_cons_zero, List.getElem?_cons_succ, List.set_cons_zero, List.set_cons_succ, Option.some.injEq, exists_eq_left', exists_eq_left, if_true, sizeLine_eq, Nat.reduceLeDiff, Nat.reduceLT, Nat.zero_le, true_and, and_true, Bool.false_eq_true, if_false]
    have hl : ts.length ≤ 1000 := by have := u.n; omega
    refine ⟨ts, .inl rfl, fun A nA => dc_gen nmOf (fun d => .tup (rwOf d)) hl u.nd (fun W i x S2 kvs hx e hz w => ?_) ?_⟩
    · obtain ⟨z, ys, rs, r, rfl, _⟩ := head_shape (List.all_eq_true.mp u.hd x hx)
      exact ix_sq rfl rfl at_0 (ix_sq rfl rfl (at_n (i := 2) rfl) ⟨kvs, .inr z, rfl, e, hz, w⟩)
    intro F nF G nG
    obtain ⟨FA, nF⟩ := up_non nF
    obtain ⟨GF, nG⟩ := up_non nG
    obtain ⟨GA, nG⟩ := up_non nG
    refine ⟨fun m δ S' => ∃ fs ws r6, δ = [some (.tup ts), some (.str z), some (.ref A), none, some (.ref F), some (.ref G), r6] ∧ Fnd ts z fs ws ∧ S' A = some (.dk (ts.map fun d => ((.inr (nmOf d) : Key), D.tup (rwOf d)))) ∧ S' F = some (.lst (fs.map D.str)) ∧ S' G = some (.lst (ws.map D.str)) ∧ m = 2 * (ts.length - fs.length) + ws.length ∧ m ≤ 201 ∧ DL.Sub S S', ⟨_, [], [z], none, rfl, Fnd.start hz, ?_, ?_, up_same, rfl, ?_, ?_⟩, ?_⟩
    · rw [up_ne GA.symm, up_ne FA.symm, up_same]
    · rw [up_ne GF.symm, up_same]; rfl
    · have := u.n
      simp only [List.length_nil, List.length_singleton]
      omega
    · exact ((DL.Sub.refl.un nA).un (by rw [up_ne FA]; exact nF)).un (by rw [up_ne GF, up_ne GA]; exact nG)
    rintro m δ S' ⟨fs, ws, r6, rfl, fd, hA, hF, hG, rfl, m201, sub⟩
    simp only [dVar, dC, dOp, dUn, dChain, dTr, dB, dAnd, dOr, dNot, dIf, dAndV, dOrV, dNotV, dNil, dCons, dTup, dLst, dLf, dNext, dSeq, dBreak, dCont, dDrop, dRet, dRetN, dIfS, gdName, gdNil, gdCons, gdTup, gdSub, dAsg, dPar, dCall, dCallK, dCB, dM0, dM, dGet1, dGet2, dDk, dDt, dPart, dNoPart, dSlice, dAug, dYes, dSort2, revD, iTupD, iLstD, iLf, iLw, iRange1, iRange2, iRange3, iEnumD, iZipD, iZipMD, iStrD, dGix, dDc, dIsi, dSortSet, dLenSet, dDlit, gdLst, dFor, dWhile, dLc, dLcM, dFld, dFldSet, dFldAdd, dMeth, dMake, dPar3, dDisp, dPrs, dFsi, dGget, dKgt, dKgtL, dCut, dTcut, wipeD, bodyE, startD, List.map_cons, List.map_nil, List.length_cons, List.length_nil, List.replicate_succ, List.replicate_zero, List.cons_append, List.nil_append, Nat.reduceAdd, Nat.reduceSub, Nat.zero_add, List.getElem?_cons_zero, List.getElem?_cons_succ, List.set_cons_zero, List.set_cons_succ, Option.some.injEq, exists_eq_left', exists_eq_left, if_true, sizeLine_eq, Nat.reduceLeDiff, Nat.reduceLT, Nat.zero_le, true_and, and_true, Bool.false_eq_true, if_false]
    refine e0_l (ls_l hG) ⟨_, rfl, br2 (fun g => ?_) fun g => ?_⟩
    · rcases List.eq_nil_or_concat ws with e | ⟨ws0, x, e⟩
      · subst e; cases g
      rw [List.concat_eq_append] at e
      subst e
      obtain ⟨d, hd, ed⟩ := List.mem_map.mp (fd.w x (by simp))
      refine ⟨ty_l hG, G, _, .str x, rfl, hG, by simp, ?_⟩
      have edl : (((ws0 ++ [x]).map D.str)).dropLast = ws0.map D.str := by simp
      rw [edl]
      rw [List.length_append, List.length_singleton] at m201 ⊢
      refine ix_at (d := .tup (rwOf d)) (by rw [at_dk (κ := .inr x) (by rw [up_ne GA.symm]; exact hA) rfl, ← ed, val_gen u.nd hd]) ⟨_, .inl rfl, ?_⟩
      refine fr_seq (fun i δ S2 => ∃ fs2 ws2 r6, δ = [some (.tup ts), some (.str z), some (.ref A), none, some (.ref F), some (.ref G), r6] ∧ Fin ts z x d i fs2 ws2 ∧ S2 A = some (.dk (ts.map fun d => ((.inr (nmOf d) : Key), D.tup (rwOf d)))) ∧ S2 F = some (.lst (fs2.map D.str)) ∧ S2 G = some (.lst (ws2.map D.str)) ∧ 2 * (ts.length - fs2.length) + ws2.length < 2 * (ts.length - fs.length) + (ws0.length + 1) ∧ DL.Sub S S2) ⟨fs, ws0, r6, rfl, fd.go hd ed, by rw [up_ne GA.symm]; exact hA, by rw [up_ne GF.symm]; exact hF, up_same, by omega, sub.u nG⟩ ?_ ?_
      · rintro i r δ S2 hr ⟨fs2, ws2, r6, rfl, fn, hA2, hF2, hG2, hm, sub2⟩
        simp only [dVar, dC, dOp, dUn, dChain, dTr, dB, dAnd, dOr, dNot, dIf, dAndV, dOrV, dNotV, dNil, dCons, dTup, dLst, dLf, dNext, dSeq, dBreak, dCont, dDrop, dRet, dRetN, dIfS, gdName, gdNil, gdCons, gdTup, gdSub, dAsg, dPar, dCall, dCallK, dCB, dM0, dM, dGet1, dGet2, dDk, dDt, dPart, dNoPart, dSlice, dAug, dYes, dSort2, revD, iTupD, iLstD, iLf, iLw, iRange1, iRange2, iRange3, iEnumD, iZipD, iZipMD, iStrD, dGix, dDc, dIsi, dSortSet, dLenSet, dDlit, gdLst, dFor, dWhile, dLc, dLcM, dFld, dFldSet, dFldAdd, dMeth, dMake, dPar3, dDisp, dPrs, dFsi, dGget, dKgt, dKgtL, dCut, dTcut, wipeD, bodyE, startD, List.map_cons, List.map_nil, List.length_cons, List.length_nil, List.replicate_succ, List.replicate_zero, List.cons_append, List.nil_append, Nat.reduceAdd, Nat.reduceSub, Nat.zero_add, List.getElem?_cons_zero, List.getElem?_cons_succ, List.set_cons_zero, List.set_cons_succ, Option.some.injEq, exists_eq_left', exists_eq_left, if_true, sizeLine_eq, Nat.reduceLeDiff, Nat.reduceLT, Nat.zero_le, true_and, and_true, Bool.false_eq_true, if_false]
        obtain ⟨w, rest, rfl, hw⟩ := u.rw d hd r (List.mem_of_getElem? hr)
        refine ix_sq rfl rfl at_0 ⟨_, rfl, br2 (fun e => ?_) fun e => ⟨fs2, ws2, _, rfl, fn.skip hr (fun z hz => absurd hz (use_ne (of_xf e))), hA2, hF2, hG2, hm, sub2⟩⟩
        have e := of_xt e
        subst e
        obtain ⟨x1, t, x2, rfl, ht⟩ : ∃ a t b, rest = [a, .str t, b] ∧ t ∈ ts.map nmOf := hw.elim (fun h => absurd rfl h) id
        have hu : useOf (.tup [.str "use", x1, .str t, x2]) = some t := by
          show (if ("use" : Str) = "use" then some t else none) = some t
          rw [if_pos rfl]
        have l1 := u.len fn.nd fn.f
        have n100 := u.n
        refine ix_sq rfl rfl (at_n (i := 2) rfl) (in_ws (ws := fs2) (sq_l hF2) (fun z e => nomatch e) (u.oks ht) (fun y hy => u.oks (fn.f y hy)) ⟨_, rfl, br2 (fun k => ?_) fun k => ⟨fs2, ws2, _, rfl, fn.skip hr (fun z hz => by rw [hu] at hz; cases hz; exact of_nxf k), hA2, hF2, hG2, hm, sub2⟩⟩)
        have k := of_nxt k
        have fp := fn.push u hd ed hr hu k
        have l2 := u.len fp.nd fp.f
        rw [List.length_append, List.length_singleton] at l2
        refine ⟨ty_l hF2, ix_sq rfl rfl (at_n (i := 2) rfl) (app_of hF2 (by rw [List.length_map, sizeLine_eq]; omega) ?_)⟩
        have hG3 : up S2 F (.lst (fs2.map D.str ++ [.str t])) G = some (.lst (ws2.map D.str)) := by rw [up_ne GF]; exact hG2
        refine ⟨ty_l hG3, ix_sq rfl rfl (at_n (i := 2) rfl) (app_of hG3 (by rw [List.length_map, sizeLine_eq]; omega) ?_)⟩
        refine ⟨fs2 ++ [t], ws2 ++ [t], _, rfl, fp, ?_, ?_, ?_, ?_, (sub2.u nF).u nG⟩
        · rw [up_ne GA.symm, up_ne FA.symm]; exact hA2
        · rw [up_ne GF.symm, up_same, List.map_append]; rfl
        · rw [up_same, List.map_append]; rfl
        · rw [List.length_append, List.length_append, List.length_singleton]; omega
      · rintro i δ S2 hi ⟨fs2, ws2, r6, rfl, fn, hA2, hF2, hG2, hm, sub2⟩
        exact ⟨_, hm, fs2, ws2, r6, rfl, fn.done u hd ed hi, hA2, hF2, hG2, rfl, by omega, sub2⟩
    · obtain rfl : ws = [] := by
        cases ws with
        | nil => rfl
        | cons a b => cases g
      exact ⟨_, S, .fz sub hF nF, q fs fd.all fun y hy => u.oks (fd.f y hy)⟩
def sp__law_is_in_ring : SpD := fun ds S Q _ => ∃ (ts : List D) (z : Str), ds = [.tup ts, .str z] ∧ UOk ts ∧ z ∈ ts.map nmOf ∧ ∀ b : Bool, (b = true ↔ Rch ts z z) → Q (.bl b) S
theorem ok__law_is_in_ring {P : Program} {w : World} {K : PySem.W.Frag} {mg : Str → Option Value} {base : Heap} (T : Txt K w mg)  {ff : Addr} {fd : FuncData} (F : Fun K "_law_is_in_ring" "_law_is_in_ring" s__law_is_in_ring ff fd) (mf : mg "_law_is_in_ring" = some (.ref ff)) : Cal P w K mg base 1 "_law_is_in_ring" s__law_is_in_ring ["templates", "name"] sp__law_is_in_ring := by
  refine ⟨ff, fd, okD F sc__law_is_in_ring (fun ds S Q E h => ?len) (fun cdv A outer s H E ds S Q E' hcd hr h => ⟨_, (dss_cons (ds_par3 2 3 4 rfl sc__law_is_in_ring.nd (da_cons (de_callTy (cd_dictQ rfl) (by rfl) T.nb_dict (da_cons (de_lc [("one", 5)] rfl sc__law_is_in_ring.nd (di_tup (de_var 0)) (blkOk_by (N := ["templates", "name", "rows", "seen", "left", "one", "row"]) (sc := defScope s__law_is_in_ring) (by decide +kernel)) (fun _ _ _ _ _ => (pg_name (i := 5) sc__law_is_in_ring.nd rfl (Or.inl rfl) (Or.inr rfl))) (fun N => (tg_name (vs := [5]) (i := 5) (by decide))) (fun _ _ _ _ _ => dts_nil) (fun _ _ _ _ _ => (de_tup (da_cons (de_ix (xd_ix hr) (de_var 5) de_int) (da_cons (de_ix (xd_ix hr) (de_var 5) de_int) da_nil))))) da_nil)) (da_cons (de_lst da_nil) (da_cons (de_lst (da_cons (de_var 1) da_nil)) da_nil))))
      (dss_cons (ds_while PassesOwn.never (dt_cmp (od_ne0 hr) (de_var 4) (de_lf da_nil)) (dss_one (ds_for PassesOwn.never rfl (di_tup (de_ix (xd_ix hr) (de_var 2) (de_m0 PySem.F.plainAttrs_list PySem.F.slot_list_pop PySem.F.type_list_pop md_pop (de_var 4)))) (dg_name 6 sc__law_is_in_ring.nd) (dss_one (ds_if (dw_and (dt_cmp (od_eq hr) (de_ix (xd_ix hr) (de_var 6) de_int) de_str) (dw_and1 (dt_cmp (od_notin hr) (de_ix (xd_ix hr) (de_var 6) de_int) (de_var 3)))).pt (dss_cons (ds_expr (de_m PySem.F.plainAttrs_list PySem.F.slot_list_append PySem.F.type_list_append md_append (de_var 3) (da_cons (de_ix (xd_ix hr) (de_var 6) de_int) da_nil)))
      (dss_one (ds_expr (de_m PySem.F.plainAttrs_list PySem.F.slot_list_append PySem.F.type_list_append md_append (de_var 4) (da_cons (de_ix (xd_ix hr) (de_var 6) de_int) da_nil))))) dss_nil)))))
      (dss_one (ds_ret (de_cmp (od_in hr) (de_var 1) (de_var 3)))))), ?run⟩), F.binds (ps := ["templates", "name"]) fun _ _ _ _ _ _ us hl => match us, hl with | [_, _], _ => rfl, mf, F⟩
  case len => obtain ⟨ts, z, rfl, _⟩ := h; rfl
  case run =>
    obtain ⟨ts, z, rfl, u, hz, q⟩ := h
    simp only [dVar, dC, dOp, dUn, dChain, dTr, dB, dAnd, dOr, dNot, dIf, dAndV, dOrV, dNotV, dNil, dCons, dTup, dLst, dLf, dNext, dSeq, dBreak, dCont, dDrop, dRet, dRetN, dIfS, gdName, gdNil, gdCons, gdTup, gdSub, dAsg, dPar, dCall, dCallK, dCB, dM0, dM, dGet1, dGet2, dDk, dDt, dPart, dNoPart, dSlice, dAug, dYes, dSort2, revD, iTupD, iLstD, iLf, iLw, iRange1, iRange2, iRange3, iEnumD, iZipD, iZipMD, iStrD, dGix, dDc, dIsi, dSortSet, dLenSet, dDlit, gdLst, dFor, dWhile, dLc, dLcM, dFld, dFldSet, dFldAdd, dMeth, dMake, dPar3, dDisp, dPrs, dFsi, dGget, dKgt, dKgtL, dCut, dTcut, wipeD, bodyE, startD, List.map_cons, List.map_nil, List.length_cons, List.length_nil, List.replicate_succ, List.replicate_zero, List.cons_append, List.nil_append, Nat.reduceAdd, Nat.reduceSub, Nat.zero_add, List.getElem?_cons_zero, List.getElem?_cons_succ, List.set_cons_zero, List.set_cons_succ, Option.some.injEq, exists_eq_left', exists_eq_left, if_true, sizeLine_eq, Nat.reduceLeDiff, Nat.reduceLT, Nat.zero_le, true_and, and_true, Bool.false_eq_true, if_false]
    have hl : ts.length ≤ 1000 := by have := u.n; omega
    refine ⟨ts, .inl rfl, lc_mp (fun d => .tup [.str (nmOf d), .tup (rwOf d)]) hl (fun W i x acc hx w => ?_) ⟨_, ts.map fun d => ((.inr (nmOf d) : Key), D.tup (rwOf d)), rfl, by unfold lsOf; rw [List.map_map]; rfl, ?_, fun A nA => ?_⟩⟩
    · obtain ⟨z, ys, rs, r, rfl, _⟩ := head_shape (List.all_eq_true.mp u.hd x (List.mem_of_getElem? hx))
      exact ix_sq rfl rfl at_0 (ix_sq rfl rfl (at_n (i := 2) rfl) w)
    · rw [List.map_map]
      have := List.Pairwise.map (R := (· ≠ ·)) (S := (· ≠ ·)) (Sum.inr : Str → Key) (fun a b ne e => ne (Sum.inr.inj e)) u.nd
      rw [List.map_map] at this
      exact this
    intro F nF G nG
    obtain ⟨FA, nF⟩ := up_non nF
    obtain ⟨GF, nG⟩ := up_non nG
    obtain ⟨GA, nG⟩ := up_non nG
    refine ⟨_, _, _, rfl, ?_⟩
    refine ⟨fun m δ S' => ∃ fs ws r6, δ = [some (.tup ts), some (.str z), some (.ref A), some (.ref F), some (.ref G), none, r6] ∧ Fnd ts z fs ws ∧ S' A = some (.dk (ts.map fun d => ((.inr (nmOf d) : Key), D.tup (rwOf d)))) ∧ S' F = some (.lst (fs.map D.str)) ∧ S' G = some (.lst (ws.map D.str)) ∧ m = 2 * (ts.length - fs.length) + ws.length ∧ m ≤ 201 ∧ DL.Sub S S', ⟨_, [], [z], none, rfl, Fnd.start hz, ?_, ?_, up_same, rfl, ?_, ?_⟩, ?_⟩
    · rw [up_ne GA.symm, up_ne FA.symm, up_same]
    · rw [up_ne GF.symm, up_same]; rfl
    · have := u.n
      simp only [List.length_nil, List.length_singleton]
      omega
    · exact ((DL.Sub.refl.un nA).un (by rw [up_ne FA]; exact nF)).un (by rw [up_ne GF, up_ne GA]; exact nG)
    rintro m δ S' ⟨fs, ws, r6, rfl, fd, hA, hF, hG, rfl, m201, sub⟩
    simp only [dVar, dC, dOp, dUn, dChain, dTr, dB, dAnd, dOr, dNot, dIf, dAndV, dOrV, dNotV, dNil, dCons, dTup, dLst, dLf, dNext, dSeq, dBreak, dCont, dDrop, dRet, dRetN, dIfS, gdName, gdNil, gdCons, gdTup, gdSub, dAsg, dPar, dCall, dCallK, dCB, dM0, dM, dGet1, dGet2, dDk, dDt, dPart, dNoPart, dSlice, dAug, dYes, dSort2, revD, iTupD, iLstD, iLf, iLw, iRange1, iRange2, iRange3, iEnumD, iZipD, iZipMD, iStrD, dGix, dDc, dIsi, dSortSet, dLenSet, dDlit, gdLst, dFor, dWhile, dLc, dLcM, dFld, dFldSet, dFldAdd, dMeth, dMake, dPar3, dDisp, dPrs, dFsi, dGget, dKgt, dKgtL, dCut, dTcut, wipeD, bodyE, startD, List.map_cons, List.map_nil, List.length_cons, List.length_nil, List.replicate_succ, List.replicate_zero, List.cons_append, List.nil_append, Nat.reduceAdd, Nat.reduceSub, Nat.zero_add, List.getElem?_cons_zero, List.getElem?_cons_succ, List.set_cons_zero, List.set_cons_succ, Option.some.injEq, exists_eq_left', exists_eq_left, if_true, sizeLine_eq, Nat.reduceLeDiff, Nat.reduceLT, Nat.zero_le, true_and, and_true, Bool.false_eq_true, if_false]
    refine e0_l (ls_l hG) ⟨_, rfl, br2 (fun g => ?_) fun g => ?_⟩
    · rcases List.eq_nil_or_concat ws with e | ⟨ws0, x, e⟩
      · subst e; cases g
      rw [List.concat_eq_append] at e
      subst e
      obtain ⟨d, hd, ed⟩ := List.mem_map.mp (fd.w x (by simp))
      refine ⟨ty_l hG, G, _, .str x, rfl, hG, by simp, ?_⟩
      have edl : (((ws0 ++ [x]).map D.str)).dropLast = ws0.map D.str := by simp
      rw [edl]
      rw [List.length_append, List.length_singleton] at m201 ⊢
      refine ix_at (d := .tup (rwOf d)) (by rw [at_dk (κ := .inr x) (by rw [up_ne GA.symm]; exact hA) rfl, ← ed, val_gen u.nd hd]) ⟨_, .inl rfl, ?_⟩
      refine fr_seq (fun i δ S2 => ∃ fs2 ws2 r6, δ = [some (.tup ts), some (.str z), some (.ref A), some (.ref F), some (.ref G), none, r6] ∧ Fin ts z x d i fs2 ws2 ∧ S2 A = some (.dk (ts.map fun d => ((.inr (nmOf d) : Key), D.tup (rwOf d)))) ∧ S2 F = some (.lst (fs2.map D.str)) ∧ S2 G = some (.lst (ws2.map D.str)) ∧ 2 * (ts.length - fs2.length) + ws2.length < 2 * (ts.length - fs.length) + (ws0.length + 1) ∧ DL.Sub S S2) ⟨fs, ws0, r6, rfl, fd.go hd ed, by rw [up_ne GA.symm]; exact hA, by rw [up_ne GF.symm]; exact hF, up_same, by omega, sub.u nG⟩ ?_ ?_
      · rintro i r δ S2 hr ⟨fs2, ws2, r6, rfl, fn, hA2, hF2, hG2, hm, sub2⟩
        simp only [dVar, dC, dOp, dUn, dChain, dTr, dB, dAnd, dOr, dNot, dIf, dAndV, dOrV, dNotV, dNil, dCons, dTup, dLst, dLf, dNext, dSeq, dBreak, dCont, dDrop, dRet, dRetN, dIfS, gdName, gdNil, gdCons, gdTup, gdSub, dAsg, dPar, dCall, dCallK, dCB, dM0, dM, dGet1, dGet2, dDk, dDt, dPart, dNoPart, dSlice, dAug, dYes, dSort2, revD, iTupD, iLstD, iLf, iLw, iRange1, iRange2, iRange3, iEnumD, iZipD, iZipMD, iStrD, dGix, dDc, dIsi, dSortSet, dLenSet, dDlit, gdLst, dFor, dWhile, dLc, dLcM, dFld, dFldSet, dFldAdd, dMeth, dMake, dPar3, dDisp, dPrs, dFsi, dGget, dKgt, dKgtL, dCut, dTcut, wipeD, bodyE, startD, List.map_cons, List.map_nil, List.length_cons, List.length_nil, List.replicate_succ, List.replicate_zero, List.cons_append, List.nil_append, Nat.reduceAdd, Nat.reduceSub, Nat.zero_add, List.getElem?_cons_zero, List.getElem?_cons_succ, List.set_cons_zero, List.set_cons_succ, Option.some.injEq, exists_eq_left', exists_eq_left, if_true, sizeLine_eq, Nat.reduceLeDiff, Nat.reduceLT, Nat.zero_le, true_and, and_true, Bool.false_eq_true, if_false]
        obtain ⟨w, rest, rfl, hw⟩ := u.rw d hd r (List.mem_of_getElem? hr)
        refine ix_sq rfl rfl at_0 ⟨_, rfl, br2 (fun e => ?_) fun e => ⟨fs2, ws2, _, rfl, fn.skip hr (fun z hz => absurd hz (use_ne (of_xf e))), hA2, hF2, hG2, hm, sub2⟩⟩
        have e := of_xt e
        subst e
        obtain ⟨x1, t, x2, rfl, ht⟩ : ∃ a t b, rest = [a, .str t, b] ∧ t ∈ ts.map nmOf := hw.elim (fun h => absurd rfl h) id
        have hu : useOf (.tup [.str "use", x1, .str t, x2]) = some t := by
          show (if ("use" : Str) = "use" then some t else none) = some t
          rw [if_pos rfl]
        have l1 := u.len fn.nd fn.f
        have n100 := u.n
        refine ix_sq rfl rfl (at_n (i := 2) rfl) (in_ws (ws := fs2) (sq_l hF2) (fun z e => nomatch e) (u.oks ht) (fun y hy => u.oks (fn.f y hy)) ⟨_, rfl, br2 (fun k => ?_) fun k => ⟨fs2, ws2, _, rfl, fn.skip hr (fun z hz => by rw [hu] at hz; cases hz; exact of_nxf k), hA2, hF2, hG2, hm, sub2⟩⟩)
        have k := of_nxt k
        have fp := fn.push u hd ed hr hu k
        have l2 := u.len fp.nd fp.f
        rw [List.length_append, List.length_singleton] at l2
        refine ⟨ty_l hF2, ix_sq rfl rfl (at_n (i := 2) rfl) (app_of hF2 (by rw [List.length_map, sizeLine_eq]; omega) ?_)⟩
        have hG3 : up S2 F (.lst (fs2.map D.str ++ [.str t])) G = some (.lst (ws2.map D.str)) := by rw [up_ne GF]; exact hG2
        refine ⟨ty_l hG3, ix_sq rfl rfl (at_n (i := 2) rfl) (app_of hG3 (by rw [List.length_map, sizeLine_eq]; omega) ?_)⟩
        refine ⟨fs2 ++ [t], ws2 ++ [t], _, rfl, fp, ?_, ?_, ?_, ?_, (sub2.u nF).u nG⟩
        · rw [up_ne GA.symm, up_ne FA.symm]; exact hA2
        · rw [up_ne GF.symm, up_same, List.map_append]; rfl
        · rw [up_same, List.map_append]; rfl
        · rw [List.length_append, List.length_append, List.length_singleton]; omega
      · rintro i δ S2 hi ⟨fs2, ws2, r6, rfl, fn, hA2, hF2, hG2, hm, sub2⟩
        exact ⟨_, hm, fs2, ws2, r6, rfl, fn.done u hd ed hi, hA2, hF2, hG2, rfl, by omega, sub2⟩
    · obtain rfl : ws = [] := by
        cases ws with
        | nil => rfl
        | cons a b => cases g
      refine in_ws (ws := fs) (sq_l hF) (fun z e => nomatch e) (u.oks hz) (fun y hy => u.oks (fd.f y hy)) ?_
      rw [Bool.false_xor]
      exact rt_sub sub (q _ (by rw [decide_eq_true_iff]; exact fd.all z))
end K05

namespace K05
open PySem L2 PyProof.Rows DL
/-! ### sources -/
def nth3 : D → D
  | .tup (_ :: _ :: _ :: w :: _) => w
  | _ => .non
def isRet : D → Bool
  | .tup (.at (.str w) :: _) => decide (w = "return")
  | _ => false
def tplOk (s : Sz) (d : D) : Bool := isName (nth3 d) && rowsOk s (rwOf d) && (rwOf d).all fun r => !isRet r
noncomputable def rg (ts : List D) (z : Str) : Bool := @decide (Rch ts z z) (Classical.propDecidable _)
theorem rg_iff {ts : List D} {z : Str} {b : Bool} (h : b = true ↔ Rch ts z z) : b = rg ts z := by
  unfold rg
  cases b with
  | true => exact (@decide_eq_true _ (Classical.propDecidable _) (h.mp rfl)).symm
  | false => exact (@decide_eq_false _ (Classical.propDecidable _) fun k => by cases h.mpr k).symm
noncomputable def isSrc : D → Bool
  | .tup [a, b, c] => tupB kindsOk a && tupB procsOk c && tupB (heads 4 6) b && (items b).all (tplOk (szOf (items a) (items b) (items c))) && ((items b).all fun d => !rg (items b) (nmOf d)) && ((items c).all fun p => rowsOk (szOf (items a) (items b) (items c)) (rwOf p))
  | _ => false
theorem src_no {d : D} (h : isTp d = false) : isSrc d = false := by
  unfold isSrc
  split
  · cases h
  · rfl
theorem src_len {xs : List D} (h : xs.length ≠ 3) : isSrc (.tup xs) = false := by
  match xs, h with
  | [], _ => rfl
  | [_], _ => rfl
  | [_, _], _ => rfl
  | [_, _, _], h => exact absurd rfl h
  | _ :: _ :: _ :: _ :: _, _ => rfl
theorem use_row {s : Sz} {m : Int} {ds : List D} (h : rowOk s m (.tup (.str "use" :: ds)) = true) : ∃ a t b, ds = [a, .str t, b] ∧ t ∈ s.tm.map (·.1) := by
  have nK : ¬ ((Str.ofString "t") = Str.ofString "k") := ofS (by decide)
  rw [row_some (v := "xtY") (gs := ["x", "t", "Y"]) (by decide +kernel) (by decide +kernel), Bool.and_eq_true] at h
  obtain ⟨d1, d2, d3, rfl, p2, _⟩ := three_parts h.1
  rw [part_t, Bool.and_eq_true] at p2
  obtain ⟨z, rfl, _⟩ := nm_str p2.1
  exact ⟨d1, z, d3, rfl, of_decide_eq_true p2.2⟩
theorem row_word {s : Sz} {m : Int} {d : D} (h : rowOk s m d = true) : ∃ w rest, d = .tup (.str w :: rest) := by
  unfold rowOk at h
  split at h
  · exact ⟨_, _, rfl⟩
  · cases h
theorem uok_of {S : Sto} {ts : List D} {s : Sz} (hl : ts.length ≤ 6) (hh : ts.all (headN 4) = true) (hn : (ts.map nmOf).Nodup) (hs : s.tm = named ts) (ht : ∀ d ∈ ts, rowsOk s (rwOf d) = true) (hv : ∀ d ∈ ts, Vk S d) : UOk ts := by
  refine ⟨by omega, hh, hn, fun d hd r hr => ?_, fun d hd => ?_, fun d hd => ?_⟩
  · have h1 := List.all_eq_true.mp (show (rwOf d).all (rowOk s (rwOf d).length) = true from ht d hd) r hr
    obtain ⟨w, rest, rfl⟩ := row_word h1
    refine ⟨w, rest, rfl, ?_⟩
    by_cases e : w = "use"
    · subst e
      obtain ⟨a, t, b, rfl, hm⟩ := use_row h1
      refine .inr ⟨a, t, b, rfl, ?_⟩
      rw [hs] at hm
      unfold named at hm
      rw [List.map_map] at hm
      exact hm
    · exact .inl e
  · obtain ⟨z, ys, rs, r, rfl, _⟩ := head_shape (List.all_eq_true.mp hh d hd)
    exact (vk_str ((vk_tup (hv _ hd)).2 (.str z) (by simp))).1
  · obtain ⟨z, ys, rs, r, rfl, _⟩ := head_shape (List.all_eq_true.mp hh d hd)
    exact (vk_tup ((vk_tup (hv _ hd)).2 (.tup rs) (by simp))).1
theorem any_not {ds : List D} {f : D → Bool} : (ds.any f) = !ds.all fun d => !f d := by
  induction ds with
  | nil => rfl
  | cons d ds ih => rw [List.any_cons, List.all_cons, ih]; cases f d <;> simp
theorem any_f {ds : List D} {f : D → Bool} {S : Sto} {Q : KD} (q : Q (.bl (ds.any f)) S) : anyD [.fl (ds.map fun d => .bl (f d))] S Q := by
  refine ⟨_, ds.map f, rfl, by unfold lsOf; rw [List.map_map]; rfl, ?_⟩
  rw [List.any_map]
  exact q
end K05


namespace K05
open PySem L2 PyProof.Rows DL
def sp_is_template : SpD := fun ds S Q _ => ∃ (d : D) (p : Addr) (s : Sz), ds = [d, .ref p] ∧ Vk S d ∧ headN 4 d = true ∧ SzOk S p s ∧ Q (.bl (tplOk s d)) S
theorem ok_is_template {P : Program} {w : World} {K : PySem.W.Frag} {mg : Str → Option Value} {base : Heap} (T : Txt K w mg) (C_is_name : Cal P w K mg base 1 "is_name" s_is_name ["thing"] sp_is_name) (C_are_rows : Cal P w K mg base 5 "are_rows" s_are_rows ["rows", "sizes"] sp_are_rows) {ff : Addr} {fd : FuncData} (F : Fun K "is_template" "is_template" s_is_template ff fd) (mf : mg "is_template" = some (.ref ff)) : Cal P w K mg base 6 "is_template" s_is_template ["thing", "sizes"] sp_is_template := by
  refine ⟨ff, fd, okD F sc_is_template (fun ds S Q E h => ?len) (fun cdv A outer s H E ds S Q E' hcd hr h => ⟨_, (dss_cons (ds_if (dw_or (dt_not (dt_tr td_tru (de_c C_is_name hr (da_cons (de_ix (xd_ix hr) (de_var 0) de_int) da_nil)))) (dw_or1 (dt_not (dt_tr td_tru (de_c C_are_rows hr (da_cons (de_ix (xd_ix hr) (de_var 0) de_int) (da_cons (de_var 1) da_nil))))))).pt (dss_one (ds_ret de_bl)) dss_nil)
      (dss_one (ds_ret (de_callB (cd_all rfl) (by rfl) T.nb_all (da_cons (de_lc [("row", 2)] rfl sc_is_template.nd (di_tup (de_ix (xd_ix hr) (de_var 0) de_int)) (blkOk_by (N := ["thing", "sizes", "row"]) (sc := defScope s_is_template) (by decide +kernel)) (fun _ _ _ _ _ => (pg_name (i := 2) sc_is_template.nd rfl (Or.inl rfl) (Or.inr rfl))) (fun N => (tg_name (vs := [2]) (i := 2) (by decide))) (fun _ _ _ _ _ => dts_nil) (fun _ _ _ _ _ => (de_cmp (od_ne hr) (de_ix (xd_ix hr) (de_var 2) de_int) de_str))) da_nil))))), ?run⟩), F.binds (ps := ["thing", "sizes"]) fun _ _ _ _ _ _ us hl => match us, hl with | [_, _], _ => rfl, mf, F⟩
  case len => obtain ⟨d, p, s, rfl, _⟩ := h; rfl
  case run =>
    obtain ⟨d, p, s, rfl, hd, hh, hs, q⟩ := h
    simp only [dVar, dC, dOp, dUn, dChain, dTr, dB, dAnd, dOr, dNot, dIf, dAndV, dOrV, dNotV, dNil, dCons, dTup, dLst, dLf, dNext, dSeq, dBreak, dCont, dDrop, dRet, dRetN, dIfS, gdName, gdNil, gdCons, gdTup, gdSub, dAsg, dPar, dCall, dCallK, dCB, dM0, dM, dGet1, dGet2, dDk, dDt, dPart, dNoPart, dSlice, dAug, dYes, dSort2, revD, iTupD, iLstD, iLf, iLw, iRange1, iRange2, iRange3, iEnumD, iZipD, iZipMD, iStrD, dGix, dDc, dIsi, dSortSet, dLenSet, dDlit, gdLst, dFor, dWhile, dLc, dLcM, dFld, dFldSet, dFldAdd, dMeth, dMake, dPar3, dDisp, dPrs, dFsi, dGget, dKgt, dKgtL, dCut, dTcut, wipeD, bodyE, startD, List.map_cons, List.map_nil, List.length_cons, List.length_nil, List.replicate_succ, List.replicate_zero, List.cons_append, List.nil_append, Nat.reduceAdd, Nat.reduceSub, Nat.zero_add, List.getElem?_cons_zero, List.getElem?_cons_succ, List.set_cons_zero, List.set_cons_succ, Option.some.injEq, exists_eq_left', exists_eq_left, if_true, sizeLine_eq, Nat.reduceLeDiff, Nat.reduceLT, Nat.zero_le, true_and, and_true, Bool.false_eq_true, if_false]
    obtain ⟨z, ys, rs, r, rfl, hr, hz, hys, hdy⟩ := head_shape hh
    obtain ⟨w, rfl⟩ : ∃ w, r = [w] := by
      match r, hr with
      | [w], _ => exact ⟨w, rfl⟩
    obtain ⟨hl, hv⟩ := vk_tup hd
    have hvr := hv (.tup rs) (by simp)
    have q : Q (.bl (isName w && rowsOk s rs && rs.all fun r => !isRet r)) S := q
    refine ix_sq rfl rfl (at_n (i := 3) rfl) ⟨w, rfl, hv w (by simp), tru_b (br2 (fun g => ?_) fun g => ?_)⟩
    · have g : isName w = false := by simpa using g
      rw [g] at q
      exact rt_of q
    have g : isName w = true := by simpa using g
    rw [g, Bool.true_and] at q
    refine ix_sq rfl rfl (at_n (i := 2) rfl) ⟨rs, p, s, rfl, hvr, hs, tru_b (br2 (fun g => ?_) fun g => ?_)⟩
    · have g : rowsOk s rs = false := by simpa using g
      rw [g] at q
      exact rt_of q
    have g : rowsOk s rs = true := by simpa using g
    rw [g, Bool.true_and] at q
    refine ix_sq rfl rfl (at_n (i := 2) rfl) ⟨rs, .inl rfl, lc_mp (fun d => .bl (!isRet d)) (vk_tup hvr).1 (fun W i x acc hx wk => ?_) (all_f (rt_of q))⟩
    obtain ⟨wd, rest, rfl⟩ := row_word (List.all_eq_true.mp (show rs.all (rowOk s rs.length) = true from g) x (List.mem_of_getElem? hx))
    refine ix_sq rfl rfl at_0 ?_
    have e : xor true (decide (wd = "return")) = !isRet (.tup (.str wd :: rest)) := by
      rw [Bool.true_xor]; rfl
    show W (i + 1) (acc ++ [D.bl (xor true (decide (wd = "return")))]) S
    rw [e]
    exact wk
def sp_is_source : SpD := fun ds S Q _ => ∃ (d : D), ds = [d] ∧ Vk S d ∧ Q (.bl (isSrc d)) S
theorem ok_is_source {P : Program} {w : World} {K : PySem.W.Frag} {mg : Str → Option Value} {base : Heap} (T : Txt K w mg) (C_sizes_of : Cal P w K mg base 1 "sizes_of" s_sizes_of ["kinds", "templates", "procedures"] sp_sizes_of) (C_have_heads : Cal P w K mg base 4 "have_heads" s_have_heads ["thing", "size", "most"] sp_have_heads) (C_are_kinds : Cal P w K mg base 4 "are_kinds" s_are_kinds ["thing"] sp_are_kinds) (C_are_procedures : Cal P w K mg base 5 "are_procedures" s_are_procedures ["thing"] sp_are_procedures) (C_are_rows : Cal P w K mg base 5 "are_rows" s_are_rows ["rows", "sizes"] sp_are_rows) (C_is_template : Cal P w K mg base 6 "is_template" s_is_template ["thing", "sizes"] sp_is_template) (C_used_by : Cal P w K mg base 1 "used_by" s_used_by ["templates", "name"] sp_used_by) {ff : Addr} {fd : FuncData} (F : Fun K "is_source" "is_source" s_is_source ff fd) (mf : mg "is_source" = some (.ref ff)) : Cal P w K mg base 7 "is_source" s_is_source ["thing"] sp_is_source := by
  refine ⟨ff, fd, okD F sc_is_source (fun ds S Q E h => ?len) (fun cdv A outer s H E ds S Q E' hcd hr h => ⟨_, (dss_cons (ds_if (dw_or (dt_not (dt_tr td_tru (de_isi (tn := "tuple") (by rfl) T.nb_isinstance (by rfl) T.nb_tuple (de_var 0)))) (dw_or (dt_cmp (od_ne hr) (de_callB cd_len (by rfl) T.nb_len (da_cons (de_var 0) da_nil)) de_int) (dw_or (dt_not (dt_tr td_tru (de_c C_are_kinds hr (da_cons (de_ix (xd_ix hr) (de_var 0) de_int) da_nil)))) (dw_or1 (dt_not (dt_tr td_tru (de_c C_are_procedures hr (da_cons (de_ix (xd_ix hr) (de_var 0) de_int) da_nil)))))))).pt (dss_one (ds_ret de_bl)) dss_nil)
      (dss_cons (ds_if (dt_not (dt_tr td_tru (de_c C_have_heads hr (da_cons (de_ix (xd_ix hr) (de_var 0) de_int) (da_cons de_int (da_cons (de_gi T.g_MOST_TEMPLATES) da_nil)))))) (dss_one (ds_ret de_bl)) dss_nil)
      (dss_cons (ds_set 1 sc_is_source.nd (de_c C_sizes_of hr (da_cons (de_ix (xd_ix hr) (de_var 0) de_int) (da_cons (de_ix (xd_ix hr) (de_var 0) de_int) (da_cons (de_ix (xd_ix hr) (de_var 0) de_int) da_nil)))))
      (dss_cons (ds_if (dt_not (dt_tr td_tru (de_callB (cd_all rfl) (by rfl) T.nb_all (da_cons (de_lc [("template", 2)] rfl sc_is_source.nd (di_tup (de_ix (xd_ix hr) (de_var 0) de_int)) (blkOk_by (N := ["thing", "sizes", "template", "procedure"]) (sc := defScope s_is_source) (by decide +kernel)) (fun _ _ _ _ _ => (pg_name (i := 2) sc_is_source.nd rfl (Or.inl rfl) (Or.inr rfl))) (fun N => (tg_name (vs := [2]) (i := 2) (by decide))) (fun _ _ _ _ _ => dts_nil) (fun _ _ _ _ _ => (de_c C_is_template hr (da_cons (de_var 2) (da_cons (de_var 1) da_nil))))) da_nil)))) (dss_one (ds_ret de_bl)) dss_nil)
      (dss_cons (ds_if (dt_tr td_tru (de_callB (cd_any rfl) (by rfl) T.nb_any (da_cons (de_lc [("template", 2)] rfl sc_is_source.nd (di_tup (de_ix (xd_ix hr) (de_var 0) de_int)) (blkOk_by (N := ["thing", "sizes", "template", "procedure"]) (sc := defScope s_is_source) (by decide +kernel)) (fun _ _ _ _ _ => (pg_name (i := 2) sc_is_source.nd rfl (Or.inl rfl) (Or.inr rfl))) (fun N => (tg_name (vs := [2]) (i := 2) (by decide))) (fun _ _ _ _ _ => dts_nil) (fun _ _ _ _ _ => (de_cmp (od_in hr) (de_ix (xd_ix hr) (de_var 2) de_int) (de_c C_used_by hr (da_cons (de_ix (xd_ix hr) (de_var 0) de_int) (da_cons (de_ix (xd_ix hr) (de_var 2) de_int) da_nil)))))) da_nil))) (dss_one (ds_ret de_bl)) dss_nil)
      (dss_one (ds_ret (de_callB (cd_all rfl) (by rfl) T.nb_all (da_cons (de_lc [("procedure", 3)] rfl sc_is_source.nd (di_tup (de_ix (xd_ix hr) (de_var 0) de_int)) (blkOk_by (N := ["thing", "sizes", "template", "procedure"]) (sc := defScope s_is_source) (by decide +kernel)) (fun _ _ _ _ _ => (pg_name (i := 3) sc_is_source.nd rfl (Or.inl rfl) (Or.inr rfl))) (fun N => (tg_name (vs := [3]) (i := 3) (by decide))) (fun _ _ _ _ _ => dts_nil) (fun _ _ _ _ _ => (de_c C_are_rows hr (da_cons (de_ix (xd_ix hr) (de_var 3) de_int) (da_cons (de_var 1) da_nil))))) da_nil))))))))), ?run⟩), F.binds (ps := ["thing"]) fun _ _ _ _ _ _ us hl => match us, hl with | [_], _ => rfl, mf, F⟩
  case len => obtain ⟨d, rfl, _⟩ := h; rfl
  case run =>
    obtain ⟨d, rfl, hd, q⟩ := h
    simp only [dVar, dC, dOp, dUn, dChain, dTr, dB, dAnd, dOr, dNot, dIf, dAndV, dOrV, dNotV, dNil, dCons, dTup, dLst, dLf, dNext, dSeq, dBreak, dCont, dDrop, dRet, dRetN, dIfS, gdName, gdNil, gdCons, gdTup, gdSub, dAsg, dPar, dCall, dCallK, dCB, dM0, dM, dGet1, dGet2, dDk, dDt, dPart, dNoPart, dSlice, dAug, dYes, dSort2, revD, iTupD, iLstD, iLf, iLw, iRange1, iRange2, iRange3, iEnumD, iZipD, iZipMD, iStrD, dGix, dDc, dIsi, dSortSet, dLenSet, dDlit, gdLst, dFor, dWhile, dLc, dLcM, dFld, dFldSet, dFldAdd, dMeth, dMake, dPar3, dDisp, dPrs, dFsi, dGget, dKgt, dKgtL, dCut, dTcut, wipeD, bodyE, startD, List.map_cons, List.map_nil, List.length_cons, List.length_nil, List.replicate_succ, List.replicate_zero, List.cons_append, List.nil_append, Nat.reduceAdd, Nat.reduceSub, Nat.zero_add, List.getElem?_cons_zero, List.getElem?_cons_succ, List.set_cons_zero, List.set_cons_succ, Option.some.injEq, exists_eq_left', exists_eq_left, if_true, sizeLine_eq, Nat.reduceLeDiff, Nat.reduceLT, Nat.zero_le, true_and, and_true, Bool.false_eq_true, if_false]
    obtain ⟨t, h1, h2, _⟩ := vk_ty hd
    refine ⟨t, h1, tru_b ?_⟩
    rw [h2]
    by_cases c : isTp d = true
    rotate_left
    · have c : isTp d = false := by simpa using c
      rw [src_no c] at q
      rw [c]
      exact brT rfl (rt_of q)
    obtain ⟨xs, rfl⟩ := tp_of c
    obtain ⟨hl, hv⟩ := vk_tup hd
    refine brF rfl (len_sq rfl ⟨_, rfl, br2 (fun a => ?_) fun a => ?_⟩)
    · have a := of_nxt a
      rw [src_len (by omega)] at q
      exact rt_of q
    have a := of_nxf a
    obtain ⟨x, y, z, rfl⟩ : ∃ x y z, xs = [x, y, z] := by
      match xs, (show xs.length = 3 by omega) with
      | [x, y, z], _ => exact ⟨x, y, z, rfl⟩
    have hx := hv x (by simp)
    have hy := hv y (by simp)
    have hz := hv z (by simp)
    have q : Q (.bl (tupB kindsOk x && tupB procsOk z && tupB (heads 4 6) y && (items y).all (tplOk (szOf (items x) (items y) (items z))) && ((items y).all fun d => !rg (items y) (nmOf d)) && ((items z).all fun p => rowsOk (szOf (items x) (items y) (items z)) (rwOf p)))) S := q
    refine ix_sq rfl rfl at_0 ⟨x, rfl, hx, tru_b (br2 (fun b => ?_) fun b => ?_)⟩
    · have b : tupB kindsOk x = false := by simpa using b
      rw [b] at q
      exact rt_of q
    have b : tupB kindsOk x = true := by simpa using b
    rw [b, Bool.true_and] at q
    obtain ⟨ks, rfl, hks⟩ := tupB_yes b
    refine ix_sq rfl rfl (at_n (i := 2) rfl) ⟨z, rfl, hz, tru_b (br2 (fun b => ?_) fun b => ?_)⟩
    · have b : tupB procsOk z = false := by simpa using b
      rw [b] at q
      exact rt_of q
    have b : tupB procsOk z = true := by simpa using b
    rw [b, Bool.true_and] at q
    obtain ⟨ps, rfl, hps⟩ := tupB_yes b
    refine ix_sq rfl rfl (at_n (i := 1) rfl) ⟨y, 4, 6, rfl, by decide, hy, tru_b (br2 (fun b => ?_) fun b => ?_)⟩
    · have b : tupB (heads 4 6) y = false := by simpa using b
      rw [b] at q
      exact rt_of q
    have b : tupB (heads 4 6) y = true := by simpa using b
    rw [b, Bool.true_and] at q
    obtain ⟨ts, rfl, hts⟩ := tupB_yes b
    have q : Q (.bl (ts.all (tplOk (szOf ks ts ps)) && (ts.all fun d => !rg ts (nmOf d)) && (ps.all fun p => rowsOk (szOf ks ts ps) (rwOf p)))) S := q
    unfold kindsOk at hks
    unfold procsOk heads at hps
    unfold heads at hts
    simp only [Bool.and_eq_true] at hks hps hts
    obtain ⟨⟨hk1, hk2⟩, hk3⟩ := hks
    obtain ⟨⟨⟨hp1, hp2⟩, hp3⟩, hp4⟩ := hps
    obtain ⟨⟨ht1, ht2⟩, ht3⟩ := hts
    obtain ⟨lk, vk⟩ := vk_tup hx
    obtain ⟨lt, vt⟩ := vk_tup hy
    obtain ⟨lp, vp⟩ := vk_tup hz
    refine ix_sq rfl rfl at_0 (ix_sq rfl rfl (at_n (i := 1) rfl) (ix_sq rfl rfl (at_n (i := 2) rfl) ⟨ks, ts, ps, rfl, lk, lt, lp, hk2, ht2, hp2, of_decide_eq_true hk3, of_decide_eq_true ht3, of_decide_eq_true hp3, fun p S' hsz sub => ?_⟩))
    refine ix_sq rfl rfl (at_n (i := 1) rfl) ⟨ts, .inl rfl, lc_mp (fun d => .bl (tplOk (szOf ks ts ps) d)) lt (fun W i z acc hz w => ⟨z, p, _, rfl, vk_sub sub (vt _ (List.mem_of_getElem? hz)), List.all_eq_true.mp ht2 _ (List.mem_of_getElem? hz), hsz, w⟩) (all_f (tru_b (br2 (fun f => ?_) fun f => ?_)))⟩
    · have f : ts.all (tplOk (szOf ks ts ps)) = false := by simpa using f
      have f2 : (ts.all fun d => tplOk (szOf ks ts ps) d) = false := f
      rw [f2] at q
      exact rt_sub sub q
    have f : ts.all (tplOk (szOf ks ts ps)) = true := by simpa using f
    have u : UOk ts := uok_of (S := S) (s := szOf ks ts ps) (of_decide_eq_true ht1) ht2 (of_decide_eq_true ht3) rfl (fun d hd => by
      have := List.all_eq_true.mp f d hd
      unfold tplOk at this
      simp only [Bool.and_eq_true] at this
      exact this.1.2) vt
    rw [f, Bool.true_and] at q
    refine ix_sq rfl rfl (at_n (i := 1) rfl) ⟨ts, .inl rfl, lc_mp (fun d => .bl (rg ts (nmOf d))) lt (fun W i z acc hz w => ?_) (any_f (tru_b ?_))⟩
    · have hm := List.mem_of_getElem? hz
      have hmn : nmOf z ∈ ts.map nmOf := List.mem_map_of_mem hm
      obtain ⟨nm, ys, us, r, rfl, _⟩ := head_shape (List.all_eq_true.mp ht2 z hm)
      refine ix_sq rfl rfl at_0 (ix_sq rfl rfl (at_n (i := 1) rfl) (ix_sq rfl rfl at_0 ⟨ts, nm, rfl, u, hmn, fun fs hfs hok => ?_⟩))
      refine in_ws (ws := fs) rfl (fun z e => nomatch e) (u.oks hmn) hok ?_
      have er : decide (nm ∈ fs) = rg ts nm := rg_iff (by rw [decide_eq_true_iff]; exact hfs nm)
      rw [Bool.false_xor, er]
      exact w
    rw [any_not]
    refine br2 (fun g => ?_) fun g => ?_
    · have g : (ts.all fun d => !rg ts (nmOf d)) = false := by simpa using g
      rw [g] at q
      exact rt_sub sub q
    have g : (ts.all fun d => !rg ts (nmOf d)) = true := by simpa using g
    rw [g, Bool.true_and] at q
    refine ix_sq rfl rfl (at_n (i := 2) rfl) ⟨ps, .inl rfl, lc_mp (fun d => .bl (rowsOk (szOf ks ts ps) (rwOf d))) lp (fun W i z acc hz w => ?_) (all_f (rt_sub sub q))⟩
    have hm := List.mem_of_getElem? hz
    obtain ⟨nm, ys, us, r, rfl, _⟩ := head_shape (List.all_eq_true.mp hp2 z hm)
    exact ix_sq rfl rfl (at_n (i := 2) rfl) ⟨us, p, _, rfl, vk_sub sub ((vk_tup (vp _ hm)).2 _ (by simp)), hsz, w⟩
end K05


namespace K05
open PySem L2 PyProof.Rows DL
theorem vok_mono {S : Sto} {ls dd : Bool} {n : Nat} : ∀ {d : D}, vok S ls dd n d → vok S true true n d := by
  intro d
  induction d using D.rec (motive_2 := fun xs => voks S ls dd n xs → voks S true true n xs) with
  | «at» v =>
    intro k
    cases v with
    | ref a => unfold vok at k ⊢; exact ⟨rfl, k.2⟩
    | non => exact k
    | bl b => exact k
    | int i => exact k
    | str z => exact k
    | byt _ => unfold vok at k; exact k.elim
    | flt _ => unfold vok at k; exact k.elim
    | ty _ => unfold vok at k; exact k.elim
  | tup l ih => intro k; unfold vok at k ⊢; exact ⟨k.1, ih k.2⟩
  | fl l ih => intro k; unfold vok at k ⊢; exact ⟨rfl, ih k.2⟩
  | wt l ih => intro k; unfold vok at k; exact k.elim
  | nil => unfold voks; trivial
  | cons d ds ih ihs =>
    rename_i k
    unfold voks at k ⊢
    exact ⟨ih k.1, ihs k.2⟩
theorem eqv_strs : ∀ bs cs : List Str, PyData.eqvAll (toPys (bs.map D.str)) (toPys (cs.map D.str)) = decide (bs = cs)
  | [], [] => by simp [toPys, PyData.eqvAll]
  | [], c :: cs => by simp [toPys, PyData.eqvAll]
  | b :: bs, [] => by simp [toPys, PyData.eqvAll]
  | b :: bs, c :: cs => by
    have ih := eqv_strs bs cs
    rw [List.map_cons, List.map_cons]
    unfold toPys
    unfold toPy
    simp only [PyData.eqvAll, PyData.eqv, ih]
    have e : (b == c) = decide (b = c) := rfl
    by_cases h : b = c <;> by_cases h2 : bs = cs <;> simp [h, h2, e]
theorem eq_strs {neg : Bool} {bs cs : List Str} {S : Sto} {Q : KD} (hb : ∀ x ∈ bs, PyData.strOk x = true) (hc : ∀ x ∈ cs, PyData.strOk x = true) (q : Q (.bl (xor neg (decide (bs = cs)))) S) : eqD neg (.fl (bs.map D.str)) (.fl (cs.map D.str)) S Q := by
  have cm : ∀ l : List Str, (∀ x ∈ l, PyData.strOk x = true) → Cm 1 (.fl (l.map D.str)) := fun l hl => Cm.fl (k := 0) fun d hd => by
    obtain ⟨b, hb, rfl⟩ := List.mem_map.mp hd
    exact Cm.str (hl b hb)
  refine ceq_of (cm bs hb) (cm cs hc) ?_ (fun u e => nomatch e)
  have e : PyData.eqv (toPy (.fl (bs.map D.str))) (toPy (.fl (cs.map D.str))) = decide (bs = cs) := by
    unfold toPy
    simp only [PyData.eqv]
    exact eqv_strs bs cs
  rw [e]
  exact q
theorem sd_nodup {ns ys zs : List Str} (h : IsSd ns ys) (hp : zs.Perm ns) (hs : sortedS zs = true) : decide (ys = zs) = decide ns.Nodup := by
  refine decide_eq_decide.mpr ⟨fun e => ?_, fun hn => ?_⟩
  · subst e
    exact hp.nodup_iff.mp h.2.1
  · exact h.one ⟨hs, hp.nodup_iff.mpr hn, fun z => hp.mem_iff⟩
/-- the law's heads: no more is said of what stands behind the names -/
def lhead (n : Nat) : D → Bool
  | .tup (a :: y :: r) => decide (r.length + 2 = n) && isName a && areNames y && dist (items y)
  | _ => false
def lheads (n m : Nat) (xs : List D) : Bool := decide (xs.length ≤ m) && xs.all (lhead n) && decide ((xs.map nmOf).Nodup)
theorem lhead_no {n : Nat} {d : D} (h : isTp d = false) : lhead n d = false := by
  unfold lhead
  split
  · cases h
  · rfl
theorem lhead_len {n : Nat} {xs : List D} (h : xs.length ≠ n) (h2 : 2 ≤ n) : lhead n (.tup xs) = false := by
  match xs, h with
  | [], _ => rfl
  | [_], _ => rfl
  | a :: y :: r, h =>
    have : decide (r.length + 2 = n) = false := decide_eq_false fun e => h (by simp only [List.length_cons]; omega)
    unfold lhead
    dsimp only
    rw [this]
    rfl
theorem lhead_shape {n : Nat} {d : D} (h : lhead n d = true) : ∃ z ys r, d = .tup (.str z :: .tup ys :: r) ∧ r.length + 2 = n ∧ nmS z = true ∧ ys.all isName = true ∧ dist ys = true := by
  unfold lhead at h
  split at h
  · rename_i a y r
    rw [Bool.and_eq_true, Bool.and_eq_true, Bool.and_eq_true] at h
    obtain ⟨⟨⟨h1, h2⟩, h3⟩, h4⟩ := h
    obtain ⟨z, rfl, hz⟩ := nm_str h2
    obtain ⟨ys, rfl, hy⟩ := an_tup h3
    exact ⟨z, ys, r, rfl, of_decide_eq_true h1, hz, hy, h4⟩
  · cases h
def sp__law_are_heads : SpD := fun ds S Q _ => ∃ (d : D) (n m : Nat), ds = [d, .int (n : Nat), .int (m : Nat)] ∧ 2 ≤ n ∧ Vk S d ∧ Q (.bl (tupB (lheads n m) d)) S
theorem ok__law_are_heads {P : Program} {w : World} {K : PySem.W.Frag} {mg : Str → Option Value} {base : Heap} (T : Txt K w mg) (C__law_is_name : Cal P w K mg base 1 "_law_is_name" s__law_is_name ["it"] sp__law_is_name) (C__law_are_names : Cal P w K mg base 2 "_law_are_names" s__law_are_names ["it"] sp__law_are_names) {ff : Addr} {fd : FuncData} (F : Fun K "_law_are_heads" "_law_are_heads" s__law_are_heads ff fd) (mf : mg "_law_are_heads" = some (.ref ff)) : Cal P w K mg base 3 "_law_are_heads" s__law_are_heads ["it", "size", "most"] sp__law_are_heads := by
  refine ⟨ff, fd, okD F sc__law_are_heads (fun ds S Q E h => ?len) (fun cdv A outer s H E ds S Q E' hcd hr h => ⟨_, (dss_cons (ds_if (dw_or (dt_not (dt_tr td_tru (de_isi (tn := "tuple") (by rfl) T.nb_isinstance (by rfl) T.nb_tuple (de_var 0)))) (dw_or1 (dt_cmp od_gt (de_callB cd_len (by rfl) T.nb_len (da_cons (de_var 0) da_nil)) (de_var 2)))).pt (dss_one (ds_ret de_bl)) dss_nil)
      (dss_cons (ds_for PassesOwn.never rfl (di_tup (de_var 0)) (dg_name 3 sc__law_are_heads.nd) (dss_cons (ds_if (dw_or (dt_not (dt_tr td_tru (de_isi (tn := "tuple") (by rfl) T.nb_isinstance (by rfl) T.nb_tuple (de_var 3)))) (dw_or1 (dt_cmp (od_ne hr) (de_callB cd_len (by rfl) T.nb_len (da_cons (de_var 3) da_nil)) (de_var 1)))).pt (dss_one (ds_ret de_bl)) dss_nil)
      (dss_cons (ds_if (dw_or (dt_not (dt_tr td_tru (de_c C__law_is_name hr (da_cons (de_ix (xd_ix hr) (de_var 3) de_int) da_nil)))) (dw_or1 (dt_not (dt_tr td_tru (de_c C__law_are_names hr (da_cons (de_ix (xd_ix hr) (de_var 3) de_int) da_nil)))))).pt (dss_one (ds_ret de_bl)) dss_nil)
      (dss_one (ds_if (dt_cmp (od_ne hr) (de_sortSet rfl (by rfl) T.nb_sorted (by rfl) T.nb_set (de_ix (xd_ix hr) (de_var 3) de_int)) (de_callB cd_sortedQ (by rfl) T.nb_sorted (da_cons (de_ix (xd_ix hr) (de_var 3) de_int) da_nil))) (dss_one (ds_ret de_bl)) dss_nil)))))
      (dss_one (ds_ret (de_cmp (od_eq hr) (de_lenSet rfl (by rfl) T.nb_len (by rfl) T.nb_set (de_lc [("one", 3)] rfl sc__law_are_heads.nd (di_tup (de_var 0)) (blkOk_by (N := ["it", "size", "most", "one"]) (sc := defScope s__law_are_heads) (by decide +kernel)) (fun _ _ _ _ _ => (pg_name (i := 3) sc__law_are_heads.nd rfl (Or.inl rfl) (Or.inr rfl))) (fun N => (tg_name (vs := [3]) (i := 3) (by decide))) (fun _ _ _ _ _ => dts_nil) (fun _ _ _ _ _ => (de_ix (xd_ix hr) (de_var 3) de_int)))) (de_callB cd_len (by rfl) T.nb_len (da_cons (de_var 0) da_nil))))))), ?run⟩), F.binds (ps := ["it", "size", "most"]) fun _ _ _ _ _ _ us hl => match us, hl with | [_, _, _], _ => rfl, mf, F⟩
  case len => obtain ⟨d, n, m, rfl, _⟩ := h; rfl
  case run =>
    obtain ⟨d, n, m, rfl, h2n, hd, q⟩ := h
    simp only [dVar, dC, dOp, dUn, dChain, dTr, dB, dAnd, dOr, dNot, dIf, dAndV, dOrV, dNotV, dNil, dCons, dTup, dLst, dLf, dNext, dSeq, dBreak, dCont, dDrop, dRet, dRetN, dIfS, gdName, gdNil, gdCons, gdTup, gdSub, dAsg, dPar, dCall, dCallK, dCB, dM0, dM, dGet1, dGet2, dDk, dDt, dPart, dNoPart, dSlice, dAug, dYes, dSort2, revD, iTupD, iLstD, iLf, iLw, iRange1, iRange2, iRange3, iEnumD, iZipD, iZipMD, iStrD, dGix, dDc, dIsi, dSortSet, dLenSet, dDlit, gdLst, dFor, dWhile, dLc, dLcM, dFld, dFldSet, dFldAdd, dMeth, dMake, dPar3, dDisp, dPrs, dFsi, dGget, dKgt, dKgtL, dCut, dTcut, wipeD, bodyE, startD, List.map_cons, List.map_nil, List.length_cons, List.length_nil, List.replicate_succ, List.replicate_zero, List.cons_append, List.nil_append, Nat.reduceAdd, Nat.reduceSub, Nat.zero_add, List.getElem?_cons_zero, List.getElem?_cons_succ, List.set_cons_zero, List.set_cons_succ, Option.some.injEq, exists_eq_left', exists_eq_left, if_true, sizeLine_eq, Nat.reduceLeDiff, Nat.reduceLT, Nat.zero_le, true_and, and_true, Bool.false_eq_true, if_false]
    obtain ⟨t, h1, h2, _⟩ := vk_ty hd
    refine ⟨t, h1, tru_b ?_⟩
    rw [h2]
    by_cases c : isTp d = true
    rotate_left
    · have c : isTp d = false := by simpa using c
      rw [tupB_no c] at q
      rw [c]
      exact brT rfl (rt_of q)
    obtain ⟨xs, rfl⟩ := tp_of c
    obtain ⟨hl, hv⟩ := vk_tup hd
    have q : Q (.bl (decide (xs.length ≤ m) && xs.all (lhead n) && decide ((xs.map nmOf).Nodup))) S := q
    refine brF rfl (len_sq rfl (it_of trivial ⟨_, rfl, br2 (fun a => ?_) fun a => ⟨xs, .inl rfl, ?_⟩⟩))
    · have a := of_decide_eq_true a
      rw [decide_eq_false (p := xs.length ≤ m) (by omega)] at q
      exact rt_of q
    have a := of_decide_eq_false a
    rw [decide_eq_true (p := xs.length ≤ m) (by omega), Bool.true_and] at q
    refine fr_seq (fun i δ S' => S' = S ∧ ∃ r, δ = [some (.tup xs), some (.int (n : Nat)), some (.int (m : Nat)), r] ∧ ∀ x ∈ xs.take i, lhead n x = true) ⟨rfl, none, rfl, fun x hx => by simp at hx⟩ ?_ ?_
    · rintro i x δ S' hx ⟨rfl, r0, rfl, hall⟩
      simp only [dVar, dC, dOp, dUn, dChain, dTr, dB, dAnd, dOr, dNot, dIf, dAndV, dOrV, dNotV, dNil, dCons, dTup, dLst, dLf, dNext, dSeq, dBreak, dCont, dDrop, dRet, dRetN, dIfS, gdName, gdNil, gdCons, gdTup, gdSub, dAsg, dPar, dCall, dCallK, dCB, dM0, dM, dGet1, dGet2, dDk, dDt, dPart, dNoPart, dSlice, dAug, dYes, dSort2, revD, iTupD, iLstD, iLf, iLw, iRange1, iRange2, iRange3, iEnumD, iZipD, iZipMD, iStrD, dGix, dDc, dIsi, dSortSet, dLenSet, dDlit, gdLst, dFor, dWhile, dLc, dLcM, dFld, dFldSet, dFldAdd, dMeth, dMake, dPar3, dDisp, dPrs, dFsi, dGget, dKgt, dKgtL, dCut, dTcut, wipeD, bodyE, startD, List.map_cons, List.map_nil, List.length_cons, List.length_nil, List.replicate_succ, List.replicate_zero, List.cons_append, List.nil_append, Nat.reduceAdd, Nat.reduceSub, Nat.zero_add, List.getElem?_cons_zero, List.getElem?_cons_succ, List.set_cons_zero, List.set_cons_succ, Option.some.injEq, exists_eq_left', exists_eq_left, if_true, sizeLine_eq, Nat.reduceLeDiff, Nat.reduceLT, Nat.zero_le, true_and, and_true, Bool.false_eq_true, if_false]
      have hm := List.mem_of_getElem? hx
      have bad : lhead n x = false → ∃ d1 S1, VW (D.bl false) S' d1 S1 ∧ Q d1 S1 := fun e => by
        have : xs.all (lhead n) = false := by
          rw [Bool.eq_false_iff]
          intro h
          have := List.all_eq_true.mp h x hm
          rw [e] at this
          cases this
        rw [this] at q
        exact rt_of q
      have good : lhead n x = true → ∀ y ∈ xs.take (i + 1), lhead n y = true := fun e y hy => by
        rw [tk1 hx] at hy
        rcases List.mem_append.mp hy with h | h
        · exact hall y h
        · rw [List.mem_singleton.mp h]; exact e
      have hxv := hv x hm
      obtain ⟨t3, f1, f2, _⟩ := vk_ty hxv
      refine ⟨t3, f1, tru_b ?_⟩
      rw [f2]
      by_cases cx : isTp x = true
      rotate_left
      · have cx : isTp x = false := by simpa using cx
        rw [cx]
        exact brT rfl (bad (lhead_no cx))
      obtain ⟨ds, rfl⟩ := tp_of cx
      obtain ⟨hld, hvd⟩ := vk_tup hxv
      refine brF rfl (len_sq rfl ⟨_, rfl, br2 (fun g => ?_) fun g => ?_⟩)
      · have g := of_nxt g
        exact bad (lhead_len (by omega) h2n)
      have g := of_nxf g
      obtain ⟨x0, y, r, rfl⟩ : ∃ x0 y r, ds = x0 :: y :: r := by
        match ds, (show ds.length = n by omega) with
        | [], e => rw [← e] at h2n; exact absurd h2n (by simp)
        | [_], e => rw [← e] at h2n; exact absurd h2n (by simp)
        | x :: y :: r, _ => exact ⟨x, y, r, rfl⟩
      have el : lhead n (.tup (x0 :: y :: r)) = (isName x0 && areNames y && dist (items y)) := by
        have e : decide (r.length + 2 = n) = true := decide_eq_true (by simp only [List.length_cons] at g; omega)
        unfold lhead
        dsimp only
        rw [e, Bool.true_and]
      rw [el] at bad good
      refine ix_sq rfl rfl at_0 ⟨x0, rfl, hvd _ (by simp), tru_b (br2 (fun b => ?_) fun b => ?_)⟩
      · have b : isName x0 = false := by simpa using b
        exact bad (by rw [b]; rfl)
      have b : isName x0 = true := by simpa using b
      rw [b, Bool.true_and] at bad good
      refine ix_sq rfl rfl (at_n (i := 1) rfl) ⟨y, rfl, hvd _ (by simp), tru_b (br2 (fun b => ?_) fun b => ?_)⟩
      · have b : areNames y = false := by simpa using b
        exact bad (by rw [b]; rfl)
      have b : areNames y = true := by simpa using b
      obtain ⟨ys, rfl, hys⟩ := an_tup b
      rw [b, Bool.true_and] at bad good
      obtain ⟨hly, hvy⟩ := vk_tup (hvd (.tup ys) (by simp))
      have es := names_str hys
      have okn : ∀ z ∈ ys.map strOf, PyData.strOk z = true := fun z hz => by
        obtain ⟨d, hd2, rfl⟩ := List.mem_map.mp hz
        obtain ⟨z2, rfl, _⟩ := nm_str (List.all_eq_true.mp hys d hd2)
        exact (vk_str (hvy _ hd2)).1
      refine ix_sq rfl rfl (at_n (i := 1) rfl) ⟨ys, rfl, by show ys.length + 1 < 4096; omega, .inl ⟨ys.map strOf, es, fun us hus => ix_sq rfl rfl (at_n (i := 1) rfl) ⟨_, ys.map strOf, rfl, by rw [← es]; rfl, by rw [List.length_map]; omega, fun zs hp hs => ?_⟩⟩⟩
      refine eq_strs (fun z hz => okn z ((hus.2.2 z).mp hz)) (fun z hz => okn z (hp.mem_iff.mp hz)) ⟨_, rfl, ?_⟩
      rw [sd_nodup hus hp hs]
      refine br2 (fun j => bad (decide_eq_false (of_nxt j))) fun j => ⟨rfl, _, rfl, good (decide_eq_true (of_nxf j))⟩
    · rintro i δ S' hi ⟨rfl, r0, rfl, hall⟩
      rw [List.take_of_length_le hi] at hall
      have e : xs.all (lhead n) = true := List.all_eq_true.mpr hall
      rw [e, Bool.true_and] at q
      simp only [dVar, dC, dOp, dUn, dChain, dTr, dB, dAnd, dOr, dNot, dIf, dAndV, dOrV, dNotV, dNil, dCons, dTup, dLst, dLf, dNext, dSeq, dBreak, dCont, dDrop, dRet, dRetN, dIfS, gdName, gdNil, gdCons, gdTup, gdSub, dAsg, dPar, dCall, dCallK, dCB, dM0, dM, dGet1, dGet2, dDk, dDt, dPart, dNoPart, dSlice, dAug, dYes, dSort2, revD, iTupD, iLstD, iLf, iLw, iRange1, iRange2, iRange3, iEnumD, iZipD, iZipMD, iStrD, dGix, dDc, dIsi, dSortSet, dLenSet, dDlit, gdLst, dFor, dWhile, dLc, dLcM, dFld, dFldSet, dFldAdd, dMeth, dMake, dPar3, dDisp, dPrs, dFsi, dGget, dKgt, dKgtL, dCut, dTcut, wipeD, bodyE, startD, List.map_cons, List.map_nil, List.length_cons, List.length_nil, List.replicate_succ, List.replicate_zero, List.cons_append, List.nil_append, Nat.reduceAdd, Nat.reduceSub, Nat.zero_add, List.getElem?_cons_zero, List.getElem?_cons_succ, List.set_cons_zero, List.set_cons_succ, Option.some.injEq, exists_eq_left', exists_eq_left, if_true, sizeLine_eq, Nat.reduceLeDiff, Nat.reduceLT, Nat.zero_le, true_and, and_true, Bool.false_eq_true, if_false]
      refine ⟨xs, .inl rfl, lc_mp (fun d => .str (nmOf d)) hl (fun W i x acc hx w => ?_) ?_⟩
      · obtain ⟨z, ys, r, rfl, _⟩ := lhead_shape (hall x (List.mem_of_getElem? hx))
        exact ix_sq rfl rfl at_0 w
      · refine ⟨_, rfl, by rw [List.length_map]; show xs.length + 1 < 4096; omega, (xs.map nmOf).map Sum.inr, by rw [List.map_map, List.map_map, List.map_map]; rfl, fun k hk => len_sq rfl (rt_of ?_)⟩
        have e := nodup_len hk
        rw [List.length_map] at e
        rw [← e] at q
        have e2 : decide ((k : Int) = ((xs.length : Nat) : Int)) = decide (k = xs.length) := decide_eq_decide.mpr (by omega)
        show Q (.bl (xor false (decide ((k : Int) = ((xs.length : Nat) : Int))))) S'
        rw [Bool.false_xor, e2]
        exact q
theorem kind_l {d : D} (h : kindOk d = true) : lhead 2 d = true := by
  obtain ⟨z, ys, rfl, h1, h2, h3, h4, h5⟩ := kind_shape h
  have e : lhead 2 (.tup [.str z, .tup ys]) = (true && nmS z && ys.all isName && dist ys) := rfl
  rw [e, h1, h3, h5]
  rfl
theorem head_l {n : Nat} {d : D} (h : headN n d = true) : lhead n d = true := by
  obtain ⟨z, ys, ts, r, rfl, h1, h2, h3, h4⟩ := head_shape h
  have e : lhead n (.tup (.str z :: .tup ys :: .tup ts :: r)) = (decide ((.tup ts :: r : List D).length + 2 = n) && nmS z && ys.all isName && dist ys) := rfl
  rw [e, h2, h3, h4, decide_eq_true (by simp only [List.length_cons]; omega)]
  rfl
theorem kinds_f {x : D} (h : tupB (lheads 2 8) x = false) : tupB kindsOk x = false := by
  rw [Bool.eq_false_iff] at h ⊢
  intro k
  obtain ⟨ks, rfl, hk⟩ := tupB_yes k
  refine h ?_
  show lheads 2 8 ks = true
  unfold kindsOk at hk
  unfold lheads
  simp only [Bool.and_eq_true] at hk ⊢
  exact ⟨⟨hk.1.1, List.all_eq_true.mpr fun d hd => kind_l (List.all_eq_true.mp hk.1.2 d hd)⟩, hk.2⟩
theorem procs_f {x : D} (h : tupB (lheads 3 6) x = false) : tupB procsOk x = false := by
  rw [Bool.eq_false_iff] at h ⊢
  intro k
  obtain ⟨ks, rfl, hk⟩ := tupB_yes k
  refine h ?_
  show lheads 3 6 ks = true
  unfold procsOk heads at hk
  unfold lheads
  simp only [Bool.and_eq_true] at hk ⊢
  exact ⟨⟨hk.1.1.1, List.all_eq_true.mpr fun d hd => head_l (List.all_eq_true.mp hk.1.1.2 d hd)⟩, hk.1.2⟩
theorem kgt_all (f : Key × Int → D) : ∀ ks : List D, ((((named ks).map fun q : Str × Nat => ((.inr q.1 : Key), ((q.2 : Nat) : Int))).filter fun q => decide (4 < q.2)).map f).isEmpty = ks.all fun d => decide (arOf d ≤ 4)
  | [] => rfl
  | d :: ks => by
    have ih := kgt_all f ks
    unfold named at ih ⊢
    rw [List.map_cons, List.map_cons, List.filter_cons, List.all_cons, ← ih]
    by_cases h : arOf d ≤ 4
    · rw [decide_eq_true h, Bool.true_and, if_neg]
      simp only [decide_eq_true_eq]
      omega
    · rw [decide_eq_false h, Bool.false_and, if_pos]
      · rfl
      · simp only [decide_eq_true_eq]
        omega
def third : D → Bool
  | .tup (_ :: _ :: t :: _) => isTp t
  | _ => false
theorem kinds_t {ks : List D} (h : lheads 2 8 ks = true) : kindsOk ks = (!has (named ks) "none" && !has (named ks) "number" && ks.all fun d => decide (arOf d ≤ 4)) := by
  unfold lheads at h
  simp only [Bool.and_eq_true] at h
  obtain ⟨⟨h1, h2⟩, h3⟩ := h
  unfold kindsOk
  rw [h1, h3, Bool.true_and, Bool.and_true]
  clear h1 h3
  have hn : ∀ z : Str, has (named ks) z = decide (z ∈ ks.map nmOf) := fun z => by
    unfold has named
    rw [List.map_map]
    rfl
  rw [hn, hn]
  induction ks with
  | nil => rfl
  | cons d ks ih =>
    rw [List.all_cons, Bool.and_eq_true] at h2
    have ih := ih h2.2 fun z => by unfold has named; rw [List.map_map]; rfl
    obtain ⟨z, ys, r, rfl, hr, hz, hys, hd⟩ := lhead_shape h2.1
    obtain rfl : r = [] := List.eq_nil_of_length_eq_zero (by omega)
    have e : kindOk (.tup [.str z, .tup ys]) = (nmS z && !decide (z ∈ barred) && ys.all isName && decide (ys.length ≤ 4) && dist ys) := rfl
    have e2 : arOf (.tup [.str z, .tup ys]) = ys.length := rfl
    have e3 : nmOf (.tup [.str z, .tup ys]) = z := rfl
    rw [List.all_cons, List.all_cons, ih, e, e2, hz, hys, hd, Bool.true_and, Bool.and_true, Bool.and_true, List.map_cons, e3]
    have b1 : decide (("none" : Str) ∈ z :: ks.map nmOf) = (decide (z = "none") || decide (("none" : Str) ∈ ks.map nmOf)) := by
      by_cases p : z = "none" <;> by_cases p2 : ("none" : Str) ∈ ks.map nmOf <;> simp [p, p2, eq_comm]
    have b2 : decide (("number" : Str) ∈ z :: ks.map nmOf) = (decide (z = "number") || decide (("number" : Str) ∈ ks.map nmOf)) := by
      by_cases p : z = "number" <;> by_cases p2 : ("number" : Str) ∈ ks.map nmOf <;> simp [p, p2, eq_comm]
    have b3 : decide (z ∈ barred) = (decide (z = "none") || decide (z = "number")) := by
      unfold barred
      by_cases p : z = "none" <;> by_cases p2 : z = "number" <;> simp [p, p2]
    rw [b1, b2, b3]
    cases decide (z = "none") <;> cases decide (z = "number") <;> cases decide (("none" : Str) ∈ ks.map nmOf) <;> cases decide (("number" : Str) ∈ ks.map nmOf) <;> cases decide (ys.length ≤ 4) <;> simp
theorem procs_t {ps : List D} (h : lheads 3 6 ps = true) : procsOk ps = (ps.all third && isMain ps) := by
  unfold lheads at h
  simp only [Bool.and_eq_true] at h
  obtain ⟨⟨h1, h2⟩, h3⟩ := h
  unfold procsOk heads
  rw [h1, h3, Bool.true_and, Bool.and_true]
  congr 1
  clear h1 h3
  induction ps with
  | nil => rfl
  | cons d ks ih =>
    rw [List.all_cons, Bool.and_eq_true] at h2
    rw [List.all_cons, List.all_cons, ih h2.2]
    congr 1
    obtain ⟨z, ys, r, rfl, hr, hz, hys, hd⟩ := lhead_shape h2.1
    match r, hr with
    | [t], _ =>
      have e : headN 3 (.tup [.str z, .tup ys, t]) = (true && nmS z && ys.all isName && dist ys && isTp t) := rfl
      rw [e, hz, hys, hd]
      rfl
theorem tpls_t {n m : Nat} {ps : List D} (hn : 3 ≤ n) (h : lheads n m ps = true) : heads n m ps = ps.all third := by
  unfold lheads at h
  simp only [Bool.and_eq_true] at h
  obtain ⟨⟨h1, h2⟩, h3⟩ := h
  unfold heads
  rw [h1, h3, Bool.true_and, Bool.and_true]
  clear h1 h3
  induction ps with
  | nil => rfl
  | cons d ks ih =>
    rw [List.all_cons, Bool.and_eq_true] at h2
    rw [List.all_cons, List.all_cons, ih h2.2]
    congr 1
    obtain ⟨z, ys, r, rfl, hr, hz, hys, hd⟩ := lhead_shape h2.1
    match r, hr with
    | [], hr => simp only [List.length_nil] at hr; omega
    | t :: r, hr =>
      have e : headN n (.tup (.str z :: .tup ys :: t :: r)) = (decide (r.length + 3 = n) && nmS z && ys.all isName && dist ys && isTp t) := rfl
      rw [e, hz, hys, hd, decide_eq_true (by simp only [List.length_cons] at hr; omega)]
      rfl
theorem tpls_f {x : D} (h : tupB (lheads 4 6) x = false) : tupB (heads 4 6) x = false := by
  rw [Bool.eq_false_iff] at h ⊢
  intro k
  obtain ⟨ks, rfl, hk⟩ := tupB_yes k
  refine h ?_
  show lheads 4 6 ks = true
  unfold heads at hk
  unfold lheads
  simp only [Bool.and_eq_true] at hk ⊢
  exact ⟨⟨hk.1.1, List.all_eq_true.mpr fun d hd => head_l (List.all_eq_true.mp hk.1.2 d hd)⟩, hk.2⟩
theorem all_and {f g : D → Bool} : ∀ l : List D, (l.all fun d => f d && g d) = (l.all f && l.all g)
  | [] => rfl
  | d :: l => by
    rw [List.all_cons, List.all_cons, List.all_cons, all_and l]
    cases f d <;> cases g d <;> cases l.all f <;> simp
theorem src_t {ks ts ps : List D} (hk : lheads 2 8 ks = true) (ht : lheads 4 6 ts = true) (hp : lheads 3 6 ps = true) : isSrc (.tup [.tup ks, .tup ts, .tup ps]) =
    ((!has (named ks) "none" && !has (named ks) "number" && ks.all fun d => decide (arOf d ≤ 4)) && isMain ps && ((ts ++ ps).all fun d => third d && rowsOk (szOf ks ts ps) (rwOf d)) && (ts.all fun d => isName (nth3 d) && (rwOf d).all fun r => !isRet r) && ts.all fun d => !rg ts (nmOf d)) := by
  have e : isSrc (.tup [.tup ks, .tup ts, .tup ps]) = (kindsOk ks && procsOk ps && heads 4 6 ts && ts.all (tplOk (szOf ks ts ps)) && (ts.all fun d => !rg ts (nmOf d)) && (ps.all fun p => rowsOk (szOf ks ts ps) (rwOf p))) := rfl
  have e2 : ts.all (tplOk (szOf ks ts ps)) = ((ts.all fun d => isName (nth3 d)) && (ts.all fun d => rowsOk (szOf ks ts ps) (rwOf d)) && ts.all fun d => (rwOf d).all fun r => !isRet r) := by
    rw [← all_and, ← all_and]; rfl
  rw [e, kinds_t hk, procs_t hp, tpls_t (by decide) ht, e2, List.all_append, all_and, all_and, all_and]
  generalize (!has (named ks) "none" && !has (named ks) "number" && ks.all fun d => decide (arOf d ≤ 4)) = b0
  generalize isMain ps = b1
  generalize (ts.all fun d => isName (nth3 d)) = b2
  generalize (ts.all fun d => rowsOk (szOf ks ts ps) (rwOf d)) = b3
  generalize (ts.all fun d => (rwOf d).all fun r => !isRet r) = b4
  generalize (ts.all fun d => !rg ts (nmOf d)) = b5
  generalize (ps.all fun p => rowsOk (szOf ks ts ps) (rwOf p)) = b6
  generalize ps.all third = b7
  generalize ts.all third = b8
  revert b0 b1 b2 b3 b4 b5 b6 b7 b8
  decide
theorem third_rows {s : Sz} {a b u : D} {r : List D} : (third (.tup (a :: b :: u :: r)) && rowsOk s (rwOf (.tup (a :: b :: u :: r)))) = tupB (rowsOk s) u := by
  show (isTp u && rowsOk s (items u)) = _
  by_cases h : isTp u = true
  · obtain ⟨xs, rfl⟩ := tp_of h
    rfl
  · have h : isTp u = false := by simpa using h
    rw [h, tupB_no h]; rfl
def KnT (s : Sz) : Prop := s.kn.length ≤ 100 ∧ ∀ q ∈ s.kn, PyData.strOk q.1 = true
def sp__law_are_rows : SpD := fun ds S Q _ => ∃ (d : D) (p : Addr) (s : Sz), ds = [d, .ref p] ∧ Vk S d ∧ KnOk S p s ∧ KnT s ∧ Q (.bl (tupB (rowsOk s) d)) S
theorem ok__law_are_rows {P : Program} {w : World} {K : PySem.W.Frag} {mg : Str → Option Value} {base : Heap} (T : Txt K w mg) (C__law_is_row : Cal P w K mg base 4 "_law_is_row" s__law_is_row ["row", "known", "many"] sp__law_is_row) {ff : Addr} {fd : FuncData} (F : Fun K "_law_are_rows" "_law_are_rows" s__law_are_rows ff fd) (mf : mg "_law_are_rows" = some (.ref ff)) : Cal P w K mg base 5 "_law_are_rows" s__law_are_rows ["rows", "known"] sp__law_are_rows := by
  refine ⟨ff, fd, okD F sc__law_are_rows (fun ds S Q E h => ?len) (fun cdv A outer s H E ds S Q E' hcd hr h => ⟨_, (dss_cons (ds_if (dt_not (dt_tr td_tru (de_isi (tn := "tuple") (by rfl) T.nb_isinstance (by rfl) T.nb_tuple (de_var 0)))) (dss_one (ds_ret de_bl)) dss_nil)
      (dss_one (ds_ret (de_cmp (od_eq0 hr) (de_lc [("row", 2)] rfl sc__law_are_rows.nd (di_tup (de_var 0)) (blkOk_by (N := ["rows", "known", "row"]) (sc := defScope s__law_are_rows) (by decide +kernel)) (fun _ _ _ _ _ => (pg_name (i := 2) sc__law_are_rows.nd rfl (Or.inl rfl) (Or.inr rfl))) (fun N => (tg_name (vs := [2]) (i := 2) (by decide))) (fun _ _ _ _ _ => pts_one (dt_not (dt_tr td_tru (de_c C__law_is_row hr (da_cons (de_var 2) (da_cons (de_var 1) (da_cons (de_callB cd_len (by rfl) T.nb_len (da_cons (de_var 0) da_nil)) da_nil))))))) (fun _ _ _ _ _ => (de_var 2))) (de_lf da_nil))))), ?run⟩), F.binds (ps := ["rows", "known"]) fun _ _ _ _ _ _ us hl => match us, hl with | [_, _], _ => rfl, mf, F⟩
  case len => obtain ⟨d, p, s, rfl, _⟩ := h; rfl
  case run =>
    obtain ⟨d, p, s, rfl, hd, hs, hk, q⟩ := h
    simp only [dVar, dC, dOp, dUn, dChain, dTr, dB, dAnd, dOr, dNot, dIf, dAndV, dOrV, dNotV, dNil, dCons, dTup, dLst, dLf, dNext, dSeq, dBreak, dCont, dDrop, dRet, dRetN, dIfS, gdName, gdNil, gdCons, gdTup, gdSub, dAsg, dPar, dCall, dCallK, dCB, dM0, dM, dGet1, dGet2, dDk, dDt, dPart, dNoPart, dSlice, dAug, dYes, dSort2, revD, iTupD, iLstD, iLf, iLw, iRange1, iRange2, iRange3, iEnumD, iZipD, iZipMD, iStrD, dGix, dDc, dIsi, dSortSet, dLenSet, dDlit, gdLst, dFor, dWhile, dLc, dLcM, dFld, dFldSet, dFldAdd, dMeth, dMake, dPar3, dDisp, dPrs, dFsi, dGget, dKgt, dKgtL, dCut, dTcut, wipeD, bodyE, startD, List.map_cons, List.map_nil, List.length_cons, List.length_nil, List.replicate_succ, List.replicate_zero, List.cons_append, List.nil_append, Nat.reduceAdd, Nat.reduceSub, Nat.zero_add, List.getElem?_cons_zero, List.getElem?_cons_succ, List.set_cons_zero, List.set_cons_succ, Option.some.injEq, exists_eq_left', exists_eq_left, if_true, sizeLine_eq, Nat.reduceLeDiff, Nat.reduceLT, Nat.zero_le, true_and, and_true, Bool.false_eq_true, if_false]
    obtain ⟨t, h1, h2, _⟩ := vk_ty hd
    refine ⟨t, h1, tru_b ?_⟩
    rw [h2]
    by_cases c : isTp d = true
    rotate_left
    · have c : isTp d = false := by simpa using c
      rw [tupB_no c] at q
      rw [c]
      exact brT rfl (rt_of q)
    obtain ⟨rs, rfl⟩ := tp_of c
    obtain ⟨lr, vr⟩ := vk_tup hd
    refine brF rfl ⟨rs, .inl rfl, lc_fl (fun d => !rowOk s rs.length d) lr (fun W j x acc hx w1 w2 => ?_) (e0_f ?_)⟩
    · exact len_sq rfl ⟨x, p, s, _, rfl, vr x (List.mem_of_getElem? hx), hs, hk.1, hk.2, tru_b (br2 (fun g => w1 g) fun g => w2 g)⟩
    · rw [filt_nil, Bool.false_xor]
      exact rt_of q
def sp__law_is_source : SpD := fun ds S Q _ => ∃ (d : D), ds = [d] ∧ Vk S d ∧ Q (.bl (isSrc d)) S
theorem ok__law_is_source {P : Program} {w : World} {K : PySem.W.Frag} {mg : Str → Option Value} {base : Heap} (T : Txt K w mg) (C__law_are_heads : Cal P w K mg base 3 "_law_are_heads" s__law_are_heads ["it", "size", "most"] sp__law_are_heads) (C__law_are_rows : Cal P w K mg base 5 "_law_are_rows" s__law_are_rows ["rows", "known"] sp__law_are_rows) (C__law_is_name : Cal P w K mg base 1 "_law_is_name" s__law_is_name ["it"] sp__law_is_name) (C__law_is_in_ring : Cal P w K mg base 1 "_law_is_in_ring" s__law_is_in_ring ["templates", "name"] sp__law_is_in_ring) {ff : Addr} {fd : FuncData} (F : Fun K "_law_is_source" "_law_is_source" s__law_is_source ff fd) (mf : mg "_law_is_source" = some (.ref ff)) : Cal P w K mg base 6 "_law_is_source" s__law_is_source ["it"] sp__law_is_source := by
  refine ⟨ff, fd, okD F sc__law_is_source (fun ds S Q E h => ?len) (fun cdv A outer s H E ds S Q E' hcd hr h => ⟨_, (dss_cons (ds_if (dw_or (dt_not (dt_tr td_tru (de_isi (tn := "tuple") (by rfl) T.nb_isinstance (by rfl) T.nb_tuple (de_var 0)))) (dw_or (dt_cmp (od_ne hr) (de_callB cd_len (by rfl) T.nb_len (da_cons (de_var 0) da_nil)) de_int) (dw_or1 (dt_not (dt_tr td_tru (de_c C__law_are_heads hr (da_cons (de_ix (xd_ix hr) (de_var 0) de_int) (da_cons de_int (da_cons de_int da_nil))))))))).pt (dss_one (ds_ret de_bl)) dss_nil)
      (dss_cons (ds_if (dw_or (dt_not (dt_tr td_tru (de_c C__law_are_heads hr (da_cons (de_ix (xd_ix hr) (de_var 0) de_int) (da_cons de_int (da_cons de_int da_nil)))))) (dw_or1 (dt_not (dt_tr td_tru (de_c C__law_are_heads hr (da_cons (de_ix (xd_ix hr) (de_var 0) de_int) (da_cons de_int (da_cons de_int da_nil)))))))).pt (dss_one (ds_ret de_bl)) dss_nil)
      (dss_cons (ds_set 1 sc__law_is_source.nd (de_lst da_nil))
      (dss_cons (ds_for PassesOwn.never rfl (di_tup (de_tup (da_cons (de_ix (xd_ix hr) (de_var 0) de_int) (da_cons (de_slice (xd_slice false) (de_ix (xd_ix hr) (de_var 0) de_int) (do_some de_int) do_none) (da_cons (de_ix (xd_ix hr) (de_var 0) de_int) da_nil))))) (dg_name 2 sc__law_is_source.nd) (dss_one (ds_expr (de_m PySem.F.plainAttrs_list PySem.F.slot_list_append PySem.F.type_list_append md_append (de_var 1) (da_cons (de_callTy (cd_dictP rfl) (by rfl) T.nb_dict (da_cons (de_lc [("one", 3)] rfl sc__law_is_source.nd (di_tup (de_var 2)) (blkOk_by (N := ["it", "known", "some", "one", "row"]) (sc := defScope s__law_is_source) (by decide +kernel)) (fun _ _ _ _ _ => (pg_name (i := 3) sc__law_is_source.nd rfl (Or.inl rfl) (Or.inr rfl))) (fun N => (tg_name (vs := [3]) (i := 3) (by decide))) (fun _ _ _ _ _ => dts_nil) (fun _ _ _ _ _ => (de_tup (da_cons (de_ix (xd_ix hr) (de_var 3) de_int) (da_cons (de_callB cd_len (by rfl) T.nb_len (da_cons (de_ix (xd_ix hr) (de_var 3) de_int) da_nil)) da_nil))))) da_nil)) da_nil)))))
      (dss_cons (ds_if (dw_or (dt_cmp (od_in hr) de_str (de_ix (xd_ix hr) (de_var 1) de_int)) (dw_or1 (dt_cmp (od_in hr) de_str (de_ix (xd_ix hr) (de_var 1) de_int)))).pt (dss_one (ds_ret de_bl)) dss_nil)
      (dss_cons (ds_if (dt_cmp (od_ne0 hr) (de_kgtL (one := "one") 1 3 4 (by decide) rfl sc__law_is_source.nd (pe_ix ix_list (pv 1) pe_int (fun _ _ => rfl)) (blkOk_by (N := ["it", "known", "some", "one", "row"]) (sc := defScope s__law_is_source) (by decide +kernel)) (fun _ _ _ _ _ => (pg_name (i := 3) sc__law_is_source.nd rfl (Or.inl rfl) (Or.inr rfl))) (fun _ _ _ _ _ => pts_one (pt_cmpR op_gt (pe_ix (ixr_dict (un1 hr)) (pe_ix ix_list (pv 1) pe_int (fun _ _ => rfl)) (pv 3) (fun _ _ => rfl)) pe_int (nomark _))) (fun _ _ _ _ _ => pv 3)) (de_lf da_nil)) (dss_one (ds_ret de_bl)) dss_nil)
      (dss_cons (ds_if (dw_or (dt_cmp (od_eq0 hr) (de_ix (xd_ix hr) (de_var 0) de_int) (de_tup da_nil)) (dw_or1 (dt_cmp (od_ne hr) (de_slice (xd_slice false) (de_ix (xd_ix hr) (de_ix (xd_ix hr) (de_var 0) de_int) de_int) do_none (do_some de_int)) (de_tup (da_cons de_str (da_cons (de_tup da_nil) da_nil)))))).pt (dss_one (ds_ret de_bl)) dss_nil)
      (dss_cons (ds_for PassesOwn.never rfl (di_tup (de_op (od_add false) (de_ix (xd_ix hr) (de_var 0) de_int) (de_ix (xd_ix hr) (de_var 0) de_int))) (dg_name 3 sc__law_is_source.nd) (dss_one (ds_if (dt_not (dt_tr td_tru (de_c C__law_are_rows hr (da_cons (de_ix (xd_ix hr) (de_var 3) de_int) (da_cons (de_var 1) da_nil))))) (dss_one (ds_ret de_bl)) dss_nil)))
      (dss_cons (ds_for PassesOwn.never rfl (di_tup (de_ix (xd_ix hr) (de_var 0) de_int)) (dg_name 3 sc__law_is_source.nd) (dss_one (ds_if (dw_or (dt_not (dt_tr td_tru (de_c C__law_is_name hr (da_cons (de_ix (xd_ix hr) (de_var 3) de_int) da_nil)))) (dw_or1 (dt_cmp (od_ne0 hr) (de_lc [("row", 4)] rfl sc__law_is_source.nd (di_tup (de_ix (xd_ix hr) (de_var 3) de_int)) (blkOk_by (N := ["it", "known", "some", "one", "row"]) (sc := defScope s__law_is_source) (by decide +kernel)) (fun _ _ _ _ _ => (pg_name (i := 4) sc__law_is_source.nd rfl (Or.inl rfl) (Or.inr rfl))) (fun N => (tg_name (vs := [4]) (i := 4) (by decide))) (fun _ _ _ _ _ => pts_one (dt_cmp (od_eq hr) (de_ix (xd_ix hr) (de_var 4) de_int) de_str)) (fun _ _ _ _ _ => (de_var 4))) (de_lf da_nil)))).pt (dss_one (ds_ret de_bl)) dss_nil)))
      (dss_one (ds_ret (de_cmp (od_eq0 hr) (de_lc [("one", 3)] rfl sc__law_is_source.nd (di_tup (de_ix (xd_ix hr) (de_var 0) de_int)) (blkOk_by (N := ["it", "known", "some", "one", "row"]) (sc := defScope s__law_is_source) (by decide +kernel)) (fun _ _ _ _ _ => (pg_name (i := 3) sc__law_is_source.nd rfl (Or.inl rfl) (Or.inr rfl))) (fun N => (tg_name (vs := [3]) (i := 3) (by decide))) (fun _ _ _ _ _ => pts_one (dt_tr td_tru (de_c C__law_is_in_ring hr (da_cons (de_ix (xd_ix hr) (de_var 0) de_int) (da_cons (de_ix (xd_ix hr) (de_var 3) de_int) da_nil))))) (fun _ _ _ _ _ => (de_var 3))) (de_lf da_nil))))))))))))), ?run⟩), F.binds (ps := ["it"]) fun _ _ _ _ _ _ us hl => match us, hl with | [_], _ => rfl, mf, F⟩
  case len => obtain ⟨d, rfl, _⟩ := h; rfl
  case run =>
    obtain ⟨d, rfl, hd, q⟩ := h
    simp only [dVar, dC, dOp, dUn, dChain, dTr, dB, dAnd, dOr, dNot, dIf, dAndV, dOrV, dNotV, dNil, dCons, dTup, dLst, dLf, dNext, dSeq, dBreak, dCont, dDrop, dRet, dRetN, dIfS, gdName, gdNil, gdCons, gdTup, gdSub, dAsg, dPar, dCall, dCallK, dCB, dM0, dM, dGet1, dGet2, dDk, dDt, dPart, dNoPart, dSlice, dAug, dYes, dSort2, revD, iTupD, iLstD, iLf, iLw, iRange1, iRange2, iRange3, iEnumD, iZipD, iZipMD, iStrD, dGix, dDc, dIsi, dSortSet, dLenSet, dDlit, gdLst, dFor, dWhile, dLc, dLcM, dFld, dFldSet, dFldAdd, dMeth, dMake, dPar3, dDisp, dPrs, dFsi, dGget, dKgt, dKgtL, dCut, dTcut, wipeD, bodyE, startD, List.map_cons, List.map_nil, List.length_cons, List.length_nil, List.replicate_succ, List.replicate_zero, List.cons_append, List.nil_append, Nat.reduceAdd, Nat.reduceSub, Nat.zero_add, List.getElem?_cons_zero, List.getElem?_cons_succ, List.set_cons_zero, List.set_cons_succ, Option.some.injEq, exists_eq_left', exists_eq_left, if_true, sizeLine_eq, Nat.reduceLeDiff, Nat.reduceLT, Nat.zero_le, true_and, and_true, Bool.false_eq_true, if_false]
    obtain ⟨t, h1, h2, _⟩ := vk_ty hd
    refine ⟨t, h1, tru_b ?_⟩
    rw [h2]
    by_cases c : isTp d = true
    rotate_left
    · have c : isTp d = false := by simpa using c
      rw [src_no c] at q
      rw [c]
      exact brT rfl (rt_of q)
    obtain ⟨xs, rfl⟩ := tp_of c
    obtain ⟨hl, hv⟩ := vk_tup hd
    refine brF rfl (len_sq rfl ⟨_, rfl, br2 (fun a => ?_) fun a => ?_⟩)
    · have a := of_nxt a
      rw [src_len (by omega)] at q
      exact rt_of q
    have a := of_nxf a
    obtain ⟨x, y, z, rfl⟩ : ∃ x y z, xs = [x, y, z] := by
      match xs, (show xs.length = 3 by omega) with
      | [x, y, z], _ => exact ⟨x, y, z, rfl⟩
    have hx := hv x (by simp)
    have hy := hv y (by simp)
    have hz := hv z (by simp)
    have q0 : Q (.bl (tupB kindsOk x && tupB procsOk z && tupB (heads 4 6) y && (items y).all (tplOk (szOf (items x) (items y) (items z))) && ((items y).all fun d => !rg (items y) (nmOf d)) && ((items z).all fun p => rowsOk (szOf (items x) (items y) (items z)) (rwOf p)))) S := q
    refine ix_sq rfl rfl at_0 ⟨x, 2, 8, rfl, by decide, hx, tru_b (br2 (fun b => ?_) fun b => ?_)⟩
    · have b : tupB (lheads 2 8) x = false := by simpa using b
      rw [kinds_f b] at q0
      exact rt_of q0
    have b : tupB (lheads 2 8) x = true := by simpa using b
    obtain ⟨ks, rfl, hks⟩ := tupB_yes b
    refine ix_sq rfl rfl (at_n (i := 1) rfl) ⟨y, 4, 6, rfl, by decide, hy, tru_b (br2 (fun b => ?_) fun b => ?_)⟩
    · have b : tupB (lheads 4 6) y = false := by simpa using b
      rw [tpls_f b, Bool.and_false, Bool.false_and, Bool.false_and, Bool.false_and] at q0
      exact rt_of q0
    have b : tupB (lheads 4 6) y = true := by simpa using b
    obtain ⟨ts, rfl, hts⟩ := tupB_yes b
    refine ix_sq rfl rfl (at_n (i := 2) rfl) ⟨z, 3, 6, rfl, by decide, hz, tru_b (br2 (fun b => ?_) fun b => ?_)⟩
    · have b : tupB (lheads 3 6) z = false := by simpa using b
      rw [procs_f b, Bool.and_false, Bool.false_and, Bool.false_and, Bool.false_and, Bool.false_and] at q0
      exact rt_of q0
    have b : tupB (lheads 3 6) z = true := by simpa using b
    obtain ⟨ps, rfl, hps⟩ := tupB_yes b
    clear q0
    rw [src_t hks hts hps] at q
    generalize hR : (isMain ps && ((ts ++ ps).all fun d => third d && rowsOk (szOf ks ts ps) (rwOf d)) && (ts.all fun d => isName (nth3 d) && (rwOf d).all fun r => !isRet r) && ts.all fun d => !rg ts (nmOf d)) = R
    have q : Q (.bl ((!has (named ks) "none" && !has (named ks) "number" && ks.all fun d => decide (arOf d ≤ 4)) && R)) S := by
      rw [← hR]
      simpa only [Bool.and_assoc] using q
    have hts0 := hts
    unfold lheads at hks hps hts
    simp only [Bool.and_eq_true] at hks hps hts
    obtain ⟨⟨hk1, hk2⟩, hk3⟩ := hks
    obtain ⟨⟨hp1, hp2⟩, hp3⟩ := hps
    obtain ⟨⟨ht1, ht2⟩, ht3⟩ := hts
    have hk1 := of_decide_eq_true hk1
    have hp1 := of_decide_eq_true hp1
    have ht1 := of_decide_eq_true ht1
    have hk3 := of_decide_eq_true hk3
    have hp3 := of_decide_eq_true hp3
    have ht3 := of_decide_eq_true ht3
    obtain ⟨lk, vk⟩ := vk_tup hx
    obtain ⟨lt, vt⟩ := vk_tup hy
    obtain ⟨lp, vp⟩ := vk_tup hz
    have shp : ∀ {n : Nat} {l : List D}, l.all (lhead n) = true → ∀ d ∈ l, ∃ z ys r, d = .tup (.str z :: .tup ys :: r) := fun h d hd => by
      obtain ⟨z, ys, r, rfl, _⟩ := lhead_shape (List.all_eq_true.mp h d hd)
      exact ⟨z, ys, r, rfl⟩
    have tabf : ∀ l ∈ [ks, ps.drop 1, ts], l.length ≤ 8 ∧ (∀ d ∈ l, ∃ z ys r, d = .tup (.str z :: .tup ys :: r)) ∧ (l.map nmOf).Nodup := fun l hl => by
      simp only [List.mem_cons, List.not_mem_nil, or_false] at hl
      rcases hl with rfl | rfl | rfl
      · exact ⟨hk1, shp hk2, hk3⟩
      · exact ⟨by rw [List.length_drop]; omega, fun d hd => shp hp2 d (List.mem_of_mem_drop hd), by rw [List.map_drop]; exact List.Pairwise.drop hp3⟩
      · exact ⟨by omega, shp ht2, ht3⟩
    have nodupK : ∀ l : List D, (l.map nmOf).Nodup → (((named l).map fun q : Str × Nat => ((.inr q.1 : Key), V.int (q.2 : Nat))).map (·.1)).Nodup := fun l hl => by
      unfold named
      rw [List.map_map, List.map_map]
      have := List.Pairwise.map (R := (· ≠ ·)) (S := (· ≠ ·)) (Sum.inr : Str → Key) (fun a b ne e => ne (Sum.inr.inj e)) hl
      rw [List.map_map] at this
      exact this
    have em : ∀ l : List D, (l.map nmOf).Nodup → (mergeK [] ((named l).map fun q => ((.inr q.1 : Key), V.int (q.2 : Nat)))).map (fun q => (q.1, D.at q.2)) = (named l).map fun q => ((.inr q.1 : Key), D.int (q.2 : Nat)) := fun l hl => by
      rw [merge_app _ [] (by rw [List.nil_append]; exact nodupK l hl), List.nil_append, List.map_map]
      rfl
    have ecut : DL.cutD ps (some 1) none = ps.drop 1 := by
      cases ps with
      | nil => rfl
      | cons x y => exact cut_1 x y
    intro kp nkp
    refine ix_sq rfl rfl at_0 (ix_sq rfl rfl (at_n (i := 2) rfl) ⟨1, rfl, sl_t (ix_sq rfl rfl (at_n (i := 1) rfl) ⟨_, .inl rfl, ?_⟩)⟩)
    rw [ecut]
    refine fr_seq (fun i δ S' => ∃ (as : List Addr) (r2 r3 : Option D), δ = [some (.tup [.tup ks, .tup ts, .tup ps]), some (.ref kp), r2, r3, none] ∧ as.length = i ∧ i ≤ 3 ∧ S' kp = some (.lst (as.map D.ref)) ∧ (∀ (j : Nat) (a : Addr), as[j]? = some a → ∃ l, [ks, ps.drop 1, ts][j]? = some l ∧ S' a = some (tabD (named l))) ∧ DL.Sub S S') ⟨[], none, none, rfl, rfl, Nat.zero_le _, up_same, fun j a h => by simp at h, DL.Sub.refl.un nkp⟩ ?_ ?_
    · rintro i x δ S' hx ⟨as, r2, r3, rfl, al, i3, hkp, htab, sub⟩
      simp only [dVar, dC, dOp, dUn, dChain, dTr, dB, dAnd, dOr, dNot, dIf, dAndV, dOrV, dNotV, dNil, dCons, dTup, dLst, dLf, dNext, dSeq, dBreak, dCont, dDrop, dRet, dRetN, dIfS, gdName, gdNil, gdCons, gdTup, gdSub, dAsg, dPar, dCall, dCallK, dCB, dM0, dM, dGet1, dGet2, dDk, dDt, dPart, dNoPart, dSlice, dAug, dYes, dSort2, revD, iTupD, iLstD, iLf, iLw, iRange1, iRange2, iRange3, iEnumD, iZipD, iZipMD, iStrD, dGix, dDc, dIsi, dSortSet, dLenSet, dDlit, gdLst, dFor, dWhile, dLc, dLcM, dFld, dFldSet, dFldAdd, dMeth, dMake, dPar3, dDisp, dPrs, dFsi, dGget, dKgt, dKgtL, dCut, dTcut, wipeD, bodyE, startD, List.map_cons, List.map_nil, List.length_cons, List.length_nil, List.replicate_succ, List.replicate_zero, List.cons_append, List.nil_append, Nat.reduceAdd, Nat.reduceSub, Nat.zero_add, List.getElem?_cons_zero, List.getElem?_cons_succ, List.set_cons_zero, List.set_cons_succ, Option.some.injEq, exists_eq_left', exists_eq_left, if_true, sizeLine_eq, Nat.reduceLeDiff, Nat.reduceLT, Nat.zero_le, true_and, and_true, Bool.false_eq_true, if_false]
      obtain ⟨l, hl, rfl⟩ := map_at (f := D.tup) (l := [ks, ps.drop 1, ts]) hx
      have i3 : i < 3 := (List.getElem?_eq_some_iff.mp hl).1
      obtain ⟨l8, lsh, lnd⟩ := tabf l (List.mem_of_getElem? hl)
      refine ⟨ty_l hkp, l, .inl rfl, lc_mp (fun d => .tup [.str (nmOf d), .int (arOf d : Nat)]) (by omega) (fun W i z acc hz w => ?_) ⟨_, (named l).map fun q => ((.inr q.1 : Key), V.int (q.2 : Nat)), rfl, by unfold lsOf named; rw [List.map_map, List.map_map]; rfl, fun pa npa => ?_⟩⟩
      · obtain ⟨z, ys, r, rfl⟩ := lsh z (List.mem_of_getElem? hz)
        exact ix_sq rfl rfl at_0 (ix_sq rfl rfl (at_n (i := 1) rfl) (len_sq rfl w))
      rw [em l lnd]
      have ne : kp ≠ pa := sne hkp npa
      refine app_of (by rw [up_ne ne]; exact hkp) (by rw [List.length_map, sizeLine_eq]; omega) ?_
      refine ⟨as ++ [pa], _, _, rfl, by rw [List.length_append, al]; rfl, by omega, by rw [up_same, List.map_append]; rfl, fun j a hj => ?_, (sub.un npa).u nkp⟩
      by_cases hji : j < as.length
      · rw [List.getElem?_append_left hji] at hj
        obtain ⟨l2, g1, g2⟩ := htab j a hj
        have n1 : a ≠ kp := fun e => by rw [e, hkp] at g2; cases g2
        have n2 : a ≠ pa := sne g2 npa
        exact ⟨l2, g1, by rw [up_ne n1, up_ne n2]; exact g2⟩
      · rw [List.getElem?_append_right (by omega)] at hj
        have hj0 : j = as.length := by
          have := (List.getElem?_eq_some_iff.mp hj).1
          simp only [List.length_singleton] at this
          omega
        subst hj0
        rw [Nat.sub_self] at hj
        cases hj
        exact ⟨l, by rw [al]; exact hl, by rw [up_ne ne.symm, up_same]; rfl⟩
    rintro i δ S' hi ⟨as, r2, r3, rfl, al, i3, hkp, htab, sub⟩
    simp only [dVar, dC, dOp, dUn, dChain, dTr, dB, dAnd, dOr, dNot, dIf, dAndV, dOrV, dNotV, dNil, dCons, dTup, dLst, dLf, dNext, dSeq, dBreak, dCont, dDrop, dRet, dRetN, dIfS, gdName, gdNil, gdCons, gdTup, gdSub, dAsg, dPar, dCall, dCallK, dCB, dM0, dM, dGet1, dGet2, dDk, dDt, dPart, dNoPart, dSlice, dAug, dYes, dSort2, revD, iTupD, iLstD, iLf, iLw, iRange1, iRange2, iRange3, iEnumD, iZipD, iZipMD, iStrD, dGix, dDc, dIsi, dSortSet, dLenSet, dDlit, gdLst, dFor, dWhile, dLc, dLcM, dFld, dFldSet, dFldAdd, dMeth, dMake, dPar3, dDisp, dPrs, dFsi, dGget, dKgt, dKgtL, dCut, dTcut, wipeD, bodyE, startD, List.map_cons, List.map_nil, List.length_cons, List.length_nil, List.replicate_succ, List.replicate_zero, List.cons_append, List.nil_append, Nat.reduceAdd, Nat.reduceSub, Nat.zero_add, List.getElem?_cons_zero, List.getElem?_cons_succ, List.set_cons_zero, List.set_cons_succ, Option.some.injEq, exists_eq_left', exists_eq_left, if_true, sizeLine_eq, Nat.reduceLeDiff, Nat.reduceLT, Nat.zero_le, true_and, and_true, Bool.false_eq_true, if_false]
    obtain ⟨a, c, b, rfl⟩ : ∃ a c b, as = [a, c, b] := by
      have hi : 3 ≤ i := hi
      match as, (show as.length = 3 by omega) with
      | [a, c, b], _ => exact ⟨a, c, b, rfl⟩
    have ha : S' a = some (tabD (named ks)) := by
      obtain ⟨l, g1, g2⟩ := htab 0 a rfl
      cases g1; exact g2
    have hc : S' c = some (tabD (named (ps.drop 1))) := by
      obtain ⟨l, g1, g2⟩ := htab 1 c rfl
      cases g1; exact g2
    have hb : S' b = some (tabD (named ts)) := by
      obtain ⟨l, g1, g2⟩ := htab 2 b rfl
      cases g1; exact g2
    clear htab tabf
    have kn : KnOk S' kp (szOf ks ts ps) := ⟨a, c, b, hkp, ha, hc, hb⟩
    have kt : KnT (szOf ks ts ps) := by
      refine ⟨by show (named ks).length ≤ 100; unfold named; rw [List.length_map]; omega, fun q hq => ?_⟩
      have hq : q ∈ named ks := hq
      unfold named at hq
      obtain ⟨d, hd9, rfl⟩ := List.mem_map.mp hq
      obtain ⟨z, ys, r, rfl⟩ := shp hk2 d hd9
      exact (vk_str ((vk_tup (vk _ hd9)).2 (D.str z) (by simp))).1
    refine ix_sq rfl (sq_l hkp) at_0 (in_tab ha ⟨_, rfl, br2 (fun f => ?_) fun f => ix_sq rfl (sq_l hkp) at_0 (in_tab ha ⟨_, rfl, br2 (fun g => ?_) fun g => ?_⟩)⟩)
    · rw [Bool.false_xor] at f
      rw [f] at q
      exact rt_sub sub q
    · rw [Bool.false_xor] at f g
      rw [f, g] at q
      exact rt_sub sub q
    rw [Bool.false_xor] at f g
    rw [f, g] at q
    have q : Q (.bl ((ks.all fun d => decide (arOf d ≤ 4)) && R)) S := q
    refine ⟨kp, a, _, (named ks).map fun q => ((.inr q.1 : Key), ((q.2 : Nat) : Int)), rfl, hkp, by rw [ha]; unfold tabD; rw [List.map_map]; rfl, by
      have := nodupK ks hk3
      rw [List.map_map] at this ⊢
      exact this, by unfold named; rw [List.length_map, List.length_map]; omega, e0_f ?_⟩
    rw [kgt_all]
    refine ⟨_, rfl, br2 (fun e => ?_) fun e => ?_⟩
    · have e : (ks.all fun d => decide (arOf d ≤ 4)) = false := by simpa using e
      rw [e] at q
      exact rt_sub sub q
    have e : (ks.all fun d => decide (arOf d ≤ 4)) = true := by simpa using e
    rw [e, Bool.true_and] at q
    refine ix_sq rfl rfl (at_n (i := 2) rfl) (e0_t ⟨_, rfl, br2 (fun e => ?_) fun e => ?_⟩)
    · have e : ps = [] := by simpa using e
      have : R = false := by rw [← hR, e]; rfl
      rw [this] at q
      exact rt_sub sub q
    obtain ⟨p0, pr, eps⟩ : ∃ p0 pr, ps = p0 :: pr := by
      cases ps with
      | nil => cases e
      | cons a0 b0 => exact ⟨a0, b0, rfl⟩
    obtain ⟨z0, ys0, r0, rfl, _, _, hys, _⟩ := lhead_shape (List.all_eq_true.mp hp2 p0 (by rw [eps]; simp))
    have hv0 := (vk_tup (vp _ (show D.tup (.str z0 :: .tup ys0 :: r0) ∈ ps by rw [eps]; simp))).2
    obtain ⟨u0, rfl⟩ : ∃ u0, r0 = [u0] := by
      rename_i hr0 _ _
      match r0, (show r0.length = 1 by omega) with
      | [u0], _ => exact ⟨u0, rfl⟩
    have bad : R = false → ∃ d1 S1_1, VW (D.bl false) S' d1 S1_1 ∧ Q d1 S1_1 := fun e => by
      rw [e] at q
      exact rt_sub sub q
    refine ix_sq rfl rfl (at_n (i := 2) rfl) (ix_sq rfl rfl (d := .tup [.str z0, .tup ys0, u0]) (by rw [eps]; exact at_0) ⟨2, rfl, sl_t (eq_main (vk_str (hv0 _ (by simp))).1 (cm_names hys (vk_tup (hv0 (.tup ys0) (by simp))).2) ⟨_, rfl, br2 (fun e => bad ?_) fun e => ?_⟩)⟩)
    · have e : isMain ps = false := by
        rw [eps]
        show (decide (z0 = "main") && ys0.isEmpty) = false
        revert e
        cases (decide (z0 = "main") && ys0.isEmpty) <;> simp
      rw [← hR, e]
      rfl
    have eM : isMain ps = true := by
      rw [eps]
      show (decide (z0 = "main") && ys0.isEmpty) = true
      revert e
      cases (decide (z0 = "main") && ys0.isEmpty) <;> simp
    rw [eM, Bool.true_and] at hR
    have shT : ∀ d ∈ ts ++ ps, ∃ z ys u r, d = .tup (.str z :: .tup ys :: u :: r) ∧ Vk S' u := fun d hd => by
      have h : ∃ z ys r, d = .tup (.str z :: .tup ys :: r) ∧ 0 < r.length ∧ Vk S d := by
        rcases List.mem_append.mp hd with g | g
        · obtain ⟨z, ys, r, rfl, hr, _⟩ := lhead_shape (List.all_eq_true.mp ht2 d g)
          exact ⟨z, ys, r, rfl, by omega, vt _ g⟩
        · obtain ⟨z, ys, r, rfl, hr, _⟩ := lhead_shape (List.all_eq_true.mp hp2 d g)
          exact ⟨z, ys, r, rfl, by omega, vp _ g⟩
      obtain ⟨z, ys, r, rfl, hr, hv⟩ := h
      match r, hr with
      | u :: r, _ => exact ⟨z, ys, u, r, rfl, vk_sub sub ((vk_tup hv).2 u (by simp))⟩
    refine ix_sq rfl rfl (at_n (i := 1) rfl) (ix_sq rfl rfl (at_n (i := 2) rfl) (add_t (by rw [sizeLine_eq]; omega) ⟨_, .inl rfl, ?_⟩))
    refine fr_seq (fun i δ S2 => S2 = S' ∧ ∃ r3, δ = [some (.tup [.tup ks, .tup ts, .tup ps]), some (.ref kp), r2, r3, none] ∧ ∀ d ∈ (ts ++ ps).take i, (third d && rowsOk (szOf ks ts ps) (rwOf d)) = true) ⟨rfl, _, rfl, fun d hd => by simp at hd⟩ ?_ ?_
    · rintro i d δ S2 hdi ⟨rfl, r3, rfl, hall⟩
      simp only [dVar, dC, dOp, dUn, dChain, dTr, dB, dAnd, dOr, dNot, dIf, dAndV, dOrV, dNotV, dNil, dCons, dTup, dLst, dLf, dNext, dSeq, dBreak, dCont, dDrop, dRet, dRetN, dIfS, gdName, gdNil, gdCons, gdTup, gdSub, dAsg, dPar, dCall, dCallK, dCB, dM0, dM, dGet1, dGet2, dDk, dDt, dPart, dNoPart, dSlice, dAug, dYes, dSort2, revD, iTupD, iLstD, iLf, iLw, iRange1, iRange2, iRange3, iEnumD, iZipD, iZipMD, iStrD, dGix, dDc, dIsi, dSortSet, dLenSet, dDlit, gdLst, dFor, dWhile, dLc, dLcM, dFld, dFldSet, dFldAdd, dMeth, dMake, dPar3, dDisp, dPrs, dFsi, dGget, dKgt, dKgtL, dCut, dTcut, wipeD, bodyE, startD, List.map_cons, List.map_nil, List.length_cons, List.length_nil, List.replicate_succ, List.replicate_zero, List.cons_append, List.nil_append, Nat.reduceAdd, Nat.reduceSub, Nat.zero_add, List.getElem?_cons_zero, List.getElem?_cons_succ, List.set_cons_zero, List.set_cons_succ, Option.some.injEq, exists_eq_left', exists_eq_left, if_true, sizeLine_eq, Nat.reduceLeDiff, Nat.reduceLT, Nat.zero_le, true_and, and_true, Bool.false_eq_true, if_false]
      have hdm := List.mem_of_getElem? hdi
      obtain ⟨z, ys, u, r, rfl, hu⟩ := shT d hdm
      refine ix_sq rfl rfl (at_n (i := 2) rfl) ⟨u, kp, _, rfl, hu, kn, kt, tru_b (br2 (fun g => bad ?_) fun g => ?_)⟩
      · have g : tupB (rowsOk (szOf ks ts ps)) u = false := by simpa using g
        rw [← third_rows (a := .str z) (b := .tup ys) (r := r)] at g
        have : ((ts ++ ps).all fun d => third d && rowsOk (szOf ks ts ps) (rwOf d)) = false := by
          rw [Bool.eq_false_iff]
          intro h
          have := List.all_eq_true.mp h _ hdm
          rw [g] at this
          cases this
        rw [← hR, this]
        rfl
      · have g : tupB (rowsOk (szOf ks ts ps)) u = true := by simpa using g
        rw [← third_rows (a := .str z) (b := .tup ys) (r := r)] at g
        refine ⟨rfl, _, rfl, fun y hy => ?_⟩
        rw [tk1 hdi] at hy
        rcases List.mem_append.mp hy with h | h
        · exact hall y h
        · rw [List.mem_singleton.mp h]; exact g
    rintro i δ S2 hi ⟨rfl, r3, rfl, hall⟩
    rw [List.take_of_length_le hi] at hall
    have e1 : ((ts ++ ps).all fun d => third d && rowsOk (szOf ks ts ps) (rwOf d)) = true := List.all_eq_true.mpr hall
    rw [e1, Bool.true_and] at hR
    have e1t : ∀ d ∈ ts, third d = true ∧ rowsOk (szOf ks ts ps) (rwOf d) = true := fun d hd => by
      have := hall d (List.mem_append_left _ hd)
      rw [Bool.and_eq_true] at this
      exact this
    have hh4 : ts.all (headN 4) = true := by
      have h1 : heads 4 6 ts = true := by rw [tpls_t (by decide) hts0]; exact List.all_eq_true.mpr fun d hd => (e1t d hd).1
      unfold heads at h1
      simp only [Bool.and_eq_true] at h1
      exact h1.1.2
    have u : UOk ts := uok_of (S := S) (s := szOf ks ts ps) ht1 hh4 ht3 rfl (fun d hd => (e1t d hd).2) vt
    have sh4 : ∀ d ∈ ts, ∃ z ys rs w, d = .tup [.str z, .tup ys, .tup rs, w] ∧ Vk S2 (.tup rs) ∧ Vk S2 w := fun d hd => by
      obtain ⟨z, ys, rs, r, rfl, hr, _⟩ := head_shape (List.all_eq_true.mp hh4 d hd)
      match r, hr with
      | [w], _ =>
        have hv := (vk_tup (vk_sub sub (vt _ hd))).2
        exact ⟨z, ys, rs, w, rfl, hv _ (by simp), hv _ (by simp)⟩
    simp only [dVar, dC, dOp, dUn, dChain, dTr, dB, dAnd, dOr, dNot, dIf, dAndV, dOrV, dNotV, dNil, dCons, dTup, dLst, dLf, dNext, dSeq, dBreak, dCont, dDrop, dRet, dRetN, dIfS, gdName, gdNil, gdCons, gdTup, gdSub, dAsg, dPar, dCall, dCallK, dCB, dM0, dM, dGet1, dGet2, dDk, dDt, dPart, dNoPart, dSlice, dAug, dYes, dSort2, revD, iTupD, iLstD, iLf, iLw, iRange1, iRange2, iRange3, iEnumD, iZipD, iZipMD, iStrD, dGix, dDc, dIsi, dSortSet, dLenSet, dDlit, gdLst, dFor, dWhile, dLc, dLcM, dFld, dFldSet, dFldAdd, dMeth, dMake, dPar3, dDisp, dPrs, dFsi, dGget, dKgt, dKgtL, dCut, dTcut, wipeD, bodyE, startD, List.map_cons, List.map_nil, List.length_cons, List.length_nil, List.replicate_succ, List.replicate_zero, List.cons_append, List.nil_append, Nat.reduceAdd, Nat.reduceSub, Nat.zero_add, List.getElem?_cons_zero, List.getElem?_cons_succ, List.set_cons_zero, List.set_cons_succ, Option.some.injEq, exists_eq_left', exists_eq_left, if_true, sizeLine_eq, Nat.reduceLeDiff, Nat.reduceLT, Nat.zero_le, true_and, and_true, Bool.false_eq_true, if_false]
    refine ix_sq rfl rfl (at_n (i := 1) rfl) ⟨_, .inl rfl, ?_⟩
    refine fr_seq (fun i δ S3 => S3 = S2 ∧ ∃ r3, δ = [some (.tup [.tup ks, .tup ts, .tup ps]), some (.ref kp), r2, r3, none] ∧ ∀ d ∈ ts.take i, (isName (nth3 d) && (rwOf d).all fun r => !isRet r) = true) ⟨rfl, _, rfl, fun d hd => by simp at hd⟩ ?_ ?_
    · rintro i d δ S3 hdi ⟨rfl, r3, rfl, hall2⟩
      simp only [dVar, dC, dOp, dUn, dChain, dTr, dB, dAnd, dOr, dNot, dIf, dAndV, dOrV, dNotV, dNil, dCons, dTup, dLst, dLf, dNext, dSeq, dBreak, dCont, dDrop, dRet, dRetN, dIfS, gdName, gdNil, gdCons, gdTup, gdSub, dAsg, dPar, dCall, dCallK, dCB, dM0, dM, dGet1, dGet2, dDk, dDt, dPart, dNoPart, dSlice, dAug, dYes, dSort2, revD, iTupD, iLstD, iLf, iLw, iRange1, iRange2, iRange3, iEnumD, iZipD, iZipMD, iStrD, dGix, dDc, dIsi, dSortSet, dLenSet, dDlit, gdLst, dFor, dWhile, dLc, dLcM, dFld, dFldSet, dFldAdd, dMeth, dMake, dPar3, dDisp, dPrs, dFsi, dGget, dKgt, dKgtL, dCut, dTcut, wipeD, bodyE, startD, List.map_cons, List.map_nil, List.length_cons, List.length_nil, List.replicate_succ, List.replicate_zero, List.cons_append, List.nil_append, Nat.reduceAdd, Nat.reduceSub, Nat.zero_add, List.getElem?_cons_zero, List.getElem?_cons_succ, List.set_cons_zero, List.set_cons_succ, Option.some.injEq, exists_eq_left', exists_eq_left, if_true, sizeLine_eq, Nat.reduceLeDiff, Nat.reduceLT, Nat.zero_le, true_and, and_true, Bool.false_eq_true, if_false]
      have hdm := List.mem_of_getElem? hdi
      have hrk := (e1t d hdm).2
      obtain ⟨z, ys, rs, w, rfl, hvr, hvw⟩ := sh4 d hdm
      have bad2 : (isName w && rs.all fun r => !isRet r) = false → ∃ d1 S1_1, VW (D.bl false) S3 d1 S1_1 ∧ Q d1 S1_1 := fun e => bad (by
        have : (ts.all fun d => isName (nth3 d) && (rwOf d).all fun r => !isRet r) = false := by
          rw [Bool.eq_false_iff]
          intro h
          have h1 : (isName w && rs.all fun r => !isRet r) = true := List.all_eq_true.mp h _ hdm
          rw [e] at h1
          cases h1
        rw [← hR, this]
        rfl)
      refine ix_sq rfl rfl (at_n (i := 3) rfl) ⟨w, rfl, hvw, tru_b (br2 (fun g => bad2 ?_) fun g => ?_)⟩
      · have g : isName w = false := by simpa using g
        rw [g]; rfl
      have g : isName w = true := by simpa using g
      refine ix_sq rfl rfl (at_n (i := 2) rfl) ⟨rs, .inl rfl, lc_fl (fun d => !!isRet d) (vk_tup hvr).1 (fun W j x acc hx w1 w2 => ?_) (e0_f ?_)⟩
      · obtain ⟨wd, rest, rfl⟩ := row_word (List.all_eq_true.mp (show rs.all (rowOk (szOf ks ts ps) rs.length) = true from hrk) x (List.mem_of_getElem? hx))
        have e5 : (!!isRet (.tup (.str wd :: rest))) = decide (wd = "return") := by rw [Bool.not_not]; rfl
        rw [e5] at w1 w2
        exact ix_sq rfl rfl at_0 ⟨_, rfl, br2 (fun g => w1 (by rw [Bool.false_xor] at g; exact g)) fun g => w2 (by rw [Bool.false_xor] at g; exact g)⟩
      rw [filt_nil]
      refine ⟨_, rfl, br2 (fun e => bad2 ?_) fun e => ?_⟩
      · have e : (rs.all fun r => !isRet r) = false := by simpa using e
        rw [e, Bool.and_false]
      have e : (rs.all fun r => !isRet r) = true := by
        revert e
        cases rs.all fun r => !isRet r <;> simp
      refine ⟨rfl, _, rfl, fun y hy => ?_⟩
      rw [tk1 hdi] at hy
      rcases List.mem_append.mp hy with h | h
      · exact hall2 y h
      · rw [List.mem_singleton.mp h]
        show (isName w && rs.all fun r => !isRet r) = true
        rw [g, e]; rfl
    rintro i δ S3 hi ⟨rfl, r3, rfl, hall2⟩
    rw [List.take_of_length_le hi] at hall2
    have e2 : (ts.all fun d => isName (nth3 d) && (rwOf d).all fun r => !isRet r) = true := List.all_eq_true.mpr hall2
    rw [e2, Bool.true_and] at hR
    simp only [dVar, dC, dOp, dUn, dChain, dTr, dB, dAnd, dOr, dNot, dIf, dAndV, dOrV, dNotV, dNil, dCons, dTup, dLst, dLf, dNext, dSeq, dBreak, dCont, dDrop, dRet, dRetN, dIfS, gdName, gdNil, gdCons, gdTup, gdSub, dAsg, dPar, dCall, dCallK, dCB, dM0, dM, dGet1, dGet2, dDk, dDt, dPart, dNoPart, dSlice, dAug, dYes, dSort2, revD, iTupD, iLstD, iLf, iLw, iRange1, iRange2, iRange3, iEnumD, iZipD, iZipMD, iStrD, dGix, dDc, dIsi, dSortSet, dLenSet, dDlit, gdLst, dFor, dWhile, dLc, dLcM, dFld, dFldSet, dFldAdd, dMeth, dMake, dPar3, dDisp, dPrs, dFsi, dGget, dKgt, dKgtL, dCut, dTcut, wipeD, bodyE, startD, List.map_cons, List.map_nil, List.length_cons, List.length_nil, List.replicate_succ, List.replicate_zero, List.cons_append, List.nil_append, Nat.reduceAdd, Nat.reduceSub, Nat.zero_add, List.getElem?_cons_zero, List.getElem?_cons_succ, List.set_cons_zero, List.set_cons_succ, Option.some.injEq, exists_eq_left', exists_eq_left, if_true, sizeLine_eq, Nat.reduceLeDiff, Nat.reduceLT, Nat.zero_le, true_and, and_true, Bool.false_eq_true, if_false]
    refine ix_sq rfl rfl (at_n (i := 1) rfl) ⟨ts, .inl rfl, lc_fl (fun d => !!rg ts (nmOf d)) lt (fun W j x acc hx w1 w2 => ?_) (e0_f ?_)⟩
    · have hm := List.mem_of_getElem? hx
      have hmn : nmOf x ∈ ts.map nmOf := List.mem_map_of_mem hm
      obtain ⟨z, ys, rs, w, rfl, _⟩ := sh4 x hm
      refine ix_sq rfl rfl (at_n (i := 1) rfl) (ix_sq rfl rfl at_0 ⟨ts, z, rfl, u, hmn, fun b hb => tru_b ?_⟩)
      have er : b = rg ts z := rg_iff hb
      have e5 : (!!rg ts (nmOf (.tup [.str z, .tup ys, .tup rs, w]))) = b := by rw [Bool.not_not, er]; rfl
      rw [e5] at w1 w2
      exact br2 w1 w2
    rw [filt_nil, Bool.false_xor, hR]
    exact rt_sub sub q
/-- a value that can be shown -/
def Ok (S : Sto) (d : D) : Prop := ∃ ls dd, (ls && dd) = false ∧ vok S ls dd 1000 d ∧ (pyOf S d).depth ≤ 60 ∧ (pyOf S d).weight ≤ 300000
def sp__law_right : SpD := fun ds S Q _ => ∃ (d : D), ds = [d] ∧ Ok S d ∧ Q (.bl true) S
theorem ok__law_right {P : Program} {w : World} {K : PySem.W.Frag} {mg : Str → Option Value} {base : Heap} (T : Txt K w mg) (C__law_is_source : Cal P w K mg base 6 "_law_is_source" s__law_is_source ["it"] sp__law_is_source) (C_is_source : Cal P w K mg base 7 "is_source" s_is_source ["thing"] sp_is_source) {ff : Addr} {fd : FuncData} (F : Fun K "_law_right" "_law_right" s__law_right ff fd) (mf : mg "_law_right" = some (.ref ff)) : Cal P w K mg base 8 "_law_right" s__law_right ["it"] sp__law_right := by
  refine ⟨ff, fd, okD F sc__law_right (fun ds S Q E h => ?len) (fun cdv A outer s H E ds S Q E' hcd hr h => ⟨_, (dss_cons (ds_par 1 2 rfl sc__law_right.nd (da_cons (de_callB (cd_repr3 hr) (by rfl) T.nb_repr (da_cons (de_var 0) da_nil)) (da_cons (de_c C__law_is_source hr (da_cons (de_var 0) da_nil)) da_nil)))
      (dss_one (ds_ret (de_and (de_cmp (od_eq hr) (de_lf (da_cons (de_c C_is_source hr (da_cons (de_var 0) da_nil)) (da_cons (de_ck0 C_is_source hr kw_is_source_thing (dk_cons (de_var 0) dk_nil)) (da_cons (de_c C_is_source hr (da_cons (de_var 0) da_nil)) da_nil)))) (de_op od_mulL (de_lst (da_cons (de_var 2) da_nil)) de_int)) (de_one (de_cmp (od_eq hr) (de_callB (cd_repr3 hr) (by rfl) T.nb_repr (da_cons (de_var 0) da_nil)) (de_var 1))))))), ?run⟩), F.binds (ps := ["it"]) fun _ _ _ _ _ _ us hl => match us, hl with | [_], _ => rfl, mf, F⟩
  case len => obtain ⟨d, rfl, _⟩ := h; rfl
  case run =>
    obtain ⟨d, rfl, hd, q⟩ := h
    simp only [dVar, dC, dOp, dUn, dChain, dTr, dB, dAnd, dOr, dNot, dIf, dAndV, dOrV, dNotV, dNil, dCons, dTup, dLst, dLf, dNext, dSeq, dBreak, dCont, dDrop, dRet, dRetN, dIfS, gdName, gdNil, gdCons, gdTup, gdSub, dAsg, dPar, dCall, dCallK, dCB, dM0, dM, dGet1, dGet2, dDk, dDt, dPart, dNoPart, dSlice, dAug, dYes, dSort2, revD, iTupD, iLstD, iLf, iLw, iRange1, iRange2, iRange3, iEnumD, iZipD, iZipMD, iStrD, dGix, dDc, dIsi, dSortSet, dLenSet, dDlit, gdLst, dFor, dWhile, dLc, dLcM, dFld, dFldSet, dFldAdd, dMeth, dMake, dPar3, dDisp, dPrs, dFsi, dGget, dKgt, dKgtL, dCut, dTcut, wipeD, bodyE, startD, List.map_cons, List.map_nil, List.length_cons, List.length_nil, List.replicate_succ, List.replicate_zero, List.cons_append, List.nil_append, Nat.reduceAdd, Nat.reduceSub, Nat.zero_add, List.getElem?_cons_zero, List.getElem?_cons_succ, List.set_cons_zero, List.set_cons_succ, Option.some.injEq, exists_eq_left', exists_eq_left, if_true, sizeLine_eq, Nat.reduceLeDiff, Nat.reduceLT, Nat.zero_le, true_and, and_true, Bool.false_eq_true, if_false]
    obtain ⟨ls, dd, hl, hv, hdp, hw⟩ := hd
    have vk : Vk S d := vok_mono hv
    refine ⟨d, ls, dd, 1000, rfl, hl, hv, hdp, hw, d, rfl, vk, _, _, rfl, d, rfl, vk, d, rfl, vk, d, rfl, vk, fun p np => ?_⟩
    have sub : DL.Sub S (up S p (.lst [.bl (isSrc d)])) := DL.Sub.refl.un np
    refine ⟨p, 3, _, rfl, rfl, up_same, by decide, by decide, by rw [sizeLine_eq]; simp, ?_⟩
    refine eq_bls (bs := [isSrc d, isSrc d, isSrc d]) (cs := [isSrc d, isSrc d, isSrc d]) ⟨_, rfl, brT (xt rfl) ?_⟩
    obtain ⟨hv2, ep⟩ := vok_sub sub hv
    refine ⟨d, ls, dd, 1000, rfl, hl, hv2, by rw [ep]; exact hdp, by rw [ep]; exact hw, ?_⟩
    rw [ep]
    have e : decide ((pyOf S d).shown = (pyOf S d).shown) = true := decide_eq_true rfl
    show ∃ d1 S1, VW (D.bl (xor false (decide ((pyOf S d).shown = (pyOf S d).shown)))) _ d1 S1 ∧ Q d1 S1
    rw [e]
    exact rt_sub sub q
end K05


namespace K05
open PySem L2 PyProof.Rows DL
/-! ### draws -/
/-- the spring at p, its cells at a, n draws at most to come -/
def Spr (S : Sto) (p a : Addr) (n : Nat) : Prop := ∃ (ms : List Int) (m : Int) (c : Nat), S p = some (.lst [.ref a, .int m, .int (c : Nat)]) ∧ S a = some (.lst (ms.map D.int)) ∧ p ≠ a ∧ ms.length ≤ 100 ∧ c + n ≤ 2 ^ 40
theorem Spr.mono {S : Sto} {p a : Addr} {n m : Nat} (h : Spr S p a n) (hm : m ≤ n) : Spr S p a m := by
  obtain ⟨ms, q, c, h1, h2, h3, h4, h5⟩ := h
  exact ⟨ms, q, c, h1, h2, h3, h4, by omega⟩
/-- nothing but the spring has changed -/
def Off (p a : Addr) (S S' : Sto) : Prop := ∀ b, b ≠ p → b ≠ a → S' b = S b
theorem Off.refl {p a : Addr} {S : Sto} : Off p a S S := fun _ _ _ => rfl
theorem Off.trans {p a : Addr} {S S1 S2 : Sto} (h : Off p a S S1) (k : Off p a S1 S2) : Off p a S S2 := fun b h1 h2 => (k b h1 h2).trans (h b h1 h2)
theorem Spr.up {S : Sto} {p a b : Addr} {n : Nat} {o : MO} (h : Spr S p a n) (h1 : b ≠ p) (h2 : b ≠ a) : Spr (up S b o) p a n := by
  obtain ⟨ms, m, c, k1, k2, k3⟩ := h
  exact ⟨ms, m, c, by rw [up_ne h1.symm]; exact k1, by rw [up_ne h2.symm]; exact k2, k3⟩
theorem Spr.del {S : Sto} {p a b : Addr} {n : Nat} (h : Spr S p a n) (h1 : b ≠ p) (h2 : b ≠ a) : Spr (del S b) p a n := by
  obtain ⟨ms, m, c, k1, k2, k3⟩ := h
  exact ⟨ms, m, c, by rw [del_ne h1.symm]; exact k1, by rw [del_ne h2.symm]; exact k2, k3⟩
theorem Spr.ne {S : Sto} {p a b : Addr} {n : Nat} (h : Spr S p a n) (hb : S b = none) : b ≠ p ∧ b ≠ a := by
  obtain ⟨ms, m, c, k1, k2, k3⟩ := h
  exact ⟨fun e => (by rw [e, k1] at hb; cases hb), fun e => (by rw [e, k2] at hb; cases hb)⟩
def sp__law_spring : SpD := fun ds S Q _ => ∃ ns : List Int, ds = [.fl (ns.map D.int)] ∧ ns.length ≤ 63 ∧ ∀ p a S', Spr S' p a (2 ^ 40) → S p = none → S a = none → Off p a S S' → Q (.ref p) S'
theorem ok__law_spring {P : Program} {w : World} {K : PySem.W.Frag} {mg : Str → Option Value} {base : Heap} (T : Txt K w mg)  {ff : Addr} {fd : FuncData} (F : Fun K "_law_spring" "_law_spring" s__law_spring ff fd) (mf : mg "_law_spring" = some (.ref ff)) : Cal P w K mg base 1 "_law_spring" s__law_spring ["script"] sp__law_spring := by
  refine ⟨ff, fd, okD F sc__law_spring (fun ds S Q E h => ?len) (fun cdv A outer s H E ds S Q E' hcd hr h => ⟨_, (dss_cons (ds_par 1 2 rfl sc__law_spring.nd (da_cons (de_callTy (cd_list false) (by rfl) T.nb_list (da_cons (de_slice (xd_slice false) (de_var 0) do_none (do_some de_int)) da_nil)) (da_cons de_int da_nil)))
      (dss_cons (ds_for PassesOwn.never rfl (di_lst (de_var 1)) (dg_name 3 sc__law_spring.nd) (dss_one (ds_set 2 sc__law_spring.nd (de_op od_mod (de_op (od_add false) (de_op (od_add false) (de_op od_mul (de_var 2) de_int) (de_op od_mod (de_var 3) de_int)) de_int) de_int))))
      (dss_one (ds_ret (de_lst (da_cons (de_rev true (de_var 1)) (da_cons (de_var 2) (da_cons de_int da_nil)))))))), ?run⟩), F.binds (ps := ["script"]) fun _ _ _ _ _ _ us hl => match us, hl with | [_], _ => rfl, mf, F⟩
  case len => obtain ⟨ns, rfl, _⟩ := h; rfl
  case run =>
    obtain ⟨ns, rfl, hl, q⟩ := h
    simp only [dVar, dC, dOp, dUn, dChain, dTr, dB, dAnd, dOr, dNot, dIf, dAndV, dOrV, dNotV, dNil, dCons, dTup, dLst, dLf, dNext, dSeq, dBreak, dCont, dDrop, dRet, dRetN, dIfS, gdName, gdNil, gdCons, gdTup, gdSub, dAsg, dPar, dCall, dCallK, dCB, dM0, dM, dGet1, dGet2, dDk, dDt, dPart, dNoPart, dSlice, dAug, dYes, dSort2, revD, iTupD, iLstD, iLf, iLw, iRange1, iRange2, iRange3, iEnumD, iZipD, iZipMD, iStrD, dGix, dDc, dIsi, dSortSet, dLenSet, dDlit, gdLst, dFor, dWhile, dLc, dLcM, dFld, dFldSet, dFldAdd, dMeth, dMake, dPar3, dDisp, dPrs, dFsi, dGget, dKgt, dKgtL, dCut, dTcut, wipeD, bodyE, startD, List.map_cons, List.map_nil, List.length_cons, List.length_nil, List.replicate_succ, List.replicate_zero, List.cons_append, List.nil_append, Nat.reduceAdd, Nat.reduceSub, Nat.zero_add, List.getElem?_cons_zero, List.getElem?_cons_succ, List.set_cons_zero, List.set_cons_succ, Option.some.injEq, exists_eq_left', exists_eq_left, if_true]
    obtain ⟨ns', ec, lc, _⟩ := cutD_map D.int ns none (some 63)
    refine ⟨63, rfl, _, rfl, brF rfl ⟨_, _, rfl, rfl, brF rfl ⟨_, _, rfl, .inl ⟨_, rfl, ?_⟩⟩⟩⟩
    rw [ec]
    refine fr_seq (fun i δ S' => S' = S ∧ ∃ (m : Int) (r : Option D), δ = [some (.fl (ns.map D.int)), some (.fl (ns'.map D.int)), some (.int m), r]) ⟨rfl, _, _, rfl⟩ ?_ ?_
    · rintro i x δ S' hx ⟨rfl, m, r, rfl⟩
      obtain ⟨z, hz, rfl⟩ := map_at hx
      simp only [dVar, dC, dOp, dUn, dChain, dTr, dB, dAnd, dOr, dNot, dIf, dAndV, dOrV, dNotV, dNil, dCons, dTup, dLst, dLf, dNext, dSeq, dBreak, dCont, dDrop, dRet, dRetN, dIfS, gdName, gdNil, gdCons, gdTup, gdSub, dAsg, dPar, dCall, dCallK, dCB, dM0, dM, dGet1, dGet2, dDk, dDt, dPart, dNoPart, dSlice, dAug, dYes, dSort2, revD, iTupD, iLstD, iLf, iLw, iRange1, iRange2, iRange3, iEnumD, iZipD, iZipMD, iStrD, dGix, dDc, dIsi, dSortSet, dLenSet, dDlit, gdLst, dFor, dWhile, dLc, dLcM, dFld, dFldSet, dFldAdd, dMeth, dMake, dPar3, dDisp, dPrs, dFsi, dGget, dKgt, dKgtL, dCut, dTcut, wipeD, bodyE, startD, List.map_cons, List.map_nil, List.length_cons, List.length_nil, List.replicate_succ, List.replicate_zero, List.cons_append, List.nil_append, Nat.reduceAdd, Nat.reduceSub, Nat.zero_add, List.getElem?_cons_zero, List.getElem?_cons_succ, List.set_cons_zero, List.set_cons_succ, Option.some.injEq, exists_eq_left', exists_eq_left, if_true]
      refine it_of (cmul2 (by decide) (by decide)) (it_of (by decide) (add_i (add_i (it_of (by decide) ?_))))
      exact ⟨rfl, _, _, rfl⟩
    · rintro i δ S' hi ⟨rfl, m, r, rfl⟩
      simp only [dVar, dC, dOp, dUn, dChain, dTr, dB, dAnd, dOr, dNot, dIf, dAndV, dOrV, dNotV, dNil, dCons, dTup, dLst, dLf, dNext, dSeq, dBreak, dCont, dDrop, dRet, dRetN, dIfS, gdName, gdNil, gdCons, gdTup, gdSub, dAsg, dPar, dCall, dCallK, dCB, dM0, dM, dGet1, dGet2, dDk, dDt, dPart, dNoPart, dSlice, dAug, dYes, dSort2, revD, iTupD, iLstD, iLf, iLw, iRange1, iRange2, iRange3, iEnumD, iZipD, iZipMD, iStrD, dGix, dDc, dIsi, dSortSet, dLenSet, dDlit, gdLst, dFor, dWhile, dLc, dLcM, dFld, dFldSet, dFldAdd, dMeth, dMake, dPar3, dDisp, dPrs, dFsi, dGget, dKgt, dKgtL, dCut, dTcut, wipeD, bodyE, startD, List.map_cons, List.map_nil, List.length_cons, List.length_nil, List.replicate_succ, List.replicate_zero, List.cons_append, List.nil_append, Nat.reduceAdd, Nat.reduceSub, Nat.zero_add, List.getElem?_cons_zero, List.getElem?_cons_succ, List.set_cons_zero, List.set_cons_succ, Option.some.injEq, exists_eq_left', exists_eq_left, if_true]
      refine ⟨_, rfl, fun a na => ⟨by decide, fun p np => ?_⟩⟩
      obtain ⟨ne, np⟩ := up_non np
      rw [← List.map_reverse]
      refine rt_of (q p a _ ⟨ns'.reverse, m, 0, up_same, by rw [up_ne ne.symm, up_same], ne, by rw [List.length_reverse]; omega, Nat.le_refl _⟩ np na fun b h1 h2 => by rw [up_ne h1, up_ne h2])
def sp__law_draw : SpD := fun ds S Q _ => ∃ p a n many, ds = [.ref p, .int many] ∧ 0 < many ∧ many < 1073741824 ∧ Spr S p a (n + 1) ∧ ∀ i S', 0 ≤ i → i < many → Spr S' p a n → Off p a S S' → Q (.int i) S'
theorem ok__law_draw {P : Program} {w : World} {K : PySem.W.Frag} {mg : Str → Option Value} {base : Heap} (T : Txt K w mg)  {ff : Addr} {fd : FuncData} (F : Fun K "_law_draw" "_law_draw" s__law_draw ff fd) (mf : mg "_law_draw" = some (.ref ff)) : Cal P w K mg base 1 "_law_draw" s__law_draw ["spring", "many"] sp__law_draw := by
  refine ⟨ff, fd, okD F sc__law_draw (fun ds S Q E h => ?len) (fun cdv A outer s H E ds S Q E' hcd hr h => ⟨_, (dss_cons (ds_asg (de_op (od_add false) (de_ix (xd_ix hr) (de_var 0) de_int) de_int) (dg_sub hr (de_var 0) de_int))
      (dss_cons (ds_set 2 sc__law_draw.nd (de_ix (xd_ix hr) (de_var 0) de_int))
      (dss_cut (ds_if (dt_cmp (od_ne0 hr) (de_ix (xd_ix hr) (de_var 0) de_int) (de_lf da_nil)) (dss_cons (ds_set 3 sc__law_draw.nd (de_m0 PySem.F.plainAttrs_list PySem.F.slot_list_pop PySem.F.type_list_pop md_pop (de_ix (xd_ix hr) (de_var 0) de_int)))
      (dss_cons (ds_if (dt_cmp od_ge (de_var 3) (de_op od_pow de_int de_int)) (dss_cons (ds_expr (de_m PySem.F.plainAttrs_list PySem.F.slot_list_append PySem.F.type_list_append md_append (de_ix (xd_ix hr) (de_var 0) de_int) (da_cons (de_op od_fdiv (de_var 3) (de_var 1)) da_nil)))
      (dss_one (ds_ret (de_op od_mod (de_var 3) (de_var 1))))) dss_nil)
      (dss_one (ds_set 2 sc__law_draw.nd (de_op (od_add false) (de_var 2) (de_var 3)))))) dss_nil)
      (dss_cons (ds_set 2 sc__law_draw.nd (de_op (od_add false) (de_op (od_add false) (de_op od_mod (de_var 2) de_int) (de_op od_mul (de_op od_mul de_int (de_ix (xd_ix hr) (de_var 0) de_int)) (de_ix (xd_ix hr) (de_var 0) de_int))) de_int))
      (dss_cons (ds_set 2 sc__law_draw.nd (de_op od_mod (de_op od_mul (de_var 2) de_int) de_int))
      (dss_cons (ds_set 2 sc__law_draw.nd (de_op od_mod (de_op (od_add false) (de_op (od_add false) (de_op od_mul (de_var 2) (de_var 2)) (de_op od_mul de_int (de_ix (xd_ix hr) (de_var 0) de_int))) de_int) de_int))
      (dss_one (ds_ret (de_op od_mod (de_op od_fdiv (de_op od_mod (de_op od_mul (de_var 2) de_int) de_int) de_int) (de_var 1)))))))))), ?run⟩), F.binds (ps := ["spring", "many"]) fun _ _ _ _ _ _ us hl => match us, hl with | [_, _], _ => rfl, mf, F⟩
  case len => obtain ⟨p, a, n, many, rfl, _⟩ := h; rfl
  case run =>
    obtain ⟨p, a, n, many, rfl, h0, h1, sp, q⟩ := h
    simp only [dVar, dC, dOp, dUn, dChain, dTr, dB, dAnd, dOr, dNot, dIf, dAndV, dOrV, dNotV, dNil, dCons, dTup, dLst, dLf, dNext, dSeq, dBreak, dCont, dDrop, dRet, dRetN, dIfS, gdName, gdNil, gdCons, gdTup, gdSub, dAsg, dPar, dCall, dCallK, dCB, dM0, dM, dGet1, dGet2, dDk, dDt, dPart, dNoPart, dSlice, dAug, dYes, dSort2, revD, iTupD, iLstD, iLf, iLw, iRange1, iRange2, iRange3, iEnumD, iZipD, iZipMD, iStrD, dGix, dDc, dIsi, dSortSet, dLenSet, dDlit, gdLst, dFor, dWhile, dLc, dLcM, dFld, dFldSet, dFldAdd, dMeth, dMake, dPar3, dDisp, dPrs, dFsi, dGget, dKgt, dKgtL, dCut, dTcut, wipeD, bodyE, startD, List.map_cons, List.map_nil, List.length_cons, List.length_nil, List.replicate_succ, List.replicate_zero, List.cons_append, List.nil_append, Nat.reduceAdd, Nat.reduceSub, Nat.zero_add, List.getElem?_cons_zero, List.getElem?_cons_succ, List.set_cons_zero, List.set_cons_succ, Option.some.injEq, exists_eq_left', exists_eq_left, if_true]
    obtain ⟨ms, m, c, hp, ha, ne, l100, cn⟩ := sp
    refine ix_sq rfl (sq_l hp) (at_n (i := 2) rfl) (add_i (set_l hp (ixN_nat (n := 3) (i := 2) (by decide)) ?_))
    have hp1 : up S p (.lst [.ref a, .int m, .int ((c : Nat) + 1)]) p = some (.lst [.ref a, .int m, .int ((c : Nat) + 1)]) := up_same
    have ha1 : up S p (.lst [.ref a, .int m, .int ((c : Nat) + 1)]) a = some (.lst (ms.map D.int)) := by rw [up_ne ne.symm]; exact ha
    have of1 : Off p a S (up S p (.lst [.ref a, .int m, .int ((c : Nat) + 1)])) := fun b h1 h2 => by rw [up_ne h1]
    show ixD (.ref p) (.int 1) (up S p (.lst [.ref a, .int m, .int ((c : Nat) + 1)])) _
    generalize up S p (.lst [.ref a, .int m, .int ((c : Nat) + 1)]) = S1 at hp1 ha1 of1
    have fin : ∀ (S2 : Sto) (ms' : List Int) (i : Int), S2 p = some (.lst [.ref a, .int m, .int ((c : Nat) + 1)]) → S2 a = some (.lst (ms'.map D.int)) → ms'.length ≤ 100 → Off p a S S2 → 0 ≤ i → i < many → Q (.int i) S2 := fun S2 ms' i g1 g2 g3 g4 i0 i1 =>
      q i S2 i0 i1 ⟨ms', m, c + 1, by rw [g1]; rfl, g2, ne, g3, by omega⟩ g4
    refine ix_sq rfl (sq_l hp1) (at_n (i := 1) rfl) ⟨fun δ' S' => ∃ (x : Int) (r : Option D) (ms' : List Int), δ' = [some (.ref p), some (.int many), some (.int x), r] ∧ S' p = some (.lst [.ref a, .int m, .int ((c : Nat) + 1)]) ∧ S' a = some (.lst (ms'.map D.int)) ∧ ms'.length ≤ 100 ∧ Off p a S S', ?_, ?_⟩
    · refine ix_sq rfl (sq_l hp1) (at_n (i := 0) rfl) ⟨Nat.zero_le _, e0_l (ls_l ha1) ⟨_, rfl, ?_⟩⟩
      rcases List.eq_nil_or_concat ms with e | ⟨ms0, y, e⟩
      · subst e
        exact brF rfl ⟨m, none, [], rfl, hp1, ha1, by simp, of1⟩
      · rw [List.concat_eq_append] at e
        subst e
        refine brT (by simp) (ix_sq rfl (sq_l hp1) (at_n (i := 0) rfl) ⟨ty_l ha1, a, _, .int y, rfl, trivial, ha1, by simp, ?_⟩)
        have ed : ((ms0 ++ [y]).map D.int).dropLast = ms0.map D.int := by simp
        rw [ed]
        have hp2 : up S1 a (.lst (ms0.map D.int)) p = some (.lst [.ref a, .int m, .int ((c : Nat) + 1)]) := by rw [up_ne ne]; exact hp1
        have ha2 : up S1 a (.lst (ms0.map D.int)) a = some (.lst (ms0.map D.int)) := up_same
        have of2 : Off p a S (up S1 a (.lst (ms0.map D.int))) := of1.trans fun b h1 h2 => up_ne h2
        have l0 : ms0.length + 1 ≤ 100 := by simpa using l100
        generalize up S1 a (.lst (ms0.map D.int)) = S2 at hp2 ha2 of2
        refine it_of ⟨by decide, by decide, by decide⟩ (it_of trivial ⟨_, rfl, br2 (fun _ => ?_) fun _ => ?_⟩)
        · refine ix_sq rfl (sq_l hp2) (at_n (i := 0) rfl) ⟨ty_l ha2, it_of ⟨h0, h1⟩ ⟨a, _, _, rfl, rfl, ha2, ?_, it_of h0 (rt_of (fin _ (ms0 ++ [y / many]) _ ?_ ?_ ?_ ?_ ?_ ?_))⟩⟩
          · rw [List.length_map]; exact Nat.lt_of_lt_of_le (show ms0.length < 101 by omega) (by decide)
          · rw [up_ne ne]; exact hp2
          · rw [up_same, List.map_append]; rfl
          · simp; omega
          · exact of2.trans fun b h1 h2 => up_ne h2
          · exact Int.emod_nonneg _ (by omega)
          · exact Int.emod_lt_of_pos _ h0
        · exact add_i ⟨_, _, ms0, rfl, hp2, ha2, by omega, of2⟩
    · rintro δ' S' ⟨x, r, ms', rfl, hp', ha', hl', off⟩
      simp only [dVar, dC, dOp, dUn, dChain, dTr, dB, dAnd, dOr, dNot, dIf, dAndV, dOrV, dNotV, dNil, dCons, dTup, dLst, dLf, dNext, dSeq, dBreak, dCont, dDrop, dRet, dRetN, dIfS, gdName, gdNil, gdCons, gdTup, gdSub, dAsg, dPar, dCall, dCallK, dCB, dM0, dM, dGet1, dGet2, dDk, dDt, dPart, dNoPart, dSlice, dAug, dYes, dSort2, revD, iTupD, iLstD, iLf, iLw, iRange1, iRange2, iRange3, iEnumD, iZipD, iZipMD, iStrD, dGix, dDc, dIsi, dSortSet, dLenSet, dDlit, gdLst, dFor, dWhile, dLc, dLcM, dFld, dFldSet, dFldAdd, dMeth, dMake, dPar3, dDisp, dPrs, dFsi, dGget, dKgt, dKgtL, dCut, dTcut, wipeD, bodyE, startD, List.map_cons, List.map_nil, List.length_cons, List.length_nil, List.replicate_succ, List.replicate_zero, List.cons_append, List.nil_append, Nat.reduceAdd, Nat.reduceSub, Nat.zero_add, List.getElem?_cons_zero, List.getElem?_cons_succ, List.set_cons_zero, List.set_cons_succ, Option.some.injEq, exists_eq_left', exists_eq_left, if_true]
      refine it_of (by decide) (ix_sq rfl (sq_l hp') (at_n (i := 2) rfl) (it_of (cmul1 (by decide) (by decide)) (ix_sq rfl (sq_l hp') (at_n (i := 2) rfl) (it_of (cmul2 (by omega) (by omega)) (add_i (add_i ?_))))))
      refine it_of (cmul2 (by decide) (by decide)) (it_of (by decide) ?_)
      refine it_of (cmul1 (by omega) (by omega)) (ix_sq rfl (sq_l hp') (at_n (i := 2) rfl) (it_of (cmul1 (by decide) (by decide)) (add_i (add_i (it_of (by decide) ?_)))))
      refine it_of (cmul2 (by decide) (by decide)) (it_of (by decide) (it_of ⟨by decide, by decide⟩ (it_of h0 (rt_of ?_))))
      exact fin _ ms' _ hp' ha' hl' off (Int.emod_nonneg _ (by omega)) (Int.emod_lt_of_pos _ h0)
def sp__law_one_of : SpD := fun ds S Q _ => ∃ p a n y, ds = [.ref p, y] ∧ Spr S p a (n + 1) ∧ ((∃ xs, y = .fl xs ∧ 0 < xs.length ∧ xs.length < 1000000 ∧ ∀ x S', x ∈ xs → Spr S' p a n → Off p a S S' → Q x S') ∨
  (∃ z : Str, y = .str z ∧ 0 < z.length ∧ z.length ≤ 64 ∧ ∀ c S', c ∈ z.cps.toList → Spr S' p a n → Off p a S S' → Q (.str ⟨#[c]⟩) S') ∨
  ∃ (h : Addr) (xs : List D), y = .ref h ∧ S h = some (.lst xs) ∧ h ≠ p ∧ h ≠ a ∧ 0 < xs.length ∧ xs.length < 1000000 ∧ ∀ x S', x ∈ xs → Spr S' p a n → Off p a S S' → Q x S')
theorem ok__law_one_of {P : Program} {w : World} {K : PySem.W.Frag} {mg : Str → Option Value} {base : Heap} (T : Txt K w mg) (C__law_draw : Cal P w K mg base 1 "_law_draw" s__law_draw ["spring", "many"] sp__law_draw) {ff : Addr} {fd : FuncData} (F : Fun K "_law_one_of" "_law_one_of" s__law_one_of ff fd) (mf : mg "_law_one_of" = some (.ref ff)) : Cal P w K mg base 2 "_law_one_of" s__law_one_of ["spring", "items"] sp__law_one_of := by
  refine ⟨ff, fd, okD F sc__law_one_of (fun ds S Q E h => ?len) (fun cdv A outer s H E ds S Q E' hcd hr h => ⟨_, (dss_one (ds_ret (de_ix (xd_ix hr) (de_var 1) (de_c C__law_draw hr (da_cons (de_var 0) (da_cons (de_callB cd_len (by rfl) T.nb_len (da_cons (de_var 1) da_nil)) da_nil)))))), ?run⟩), F.binds (ps := ["spring", "items"]) fun _ _ _ _ _ _ us hl => match us, hl with | [_, _], _ => rfl, mf, F⟩
  case len => obtain ⟨p, a, n, y, rfl, _⟩ := h; rfl
  case run =>
    obtain ⟨p, a, n, y, rfl, sp, h⟩ := h
    simp only [dVar, dC, dOp, dUn, dChain, dTr, dB, dAnd, dOr, dNot, dIf, dAndV, dOrV, dNotV, dNil, dCons, dTup, dLst, dLf, dNext, dSeq, dBreak, dCont, dDrop, dRet, dRetN, dIfS, gdName, gdNil, gdCons, gdTup, gdSub, dAsg, dPar, dCall, dCallK, dCB, dM0, dM, dGet1, dGet2, dDk, dDt, dPart, dNoPart, dSlice, dAug, dYes, dSort2, revD, iTupD, iLstD, iLf, iLw, iRange1, iRange2, iRange3, iEnumD, iZipD, iZipMD, iStrD, dGix, dDc, dIsi, dSortSet, dLenSet, dDlit, gdLst, dFor, dWhile, dLc, dLcM, dFld, dFldSet, dFldAdd, dMeth, dMake, dPar3, dDisp, dPrs, dFsi, dGget, dKgt, dKgtL, dCut, dTcut, wipeD, bodyE, startD, List.map_cons, List.map_nil, List.length_cons, List.length_nil, List.replicate_succ, List.replicate_zero, List.cons_append, List.nil_append, Nat.reduceAdd, Nat.reduceSub, Nat.zero_add, List.getElem?_cons_zero, List.getElem?_cons_succ, List.set_cons_zero, List.set_cons_succ, Option.some.injEq, exists_eq_left', exists_eq_left, if_true, sizeLine_eq, Nat.reduceLeDiff, Nat.reduceLT, Nat.zero_le, true_and, and_true, Bool.false_eq_true, if_false]
    rcases h with ⟨xs, rfl, h0, h1, q⟩ | ⟨z, rfl, h0, h1, q⟩ | ⟨hh, xs, rfl, e, hp, ha, h0, h1, q⟩
    · refine len_sq rfl ⟨p, a, n, _, rfl, by omega, by omega, sp, fun i S' i0 i1 sp' off => ?_⟩
      obtain ⟨j, rfl⟩ : ∃ j : Nat, i = j := ⟨i.toNat, by omega⟩
      have hj : j < xs.length := by omega
      exact ix_sq rfl rfl (at_n (List.getElem?_eq_getElem hj)) (rt_of (q _ _ (List.getElem_mem hj) sp' off))
    · refine len_s h1 ⟨p, a, n, _, rfl, by omega, by omega, sp, fun i S' i0 i1 sp' off => ?_⟩
      obtain ⟨j, rfl⟩ : ∃ j : Nat, i = j := ⟨i.toNat, by omega⟩
      have hj : j < z.cps.toList.length := by rw [← len_cps]; omega
      exact ix_tx (Nat.le_trans h1 (by decide)) (at_n (List.getElem?_eq_getElem hj)) (rt_of (q _ _ (List.getElem_mem hj) sp' off))
    · refine len_sq (sq_l e) ⟨p, a, n, _, rfl, by omega, by omega, sp, fun i S' i0 i1 sp' off => ?_⟩
      obtain ⟨j, rfl⟩ : ∃ j : Nat, i = j := ⟨i.toNat, by omega⟩
      have hj : j < xs.length := by omega
      exact ix_sq rfl (sq_l (by rw [off hh hp ha]; exact e)) (at_n (List.getElem?_eq_getElem hj)) (rt_of (q _ _ (List.getElem_mem hj) sp' off))
def Nm (z : Str) : Prop := nmS z = true ∧ PyData.strOk z = true
def F13 : List Str := ["none", "number", "main", "kind", "t0", "use", "a", "b", "abcdefgh", "list", "end", "made", "x1"]
def F2 : List Str := ["head", "next"]
def E1 : List Str := ["", "z", "0", "zz0zz9"]
def E2 : List Str := ["", "y", "99"]
def mk1 (c : Nat) (e : Str) : Str := (⟨#[c]⟩ : Str) ++ "2" ++ e
def mk2 (c : Nat) (e : Str) : Str := (⟨#[c]⟩ : Str) ++ e
theorem fact0 : (F13 ++ F2).Nodup ∧ ∀ z ∈ F13 ++ F2, nmS z = true ∧ PyData.strOk z = true := by decide +kernel
theorem fact1 : ∀ c ∈ ("cdghjkm" : Str).cps.toList, ∀ e ∈ E1, nmS (mk1 c e) = true ∧ PyData.strOk (mk1 c e) = true ∧ mk1 c e ∉ F13 ++ F2 ∧ ∀ c2 ∈ ("opqrsvw" : Str).cps.toList, ∀ e2 ∈ E2, mk1 c e ≠ mk2 c2 e2 := by decide +kernel
theorem fact2 : ∀ c ∈ ("opqrsvw" : Str).cps.toList, ∀ e ∈ E2, nmS (mk2 c e) = true ∧ PyData.strOk (mk2 c e) = true ∧ mk2 c e ∉ F13 ++ F2 := by decide +kernel
theorem names_ok {x y : Str} (h0 : x ∉ F13 ++ F2) (h1 : y ∉ F13 ++ F2) (h2 : x ≠ y) (hx : Nm x) (hy : Nm y) : (F13 ++ x :: y :: F2).Nodup ∧ ∀ z ∈ F13 ++ x :: y :: F2, Nm z := by
  have p : (F13 ++ x :: y :: F2).Perm (x :: y :: (F13 ++ F2)) := List.perm_middle.trans (List.Perm.cons x List.perm_middle)
  constructor
  · refine p.nodup_iff.mpr (List.nodup_cons.mpr ⟨fun h => ?_, List.nodup_cons.mpr ⟨h1, fact0.1⟩⟩)
    rcases List.mem_cons.mp h with h | h
    · exact h2 h
    · exact h0 h
  · intro z hz
    rcases List.mem_cons.mp (p.mem_iff.mp hz) with rfl | h
    · exact hx
    · rcases List.mem_cons.mp h with rfl | h
      · exact hy
      · exact fact0.2 z h
theorem mod_inj {s d : Nat} (h1 : 1 ≤ s) (h2 : s ≤ 16) (h3 : 1 ≤ d) (h4 : d ≤ 16) : (s * d) % 17 ≠ 0 := by
  have h : ∀ s ∈ List.range 17, ∀ d ∈ List.range 17, 1 ≤ s → 1 ≤ d → (s * d) % 17 ≠ 0 := by decide +kernel
  exact h s (List.mem_range.mpr (by omega)) d (List.mem_range.mpr (by omega)) h1 h3
theorem pick_nodup {L : List Str} (hL : L.Nodup) (hl : L.length = 17) {f s n : Nat} (h1 : 1 ≤ s) (h2 : s ≤ 16) (hn : n ≤ 16) : ((List.range n).map fun k => L.getD ((f + s * k) % 17) "").Nodup := by
  rw [List.Nodup, List.pairwise_map]
  refine List.Pairwise.imp_of_mem (fun {a b} ha hb hab e => ?_) List.pairwise_lt_range
  have ha := List.mem_range.mp ha
  have hb := List.mem_range.mp hb
  have l1 : (f + s * a) % 17 < L.length := by rw [hl]; exact Nat.mod_lt _ (by decide)
  have l2 : (f + s * b) % 17 < L.length := by rw [hl]; exact Nat.mod_lt _ (by decide)
  have g : ∀ i (hi : i < L.length), L.getD i "" = L[i] := fun i hi => by simp [List.getD, hi]
  rw [g _ l1, g _ l2] at e
  have ei := (List.getElem_inj hL).mp e
  have : (s * (b - a)) % 17 = 0 := by
    have e2 : f + s * b = (f + s * a) + s * (b - a) := by rw [Nat.mul_sub, Nat.add_assoc, Nat.add_sub_of_le (Nat.mul_le_mul_left s (by omega))]
    rw [e2] at ei
    omega
  exact mod_inj h1 h2 (by omega) (by omega) this
def sp__law_names : SpD := fun ds S Q _ => ∃ (p a : Addr) (n many : Nat), ds = [.ref p, .int (many : Nat)] ∧ many ≤ 16 ∧ Spr S p a (n + 6) ∧ ∀ (zs : List Str) S', zs.length = many → zs.Nodup → (∀ z ∈ zs, Nm z) → Spr S' p a n → Off p a S S' → Q (.fl (zs.map D.str)) S'
theorem ok__law_names {P : Program} {w : World} {K : PySem.W.Frag} {mg : Str → Option Value} {base : Heap} (T : Txt K w mg) (C__law_draw : Cal P w K mg base 1 "_law_draw" s__law_draw ["spring", "many"] sp__law_draw) (C__law_one_of : Cal P w K mg base 2 "_law_one_of" s__law_one_of ["spring", "items"] sp__law_one_of) {ff : Addr} {fd : FuncData} (F : Fun K "_law_names" "_law_names" s__law_names ff fd) (mf : mg "_law_names" = some (.ref ff)) : Cal P w K mg base 3 "_law_names" s__law_names ["spring", "many"] sp__law_names := by
  refine ⟨ff, fd, okD F sc__law_names (fun ds S Q E h => ?len) (fun cdv A outer s H E ds S Q E' hcd hr h => ⟨_, (dss_cons (ds_set 2 sc__law_names.nd (de_lf (da_cons de_str (da_cons de_str (da_cons de_str (da_cons de_str (da_cons de_str (da_cons de_str (da_cons de_str (da_cons de_str (da_cons de_str (da_cons de_str (da_cons de_str (da_cons de_str (da_cons de_str da_nil)))))))))))))))
      (dss_cons (ds_set 2 sc__law_names.nd (de_op (od_add false) (de_var 2) (de_lf (da_cons (de_op (od_add false) (de_op (od_add false) (de_c C__law_one_of hr (da_cons (de_var 0) (da_cons de_str da_nil))) de_str) (de_c C__law_one_of hr (da_cons (de_var 0) (da_cons (de_lf (da_cons de_str (da_cons de_str (da_cons de_str (da_cons de_str da_nil))))) da_nil)))) da_nil))))
      (dss_cons (ds_set 2 sc__law_names.nd (de_op (od_add false) (de_var 2) (de_lf (da_cons (de_op (od_add false) (de_c C__law_one_of hr (da_cons (de_var 0) (da_cons de_str da_nil))) (de_c C__law_one_of hr (da_cons (de_var 0) (da_cons (de_lf (da_cons de_str (da_cons de_str (da_cons de_str da_nil)))) da_nil)))) (da_cons de_str (da_cons de_str da_nil))))))
      (dss_cons (ds_asg (de_tup (da_cons (de_c C__law_draw hr (da_cons (de_var 0) (da_cons de_int da_nil))) (da_cons (de_op (od_add false) de_int (de_c C__law_draw hr (da_cons (de_var 0) (da_cons de_int da_nil)))) da_nil))) (dg_tup (n := 2) rfl (dgs_cons (dg_name 3 sc__law_names.nd) (dgs_cons (dg_name 4 sc__law_names.nd) dgs_nil))))
      (dss_one (ds_ret (de_lc [("k", 5)] rfl sc__law_names.nd (di_range1 (by rfl) T.nb_range (da_cons (de_var 1) da_nil)) (blkOk_by (N := ["spring", "many", "some", "first", "step", "k"]) (sc := defScope s__law_names) (by decide +kernel)) (fun _ _ _ _ _ => (pg_name (i := 5) sc__law_names.nd rfl (Or.inl rfl) (Or.inr rfl))) (fun N => (tg_name (vs := [5]) (i := 5) (by decide))) (fun _ _ _ _ _ => dts_nil) (fun _ _ _ _ _ => (de_ix (xd_ix hr) (de_var 2) (de_op od_mod (de_op (od_add false) (de_var 3) (de_op od_mul (de_var 4) (de_var 5))) de_int)))))))))), ?run⟩), F.binds (ps := ["spring", "many"]) fun _ _ _ _ _ _ us hl => match us, hl with | [_, _], _ => rfl, mf, F⟩
  case len => obtain ⟨p, a, n, many, rfl, _⟩ := h; rfl
  case run =>
    obtain ⟨p, a, n, many, rfl, hm, sp, q⟩ := h
    simp only [dVar, dC, dOp, dUn, dChain, dTr, dB, dAnd, dOr, dNot, dIf, dAndV, dOrV, dNotV, dNil, dCons, dTup, dLst, dLf, dNext, dSeq, dBreak, dCont, dDrop, dRet, dRetN, dIfS, gdName, gdNil, gdCons, gdTup, gdSub, dAsg, dPar, dCall, dCallK, dCB, dM0, dM, dGet1, dGet2, dDk, dDt, dPart, dNoPart, dSlice, dAug, dYes, dSort2, revD, iTupD, iLstD, iLf, iLw, iRange1, iRange2, iRange3, iEnumD, iZipD, iZipMD, iStrD, dGix, dDc, dIsi, dSortSet, dLenSet, dDlit, gdLst, dFor, dWhile, dLc, dLcM, dFld, dFldSet, dFldAdd, dMeth, dMake, dPar3, dDisp, dPrs, dFsi, dGget, dKgt, dKgtL, dCut, dTcut, wipeD, bodyE, startD, List.map_cons, List.map_nil, List.length_cons, List.length_nil, List.replicate_succ, List.replicate_zero, List.cons_append, List.nil_append, Nat.reduceAdd, Nat.reduceSub, Nat.zero_add, List.getElem?_cons_zero, List.getElem?_cons_succ, List.set_cons_zero, List.set_cons_succ, Option.some.injEq, exists_eq_left', exists_eq_left, if_true, sizeLine_eq, Nat.reduceLeDiff, Nat.reduceLT, Nat.zero_le, true_and, and_true, Bool.false_eq_true, if_false]
    refine ⟨p, a, n + 5, _, rfl, sp, .inr (.inl ⟨_, rfl, by decide +kernel, by decide +kernel, fun c S1 hc sp1 of1 => ?_⟩)⟩
    refine add_s (by rw [sizeLine_eq]; exact Nat.le_of_ble_eq_true rfl) ⟨p, a, n + 4, _, rfl, sp1, .inl ⟨_, rfl, by simp, by simp, fun e S2 he sp2 of2 => ?_⟩⟩
    obtain ⟨e, hE, rfl⟩ : ∃ e0 ∈ E1, e = .str e0 := by
      simp only [List.mem_cons, List.not_mem_nil, or_false] at he
      rcases he with rfl | rfl | rfl | rfl <;> exact ⟨_, by unfold E1; simp, rfl⟩
    obtain ⟨n1, k1, u1, d1⟩ := fact1 c hc e hE
    have le1 : e.length ≤ 6 := by
      have : ∀ e ∈ E1, e.length ≤ 6 := by decide +kernel
      exact this e hE
    refine add_s (by
      have : ((⟨#[c]⟩ : Str) ++ "2").length = 2 := rfl
      rw [this, sizeLine_eq]; omega) ?_
    refine add_f rfl rfl (by rw [sizeLine_eq]; simp) ⟨p, a, n + 3, _, rfl, sp2, .inr (.inl ⟨_, rfl, by decide +kernel, by decide +kernel, fun c2 S3 hc2 sp3 of3 => ?_⟩)⟩
    refine ⟨p, a, n + 2, _, rfl, sp3, .inl ⟨_, rfl, by simp, by simp, fun e2 S4 he2 sp4 of4 => ?_⟩⟩
    obtain ⟨e2, hE2, rfl⟩ : ∃ e0 ∈ E2, e2 = .str e0 := by
      simp only [List.mem_cons, List.not_mem_nil, or_false] at he2
      rcases he2 with rfl | rfl | rfl <;> exact ⟨_, by unfold E2; simp, rfl⟩
    obtain ⟨n2, k2, u2⟩ := fact2 c2 hc2 e2 hE2
    have le2 : e2.length ≤ 6 := by
      have : ∀ e ∈ E2, e.length ≤ 6 := by decide +kernel
      exact this e2 hE2
    refine add_s (by
      have : (⟨#[c2]⟩ : Str).length = 1 := rfl
      rw [this, sizeLine_eq]; omega) (add_f rfl rfl (by rw [sizeLine_eq]; simp) ?_)
    obtain ⟨nd, al⟩ := names_ok u1 u2 (d1 c2 hc2 e2 hE2) ⟨n1, k1⟩ ⟨n2, k2⟩
    obtain ⟨L, hL⟩ : ∃ L : List Str, L = F13 ++ mk1 c e :: mk2 c2 e2 :: F2 := ⟨_, rfl⟩
    have hL17 : L.length = 17 := by rw [hL]; rfl
    have eL : ([D.str "none", .str "number", .str "main", .str "kind", .str "t0", .str "use", .str "a", .str "b", .str "abcdefgh", .str "list", .str "end", .str "made", .str "x1"] ++ [D.str ((⟨#[c]⟩ : Str) ++ "2" ++ e)]) ++ [D.str ((⟨#[c2]⟩ : Str) ++ e2), .str "head", .str "next"] = L.map D.str := by rw [hL]; rfl
    rw [← hL] at nd al
    show sp__law_draw [D.ref p, D.int 17] S4 _ X0
    refine ⟨p, a, n + 1, 17, rfl, by decide, by decide, sp4, fun f S5 f0 f1 sp5 of5 => ?_⟩
    refine ⟨p, a, n, 16, rfl, by decide, by decide, sp5, fun s S6 s0 s1 sp6 of6 => add_i ?_⟩
    have off := ((((of1.trans of2).trans of3).trans of4).trans of5).trans of6
    obtain ⟨f, rfl⟩ : ∃ j : Nat, f = j := ⟨f.toNat, by omega⟩
    obtain ⟨s, rfl⟩ : ∃ j : Nat, s = j := ⟨s.toNat, by omega⟩
    refine ⟨_, rfl, rfl, _, _, rfl, _, _, rfl, rfl, _, rfl, by omega, by omega, ?_⟩
    rw [Int.toNat_natCast]
    have get : ∀ i, i < 17 → (L.map D.str)[i]? = some (.str (L.getD i "")) := fun i hi => by
      rw [List.getElem?_map, List.getElem?_eq_getElem (by omega)]
      simp [List.getD, show i < L.length by omega]
    refine lc_rng (fun i acc S' => S' = S6 ∧ i ≤ many ∧ acc = ((List.range i).map fun k => L.getD ((f + (1 + s) * k) % 17) "").map D.str) ⟨rfl, Nat.zero_le _, rfl⟩ ?_ ?_
    · rintro i acc S' hi ⟨rfl, hi2, rfl⟩
      refine ⟨by rw [List.length_map, List.length_map, List.length_range, sizeLine_eq]; omega, it_of (cmul1 (by omega) (by omega)) (add_i (it_of (by decide) ?_))⟩
      have e : ((f : Int) + (1 + (s : Int)) * (0 + (i : Int))) % 17 = (((f + (1 + s) * i) % 17 : Nat) : Int) := by
        rw [Int.zero_add]
        push_cast
        rfl
      rw [e]
      show ixD (.fl _) _ _ _
      refine ix_sq rfl (congrArg some eL) (at_n (get _ (Nat.mod_lt _ (by decide)))) ⟨rfl, hi, ?_⟩
      rw [List.range_succ, List.map_append, List.map_append]
      rfl
    · rintro i acc S' hi ⟨rfl, hi2, rfl⟩
      obtain rfl : i = many := by omega
      refine rt_of (q _ S' (by rw [List.length_map, List.length_range]) (pick_nodup nd hL17 (by omega) (by omega) hm) (fun z hz => ?_) sp6 off)
      obtain ⟨j, _, rfl⟩ := List.mem_map.mp hz
      have l1 : (f + (1 + s) * j) % 17 < L.length := by rw [hL17]; exact Nat.mod_lt _ (by decide)
      have g : L.getD ((f + (1 + s) * j) % 17) "" = L[(f + (1 + s) * j) % 17] := by simp [List.getD, l1]
      rw [g]
      exact al _ (List.getElem_mem _)
end K05

namespace K05
open PySem L2 PyProof.Rows DL
/-- data of tuples alone, of that depth and weight -/
structure Tp (k w : Nat) (d : D) : Prop where
  v : ∀ S, vok S false false 900 d
  k : ∀ S, (pyOf S d).depth ≤ k
  w : ∀ S, (pyOf S d).weight ≤ w
theorem Tp.mono {k w k' w' : Nat} {d : D} (h : Tp k w d) (a : k ≤ k') (b : w ≤ w') : Tp k' w' d := ⟨h.v, fun S => Nat.le_trans (h.k S) a, fun S => Nat.le_trans (h.w S) b⟩
theorem Tp.str {z : Str} {k w : Nat} (h1 : PyData.strOk z = true) (h2 : z.length ≤ w) (h3 : z.length ≤ 64) : Tp k w (.str z) :=
  ⟨fun S => by unfold vok; exact ⟨h1, h3⟩, fun S => by unfold pyOf; exact Nat.zero_le _, fun S => by unfold pyOf; exact h2⟩
theorem Tp.non {k w : Nat} : Tp k w .non := ⟨fun S => by unfold vok; trivial, fun S => by unfold pyOf; exact Nat.zero_le _, fun S => by unfold pyOf; exact Nat.zero_le _⟩
theorem Tp.bl {b : Bool} {k w : Nat} : Tp k w (.bl b) := ⟨fun S => by unfold vok; trivial, fun S => by unfold pyOf; exact Nat.zero_le _, fun S => by unfold pyOf; exact Nat.zero_le _⟩
theorem Tp.int {i : Int} {k w : Nat} (h : i.natAbs < 10 ^ 12) (hw : 40 ≤ w) : Tp k w (.int i) := by
  have hl := log2_12 h
  refine ⟨fun S => ?_, fun S => by unfold pyOf; exact Nat.zero_le _, fun S => ?_⟩
  · unfold vok
    exact ⟨by omega, Nat.le_trans (PyData.shown_int_le h) (by decide)⟩
  · unfold pyOf
    simp only [PyData.weight]
    split
    · exact Nat.zero_le _
    · omega
theorem tps {k w : Nat} {S : Sto} : ∀ {ds : List D}, (∀ d ∈ ds, Tp k w d) → voks S false false 900 ds ∧ PyData.depthAll (pyOfs S ds) ≤ k ∧ PyData.weightAll (pyOfs S ds) ≤ ds.length * (w + 1)
  | [], _ => ⟨by unfold voks; trivial, by unfold pyOfs; exact Nat.zero_le _, by unfold pyOfs; exact Nat.zero_le _⟩
  | d :: ds, h => by
    obtain ⟨a, b, c⟩ := tps (S := S) (ds := ds) fun x hx => h x (List.mem_cons_of_mem _ hx)
    have hd := h d List.mem_cons_self
    refine ⟨by unfold voks; exact ⟨hd.v S, a⟩, ?_, ?_⟩
    · unfold pyOfs; simp only [PyData.depthAll]; have := hd.k S; omega
    · unfold pyOfs; simp only [PyData.weightAll, List.length_cons]; have := hd.w S; rw [Nat.add_mul]; omega
theorem Tp.tup {k w n : Nat} {ds : List D} (h : ∀ d ∈ ds, Tp k w d) (hn : ds.length ≤ n) (h1 : ds.length ≤ 900) : Tp (k + 1) (n * (w + 1)) (.tup ds) := by
  refine ⟨fun S => ?_, fun S => ?_, fun S => ?_⟩ <;> obtain ⟨a, b, c⟩ := tps (S := S) h
  · unfold vok; exact ⟨h1, a⟩
  · unfold pyOf; simp only [PyData.depth]; omega
  · unfold pyOf; simp only [PyData.weight]; exact Nat.le_trans c (Nat.mul_le_mul_right _ hn)
theorem nm_len {z : Str} (h : Nm z) : z.length ≤ 8 := by
  have := h.1
  unfold nmS at this
  simp only [Bool.and_eq_true] at this
  exact of_decide_eq_true this.1.1.2
theorem Tp.nm {z : Str} {k w : Nat} (h : Nm z) (hw : 8 ≤ w) : Tp k w (.str z) := .str h.2 (Nat.le_trans (nm_len h) hw) (Nat.le_trans (nm_len h) (by decide))
theorem Tp.ys {zs : List Str} {k : Nat} (h : ∀ z ∈ zs, Nm z) (hl : zs.length ≤ 4) : Tp (k + 1) 36 (.tup (zs.map D.str)) :=
  Tp.tup (k := k) (w := 8) (n := 4) (fun d hd => by
    obtain ⟨z, hz, rfl⟩ := List.mem_map.mp hd
    exact .nm (h z hz) (Nat.le_refl _)) (by rw [List.length_map]; exact hl) (by rw [List.length_map]; omega)
def RowG (s : Sz) (m : Int) (d : D) : Prop := rowOk s m d = true ∧ Tp 2 164 d
theorem rowG {s : Sz} {m : Int} {w : Str} {ds : List D} (h : rowOk s m (.tup (.str w :: ds)) = true) (hw : PyData.strOk w = true ∧ w.length ≤ 8) (hl : ds.length ≤ 3) (hd : ∀ d ∈ ds, Tp 1 40 d) : RowG s m (.tup (.str w :: ds)) :=
  ⟨h, Tp.tup (k := 1) (w := 40) (n := 4) (fun d hd2 => (List.mem_cons.mp hd2).elim (fun e => by rw [e]; exact .str hw.1 (by omega) (by omega)) (hd d)) (by rw [List.length_cons]; omega) (by rw [List.length_cons]; omega)⟩
theorem ar_mem {l : List (Str × Nat)} (h : (l.map (·.1)).Nodup) {q : Str × Nat} (hq : q ∈ l) : ar l q.1 = some q.2 := by
  induction l with
  | nil => cases hq
  | cons p l ih =>
    rw [List.map_cons, List.nodup_cons] at h
    unfold ar at ih ⊢
    rw [List.find?_cons]
    rcases List.mem_cons.mp hq with rfl | hm
    · rw [decide_eq_true rfl]; rfl
    · have ne : p.1 ≠ q.1 := fun e => h.1 (by rw [e]; exact List.mem_map_of_mem hm)
      rw [decide_eq_false ne]
      exact ih h.2 hm
abbrev Hd := Str × List Str
def hdD (k : Hd) : D := .tup [.str k.1, .tup (k.2.map D.str)]
def tabs (l : List Hd) : List (Str × Nat) := l.map fun k => (k.1, k.2.length)
def HdOk (k : Hd) : Prop := Nm k.1 ∧ k.2.length ≤ 4 ∧ k.2.Nodup ∧ ∀ z ∈ k.2, Nm z
theorem names_all {zs : List Str} (h : ∀ z ∈ zs, Nm z) : areNames (.tup (zs.map D.str)) = true := by
  show (zs.map D.str).all isName = true
  rw [List.all_map, List.all_eq_true]
  exact fun z hz => (h z hz).1
section
variable {s : Sz} {m : Int} {x y z f : Str} {to : Int}
theorem cnt {t : Int} (h0 : 0 ≤ t) (h1 : t ≤ m) : isCnt m (.int t) = true := by rw [cnt_i, decide_eq_true h0, decide_eq_true h1]; rfl
theorem two_items {a b : D} (ha : Tp 1 40 a) (hb : Tp 1 40 b) : ∀ d ∈ [a, b], Tp 1 40 d := fun d hd => by
  simp only [List.mem_cons, List.not_mem_nil, or_false] at hd
  rcases hd with rfl | rfl <;> assumption
theorem three_items {a b c : D} (ha : Tp 1 40 a) (hb : Tp 1 40 b) (hc : Tp 1 40 c) : ∀ d ∈ [a, b, c], Tp 1 40 d := fun d hd => by
  simp only [List.mem_cons, List.not_mem_nil, or_false] at hd
  rcases hd with rfl | rfl | rfl <;> assumption
theorem one_item {a : D} (ha : Tp 1 40 a) : ∀ d ∈ [a], Tp 1 40 d := fun d hd => by rw [List.mem_singleton.mp hd]; exact ha
theorem tnm (h : Nm x) : Tp 1 40 (.str x) := .nm h (by decide)
theorem g_copy (hx : Nm x) (hy : Nm y) : RowG s m (.tup [.str "copy", .str x, .str y]) :=
  rowG (by rw [r2 (v := "xy") (g := "x") (k := "y") (by decide +kernel) (by decide +kernel)]; dsimp only; rw [px, py]; show (nmS x && nmS y) = true; rw [hx.1, hy.1]; rfl) (by decide +kernel) (by simp) (two_items (tnm hx) (tnm hy))
theorem g_one {w v g : Str} (h1 : lookS SH w = some v) (h2 : sgs v = [g]) (h3 : ∀ d, part s m g d = isName d) (hw : PyData.strOk w = true ∧ w.length ≤ 8) (hx : Nm x) : RowG s m (.tup [.str w, .str x]) :=
  rowG (by rw [r1 h1 h2]; dsimp only; rw [h3]; exact hx.1) hw (by simp) (one_item (tnm hx))
theorem g_num {i : Int} (hx : Nm x) (h0 : 0 ≤ i) (h1 : i ≤ 1000002) : RowG s m (.tup [.str "number", .str x, .int i]) :=
  rowG (by rw [r2 (v := "xn") (g := "x") (k := "n") (by decide +kernel) (by decide +kernel)]; dsimp only; rw [px, part_num, cnt h0 h1]; show (nmS x && true) = true; rw [hx.1]; rfl) (by decide +kernel) (by simp) (two_items (tnm hx) (.int (by omega) (by decide)))
theorem g_three {w v g k q : Str} {c : D} (h1 : lookS SH w = some v) (h2 : sgs v = [g, k, q]) (hq : q ≠ "Y") (h3 : part s m g (.str x) = true) (h4 : part s m k (.str y) = true) (h5 : part s m q c = true) (hw : PyData.strOk w = true ∧ w.length ≤ 8) (hx : Nm x) (hy : Nm y) (hc : Tp 1 40 c) : RowG s m (.tup [.str w, .str x, .str y, c]) :=
  rowG (by rw [r3 h1 h2 hq]; dsimp only; rw [h3, h4, h5]; rfl) hw (by simp) (three_items (tnm hx) (tnm hy) hc)
theorem g_sum {w : Str} (hw : w = "plus" ∨ w = "minus" ∨ w = "times") (hx : Nm x) (hy : Nm y) (hz : Nm z) : RowG s m (.tup [.str w, .str x, .str y, .str z]) := by
  have h : ∀ w ∈ (["plus", "minus", "times"] : List Str), lookS SH w = some "xyy" ∧ PyData.strOk w = true ∧ w.length ≤ 8 := by decide +kernel
  obtain ⟨h1, h2⟩ := h w (by simpa using hw)
  exact g_three (v := "xyy") (g := "x") (k := "y") (q := "y") h1 (by decide +kernel) (ofS (by decide)) (by rw [px]; exact hx.1) (by rw [py]; exact hy.1) (by rw [py]; exact hz.1) h2 hx hy (tnm hz)
theorem g_read (hx : Nm x) (hy : Nm y) (hz : Nm z) : RowG s m (.tup [.str "read", .str x, .str y, .str z]) :=
  g_three (v := "xyf") (g := "x") (k := "y") (q := "f") (by decide +kernel) (by decide +kernel) (ofS (by decide)) (by rw [px]; exact hx.1) (by rw [py]; exact hy.1) (by rw [pf]; exact hz.1) (by decide +kernel) hx hy (tnm hz)
theorem g_input (hx : Nm x) : RowG s m (.tup [.str "input", .str x]) :=
  rowG (by rw [r1 (v := "o") (g := "o") (by decide +kernel) (by decide +kernel)]; dsimp only; rw [part_o]; show (decide (D.str x = .non) || nmS x) = true; rw [hx.1]; simp) (by decide +kernel) (by simp) (one_item (tnm hx))
theorem g_input0 : RowG s m (.tup [.str "input", .non]) :=
  rowG (by rw [r1 (v := "o") (g := "o") (by decide +kernel) (by decide +kernel)]; dsimp only; rw [part_o, decide_eq_true rfl]; rfl) (by decide +kernel) (by simp) (one_item .non)
theorem g_jump {t : Int} (h0 : 0 ≤ t) (h1 : t ≤ m) (h2 : t ≤ 200) : RowG s m (.tup [.str "jump", .int t]) :=
  rowG (by rw [r1 (v := "r") (g := "r") (by decide +kernel) (by decide +kernel)]; dsimp only; rw [part_r, cnt h0 h1]) (by decide +kernel) (by simp) (one_item (.int (by omega) (by decide)))
theorem g_test {w : Str} {t : Int} (hw : w = "less" ∨ w = "same") (hx : Nm x) (hy : Nm y) (h0 : 0 ≤ t) (h1 : t ≤ m) (h2 : t ≤ 200) : RowG s m (.tup [.str w, .str x, .str y, .int t]) := by
  have h : ∀ w ∈ (["less", "same"] : List Str), lookS SH w = some "yyr" ∧ PyData.strOk w = true ∧ w.length ≤ 8 := by decide +kernel
  obtain ⟨k1, k2⟩ := h w (by simpa using hw)
  exact g_three (v := "yyr") (g := "y") (k := "y") (q := "r") k1 (by decide +kernel) (ofS (by decide)) (by rw [py]; exact hx.1) (by rw [py]; exact hy.1) (by rw [part_r, cnt h0 h1]) k2 hx hy (.int (by omega) (by decide))
theorem g_is {t : Int} (hx : Nm x) (hy : Nm y) (hk : y ∈ barred ∨ has s.kn y = true) (h0 : 0 ≤ t) (h1 : t ≤ m) (h2 : t ≤ 200) : RowG s m (.tup [.str "is", .str x, .str y, .int t]) :=
  g_three (v := "ywr") (g := "y") (k := "w") (q := "r") (by decide +kernel) (by decide +kernel) (ofS (by decide)) (by rw [py]; exact hx.1) (by
    rw [part_w]
    show (nmS y && (decide (y ∈ barred) || has s.kn y)) = true
    rw [hy.1, Bool.true_and]
    rcases hk with h | h
    · rw [decide_eq_true h]; rfl
    · rw [h, Bool.or_true]) (by rw [part_r, cnt h0 h1]) (by decide +kernel) hx hy (.int (by omega) (by decide))
theorem fits_ok {l : List (Str × Nat)} {n : Str} {zs : List Str} {a b : D} (hn : Nm n) (hz : ∀ z ∈ zs, Nm z) (h : ar l n = some zs.length) : lawFits l [a, b, .str n, .tup (zs.map D.str)] = true := by
  have e : lawFits l [a, b, .str n, .tup (zs.map D.str)] = (nmS n && areNames (.tup (zs.map D.str)) && decide (ar l n = some (zs.map D.str).length)) := rfl
  rw [e, hn.1, names_all hz, List.length_map, decide_eq_true h]
  rfl
theorem g_make {n : Str} {zs : List Str} (hx : Nm x) (hn : Nm n) (hz : ∀ z ∈ zs, Nm z) (hl : zs.length ≤ 4) (h : ar s.kn n = some zs.length) : RowG s m (.tup [.str "make", .str x, .str n, .tup (zs.map D.str)]) :=
  rowG (by
    rw [rY (v := "xkY") (g := "x") (k := "k") (by decide +kernel) (by decide +kernel) (l := s.kn) (by unfold tabOf; rw [if_pos rfl]) fun d => part_k]
    dsimp only
    rw [px, fits_ok hn hz h, Bool.and_true]
    exact hx.1) (by decide +kernel) (by simp) (three_items (tnm hx) (tnm hn) ((Tp.ys hz hl).mono (Nat.le_refl _) (by decide)))
theorem g_call {n : Str} {zs : List Str} {d : D} (hd : d = .non ∨ ∃ x, d = .str x ∧ Nm x) (hn : Nm n) (hz : ∀ z ∈ zs, Nm z) (hl : zs.length ≤ 4) (h : ar s.pr n = some zs.length) : RowG s m (.tup [.str "call", d, .str n, .tup (zs.map D.str)]) := by
  have nP : ¬ ((Str.ofString "p") = Str.ofString "k") := ofS (by decide)
  have nP2 : ¬ ((Str.ofString "p") = Str.ofString "t") := ofS (by decide)
  refine rowG ?_ (by decide +kernel) (by simp) (three_items ?_ (tnm hn) ((Tp.ys hz hl).mono (Nat.le_refl _) (by decide)))
  · rw [rY (v := "opY") (g := "o") (k := "p") (by decide +kernel) (by decide +kernel) (l := s.pr) (by unfold tabOf; rw [if_neg nP, if_neg nP2, if_pos rfl]) fun d => part_p]
    dsimp only
    rw [part_o, fits_ok hn hz h, Bool.and_true]
    rcases hd with rfl | ⟨x, rfl, hx⟩
    · rw [decide_eq_true rfl]; rfl
    · show (decide (D.str x = .non) || nmS x) = true
      rw [hx.1, Bool.or_true]
  · rcases hd with rfl | ⟨x, rfl, hx⟩
    · exact .non
    · exact tnm hx
end
end K05


namespace K05
open PySem L2 PyProof.Rows DL
section
variable {p a : Addr} {vs : List Str}
theorem pick_nm {n : Nat} {S : Sto} {Q : KD} (v0 : 0 < vs.length) (v30 : vs.length ≤ 30) (hv : ∀ z ∈ vs, Nm z) (sp : Spr S p a (n + 1)) (q : ∀ z S', Nm z → Spr S' p a n → Off p a S S' → Q (.str z) S') : sp__law_one_of [.ref p, .fl (vs.map D.str)] S Q X0 :=
  ⟨p, a, n, _, rfl, sp, .inl ⟨_, rfl, by rw [List.length_map]; exact v0, by rw [List.length_map]; omega, fun x S' hx s o => by
    obtain ⟨z, hz, rfl⟩ := List.mem_map.mp hx
    exact q z S' (hv z hz) s o⟩⟩
theorem rng_nm {n c : Nat} {S : Sto} {Nx : List D → Sto → Prop} (hc : c ≤ 20) (v0 : 0 < vs.length) (v30 : vs.length ≤ 30) (hv : ∀ z ∈ vs, Nm z) (sp : Spr S p a (n + c)) (nxt : ∀ (zs : List Str) S', zs.length = c → (∀ z ∈ zs, Nm z) → Spr S' p a n → Off p a S S' → Nx (zs.map D.str) S') :
    ∃ (W : Nat → List D → Sto → Prop) (n1 : Nat), W 0 [] S ∧ ∀ i acc S2, W i acc S2 → ∃ r, rangeI 0 c i S2 = some r ∧ (r = none → Nx acc S2) ∧ ∀ x, r = some x → i < n1 ∧ acc.length < 16777216 ∧ sp__law_one_of [.ref p, .fl (vs.map D.str)] S2 (fun y S5 => W (i + 1) (acc ++ [y]) S5) X0 := by
  refine lc_rng (fun i acc S' => ∃ zs : List Str, acc = zs.map D.str ∧ zs.length = i ∧ i ≤ c ∧ (∀ x ∈ zs, Nm x) ∧ Spr S' p a (n + c - i) ∧ Off p a S S') ⟨[], rfl, rfl, Nat.zero_le _, fun x hx => (by cases hx), sp, .refl⟩ ?_ ?_
  · rintro i acc S' hi ⟨zs, rfl, rfl, hl, hz, sp', of'⟩
    refine ⟨by rw [List.length_map, sizeLine_eq]; omega, pick_nm (n := n + c - (zs.length + 1)) v0 v30 hv (sp'.mono (by omega)) fun x S'' hx s2 o2 => ⟨zs ++ [x], by rw [List.map_append]; rfl, by rw [List.length_append]; rfl, by omega, fun y hy => ?_, s2, of'.trans o2⟩⟩
    rcases List.mem_append.mp hy with h | h
    · exact hz y h
    · rw [List.mem_singleton.mp h]; exact hx
  · rintro i acc S' hi ⟨zs, rfl, rfl, hl, hz, sp', of'⟩
    exact nxt zs S' (by omega) hz (sp'.mono (by omega)) of'
theorem seq_nm {n c : Nat} {ds : List D} {S : Sto} {Nx : List D → Sto → Prop} (hd : ds.length = c) (hc : c ≤ 20) (v0 : 0 < vs.length) (v30 : vs.length ≤ 30) (hv : ∀ z ∈ vs, Nm z) (sp : Spr S p a (n + c)) (nxt : ∀ (zs : List Str) S', zs.length = c → (∀ z ∈ zs, Nm z) → Spr S' p a n → Off p a S S' → Nx (zs.map D.str) S') :
    ∃ (W : Nat → List D → Sto → Prop) (n1 : Nat), W 0 [] S ∧ ∀ i acc S2, W i acc S2 → ∃ r, seqI ds i S2 = some r ∧ (r = none → Nx acc S2) ∧ ∀ x, r = some x → i < n1 ∧ acc.length < 16777216 ∧ sp__law_one_of [.ref p, .fl (vs.map D.str)] S2 (fun y S5 => W (i + 1) (acc ++ [y]) S5) X0 := by
  refine lc_seq (fun i acc S' => ∃ zs : List Str, acc = zs.map D.str ∧ zs.length = i ∧ i ≤ c ∧ (∀ x ∈ zs, Nm x) ∧ Spr S' p a (n + c - i) ∧ Off p a S S') ⟨[], rfl, rfl, Nat.zero_le _, fun x hx => (by cases hx), sp, .refl⟩ ?_ ?_
  · rintro i x0 acc S' hx0 ⟨zs, rfl, rfl, hl, hz, sp', of'⟩
    have hi := (List.getElem?_eq_some_iff.mp hx0).1
    refine ⟨by rw [List.length_map, sizeLine_eq]; omega, pick_nm (n := n + c - (zs.length + 1)) v0 v30 hv (sp'.mono (by omega)) fun x S'' hx s2 o2 => ⟨zs ++ [x], by rw [List.map_append]; rfl, by rw [List.length_append]; rfl, by omega, fun y hy => ?_, s2, of'.trans o2⟩⟩
    rcases List.mem_append.mp hy with h | h
    · exact hz y h
    · rw [List.mem_singleton.mp h]; exact hx
  · rintro i acc S' hi ⟨zs, rfl, rfl, hl, hz, sp', of'⟩
    exact nxt zs S' (by omega) hz (sp'.mono (by omega)) of'
end
theorem ix15 {G : D → Prop} {xs : List D} {i : Int} {S : Sto} {Q : KD} (h : ∀ d ∈ xs, G d) (hl : xs.length = 15) (i0 : 0 ≤ i) (i1 : i < 15) (q : ∀ d, G d → Q d S) : ixD (.fl xs) (.int i) S Q := by
  obtain ⟨j, rfl⟩ : ∃ j : Nat, i = j := ⟨i.toNat, by omega⟩
  have hj : j < xs.length := by omega
  exact ix_sq rfl rfl (at_n (List.getElem?_eq_getElem hj)) (q _ (h _ (List.getElem_mem hj)))
theorem mem15 {s : Sz} {m : Int} {x y z f w : Str} {c to : Int} {last : D} (hla : RowG s m last) (hx : Nm x) (hy : Nm y) (hz : Nm z) (hf : Nm f) (hw : Nm w) (hwb : w ∈ barred) (c0 : 0 ≤ c) (c1 : c ≤ 1000002) (t0 : 0 ≤ to) (t1 : to ≤ m) (t2 : to ≤ 200) :
    ∀ d ∈ (([.tup [.str "copy", .str x, .str y], .tup [.str "none", .str x], .tup [.str "number", .str x, .int c], .tup [.str "plus", .str x, .str y, .str z]] ++ [.tup [.str "minus", .str x, .str y, .str z], .tup [.str "times", .str x, .str y, .str z], .tup [.str "read", .str x, .str y, .str f]]) ++
      [.tup [.str "input", .str x], .tup [.str "input", .non], .tup [.str "tell", .str y], last, .tup [.str "jump", .int to], .tup [.str "less", .str y, .str z, .int to]]) ++ [.tup [.str "same", .str y, .str z, .int to], .tup [.str "is", .str y, .str w, .int to]], RowG s m d := by
  intro d hd
  simp only [List.cons_append, List.nil_append, List.mem_cons, List.not_mem_nil, or_false] at hd
  rcases hd with rfl | rfl | rfl | rfl | rfl | rfl | rfl | rfl | rfl | rfl | rfl | rfl | rfl | rfl | rfl
  · exact g_copy hx hy
  · exact g_one (v := "x") (g := "x") (by decide +kernel) (by decide +kernel) (fun d => px) (by decide +kernel) hx
  · exact g_num hx c0 c1
  · exact g_sum (.inl rfl) hx hy hz
  · exact g_sum (.inr (.inl rfl)) hx hy hz
  · exact g_sum (.inr (.inr rfl)) hx hy hz
  · exact g_read hx hy hf
  · exact g_input hx
  · exact g_input0
  · exact g_one (v := "y") (g := "y") (by decide +kernel) (by decide +kernel) (fun d => py) (by decide +kernel) hy
  · exact hla
  · exact g_jump t0 t1 t2
  · exact g_test (.inl rfl) hy hz t0 t1 t2
  · exact g_test (.inr rfl) hy hz t0 t1 t2
  · exact g_is hy hw (.inl hwb) t0 t1 t2
theorem g_use {s : Sz} {m : Int} {x n : Str} {zs : List Str} (hx : Nm x) (hn : Nm n) (hz : ∀ z ∈ zs, Nm z) (hl : zs.length ≤ 4) (h : ar s.tm n = some zs.length) : RowG s m (.tup [.str "use", .str x, .str n, .tup (zs.map D.str)]) := by
  have nK : ¬ ((Str.ofString "t") = Str.ofString "k") := ofS (by decide)
  exact rowG (by
    rw [rY (v := "xtY") (g := "x") (k := "t") (by decide +kernel) (by decide +kernel) (l := s.tm) (by unfold tabOf; rw [if_neg nK, if_pos rfl]) fun d => part_t]
    dsimp only
    rw [px, fits_ok hn hz h, Bool.and_true]
    exact hx.1) (by decide +kernel) (by simp) (three_items (tnm hx) (tnm hn) ((Tp.ys hz hl).mono (Nat.le_refl _) (by decide)))
theorem ret_ne {w : Str} {rest : List D} (h : w ≠ "return") : isRet (.tup (.str w :: rest)) = false := decide_eq_false h
theorem words15 {x y z f w : Str} {c to : Int} {last : D} (hl : last = .tup [.str "none", .str "a"] ∨ last = .tup [.str "return", .str "a"]) :
    ∀ d ∈ (([.tup [.str "copy", .str x, .str y], .tup [.str "none", .str x], .tup [.str "number", .str x, .int c], .tup [.str "plus", .str x, .str y, .str z]] ++ [.tup [.str "minus", .str x, .str y, .str z], .tup [.str "times", .str x, .str y, .str z], .tup [.str "read", .str x, .str y, .str f]]) ++
      [.tup [.str "input", .str x], .tup [.str "input", .non], .tup [.str "tell", .str y], last, .tup [.str "jump", .int to], .tup [.str "less", .str y, .str z, .int to]]) ++ [.tup [.str "same", .str y, .str z, .int to], .tup [.str "is", .str y, .str w, .int to]], ∃ (wd : Str) (rest : List D), d = .tup (.str wd :: rest) ∧ wd ≠ "use" ∧ (d = last ∨ wd ≠ "return") := by
  intro d hd
  simp only [List.cons_append, List.nil_append, List.mem_cons, List.not_mem_nil, or_false] at hd
  rcases hd with rfl | rfl | rfl | rfl | rfl | rfl | rfl | rfl | rfl | rfl | rfl | rfl | rfl | rfl | rfl
  all_goals first
    | exact ⟨_, _, rfl, ofS (by decide), .inr (ofS (by decide))⟩
    | (rcases hl with rfl | rfl <;> exact ⟨_, _, rfl, ofS (by decide), .inl rfl⟩)
def Fits (l : List Hd) (t : List (Str × Nat)) : Prop := ∀ q ∈ l, ar t q.1 = some q.2.length
/-- a row that is right whatever else there is -/
def RowA (K P T : List Hd) (m : Int) (d : D) : Prop := (∀ s : Sz, Fits K s.kn → Fits P s.pr → Fits T s.tm → RowG s m d) ∧ ∀ t, useOf d = some t → t ∈ T.map (·.1)
theorem RowA.sub {K P T T' : List Hd} {m : Int} {d : D} (h : RowA K P T m d) (hs : ∀ q ∈ T, q ∈ T') : RowA K P T' m d :=
  ⟨fun s h1 h2 h3 => h.1 s h1 h2 fun q hq => h3 q (hs q hq), fun t ht => by
    obtain ⟨q, hq, e⟩ := List.mem_map.mp (h.2 t ht)
    exact List.mem_map.mpr ⟨q, hs q hq, e⟩⟩
theorem RowA.tp {K P T : List Hd} {m : Int} {d : D} (h : RowA K P T m d) (hk : (K.map (·.1)).Nodup) (hp : (P.map (·.1)).Nodup) (ht : (T.map (·.1)).Nodup) : Tp 2 164 d := by
  have f : ∀ {l : List Hd}, (l.map (·.1)).Nodup → Fits l (tabs l) := fun {l} h q hq =>
    ar_mem (l := tabs l) (by unfold tabs; rw [List.map_map]; exact h) (q := (q.1, q.2.length)) (List.mem_map.mpr ⟨q, hq, rfl⟩)
  exact (h.1 ⟨tabs K, tabs T, tabs P⟩ (f hk) (f hp) (f ht)).2
def knD (K P T : List Hd) : D := .fl [.fl (K.map hdD), .fl (P.map hdD), .fl (T.map hdD)]
/-- the last sort of row: a return, or none -/
def LastOk (last : D) : Prop := last = .tup [.str "none", .str "a"] ∨ last = .tup [.str "return", .str "a"]
theorem last_g {s : Sz} {m : Int} {last : D} (h : LastOk last) : RowG s m last := by
  have na : Nm "a" := by unfold Nm; decide +kernel
  rcases h with rfl | rfl
  · exact g_one (v := "x") (g := "x") (by decide +kernel) (by decide +kernel) (fun d => px) (by decide +kernel) na
  · exact g_one (v := "y") (g := "y") (by decide +kernel) (by decide +kernel) (fun d => py) (by decide +kernel) na
def sp__law_row : SpD := fun ds S Q _ => ∃ (p a : Addr) (n : Nat) (K P T : List Hd) (vs : List Str) (m : Nat) (last : D), ds = [.ref p, knD K P T, .fl (vs.map D.str), .int (m : Nat), last] ∧ K.length ≤ 10 ∧ P.length ≤ 10 ∧ T.length ≤ 10 ∧ 0 < vs.length ∧ vs.length ≤ 30 ∧ m ≤ 20 ∧ (∀ k ∈ K, HdOk k) ∧ (∀ k ∈ P, HdOk k) ∧ (∀ k ∈ T, HdOk k) ∧ (∀ z ∈ vs, Nm z) ∧ LastOk last ∧
  Spr S p a (n + 20) ∧ ∀ d S', RowA K P T m d → (last = .tup [.str "none", .str "a"] → isRet d = false) → Spr S' p a n → Off p a S S' → Q d S'
theorem ok__law_row {P : Program} {w : World} {K : PySem.W.Frag} {mg : Str → Option Value} {base : Heap} (T : Txt K w mg) (C__law_one_of : Cal P w K mg base 2 "_law_one_of" s__law_one_of ["spring", "items"] sp__law_one_of) (C__law_draw : Cal P w K mg base 1 "_law_draw" s__law_draw ["spring", "many"] sp__law_draw) {ff : Addr} {fd : FuncData} (F : Fun K "_law_row" "_law_row" s__law_row ff fd) (mf : mg "_law_row" = some (.ref ff)) : Cal P w K mg base 3 "_law_row" s__law_row ["spring", "known", "variables", "many", "last"] sp__law_row := by
  refine ⟨ff, fd, okD F sc__law_row (fun ds S Q E h => ?len) (fun cdv A outer s H E ds S Q E' hcd hr h => ⟨_, (dss_cons (ds_asg (de_lc [("k", 8)] rfl sc__law_row.nd (di_range1 (by rfl) T.nb_range (da_cons de_int da_nil)) (blkOk_by (N := ["spring", "known", "variables", "many", "last", "x", "y", "z", "k", "to", "way", "some", "name", "taken", "ys", "one"]) (sc := defScope s__law_row) (by decide +kernel)) (fun _ _ _ _ _ => (pg_name (i := 8) sc__law_row.nd rfl (Or.inl rfl) (Or.inr rfl))) (fun N => (tg_name (vs := [8]) (i := 8) (by decide))) (fun _ _ _ _ _ => dts_nil) (fun _ _ _ _ _ => (de_c C__law_one_of hr (da_cons (de_var 0) (da_cons (de_var 2) da_nil))))) (dg_lst (n := 3) rfl (dgs_cons (dg_name 5 sc__law_row.nd) (dgs_cons (dg_name 6 sc__law_row.nd) (dgs_cons (dg_name 7 sc__law_row.nd) dgs_nil)))))
      (dss_cons (ds_par 9 10 rfl sc__law_row.nd (da_cons (de_c C__law_draw hr (da_cons (de_var 0) (da_cons (de_op (od_add false) (de_var 3) de_int) da_nil))) (da_cons (de_c C__law_draw hr (da_cons (de_var 0) (da_cons de_int da_nil))) da_nil)))
      (dss_cons (ds_set 11 sc__law_row.nd (de_lf (da_cons (de_tup (da_cons de_str (da_cons (de_var 5) (da_cons (de_var 6) da_nil)))) (da_cons (de_tup (da_cons de_str (da_cons (de_var 5) da_nil))) (da_cons (de_tup (da_cons de_str (da_cons (de_var 5) (da_cons (de_c C__law_one_of hr (da_cons (de_var 0) (da_cons (de_lf (da_cons de_int (da_cons de_int (da_cons de_int (da_cons de_int da_nil))))) da_nil))) da_nil)))) (da_cons (de_tup (da_cons de_str (da_cons (de_var 5) (da_cons (de_var 6) (da_cons (de_var 7) da_nil))))) da_nil))))))
      (dss_cons (ds_set 11 sc__law_row.nd (de_op (od_add false) (de_var 11) (de_lf (da_cons (de_tup (da_cons de_str (da_cons (de_var 5) (da_cons (de_var 6) (da_cons (de_var 7) da_nil))))) (da_cons (de_tup (da_cons de_str (da_cons (de_var 5) (da_cons (de_var 6) (da_cons (de_var 7) da_nil))))) (da_cons (de_tup (da_cons de_str (da_cons (de_var 5) (da_cons (de_var 6) (da_cons (de_c C__law_one_of hr (da_cons (de_var 0) (da_cons (de_lf (da_cons de_str (da_cons de_str (da_cons de_str da_nil)))) da_nil))) da_nil))))) da_nil))))))
      (dss_cons (ds_set 11 sc__law_row.nd (de_op (od_add false) (de_var 11) (de_lf (da_cons (de_tup (da_cons de_str (da_cons (de_var 5) da_nil))) (da_cons (de_tup (da_cons de_str (da_cons de_non da_nil))) (da_cons (de_tup (da_cons de_str (da_cons (de_var 6) da_nil))) (da_cons (de_var 4) (da_cons (de_tup (da_cons de_str (da_cons (de_var 9) da_nil))) (da_cons (de_tup (da_cons de_str (da_cons (de_var 6) (da_cons (de_var 7) (da_cons (de_var 9) da_nil))))) da_nil)))))))))
      (dss_cons (ds_set 11 sc__law_row.nd (de_op (od_add false) (de_var 11) (de_lf (da_cons (de_tup (da_cons de_str (da_cons (de_var 6) (da_cons (de_var 7) (da_cons (de_var 9) da_nil))))) (da_cons (de_tup (da_cons de_str (da_cons (de_var 6) (da_cons (de_c C__law_one_of hr (da_cons (de_var 0) (da_cons (de_lf (da_cons de_str (da_cons de_str da_nil))) da_nil))) (da_cons (de_var 9) da_nil))))) da_nil)))))
      (dss_cons (ds_if (dt_cmp od_lt (de_var 10) de_int) (dss_one (ds_ret (de_ix (xd_ix hr) (de_var 11) (de_var 10)))) dss_nil)
      (dss_cons (ds_if (dt_cmp (od_eq0 hr) (de_ix (xd_ix hr) (de_var 1) (de_op od_sub (de_var 10) de_int)) (de_lf da_nil)) (dss_one (ds_ret (de_ix (xd_ix hr) (de_var 11) (de_op od_sub (de_var 10) de_int)))) dss_nil)
      (dss_cons (ds_asg (de_c C__law_one_of hr (da_cons (de_var 0) (da_cons (de_ix (xd_ix hr) (de_var 1) (de_op od_sub (de_var 10) de_int)) da_nil))) (dg_tup (n := 2) rfl (dgs_cons (dg_name 12 sc__law_row.nd) (dgs_cons (dg_name 13 sc__law_row.nd) dgs_nil))))
      (dss_cons (ds_set 14 sc__law_row.nd (de_callTy cd_tuple (by rfl) T.nb_tuple (da_cons (de_lc [("one", 15)] rfl sc__law_row.nd (di_tup (de_var 13)) (blkOk_by (N := ["spring", "known", "variables", "many", "last", "x", "y", "z", "k", "to", "way", "some", "name", "taken", "ys", "one"]) (sc := defScope s__law_row) (by decide +kernel)) (fun _ _ _ _ _ => (pg_name (i := 15) sc__law_row.nd rfl (Or.inl rfl) (Or.inr rfl))) (fun N => (tg_name (vs := [15]) (i := 15) (by decide))) (fun _ _ _ _ _ => dts_nil) (fun _ _ _ _ _ => (de_c C__law_one_of hr (da_cons (de_var 0) (da_cons (de_var 2) da_nil))))) da_nil)))
      (dss_cons (ds_set 11 sc__law_row.nd (de_lf (da_cons (de_tup (da_cons de_str (da_cons (de_var 5) (da_cons (de_var 12) (da_cons (de_var 14) da_nil))))) (da_cons (de_tup (da_cons de_str (da_cons (de_c C__law_one_of hr (da_cons (de_var 0) (da_cons (de_lf (da_cons (de_var 5) (da_cons de_non da_nil))) da_nil))) (da_cons (de_var 12) (da_cons (de_var 14) da_nil))))) (da_cons (de_tup (da_cons de_str (da_cons (de_var 5) (da_cons (de_var 12) (da_cons (de_var 14) da_nil))))) da_nil)))))
      (dss_one (ds_ret (de_ix (xd_ix hr) (de_var 11) (de_op od_sub (de_var 10) de_int))))))))))))))), ?run⟩), F.binds (ps := ["spring", "known", "variables", "many", "last"]) fun _ _ _ _ _ _ us hl => match us, hl with | [_, _, _, _, _], _ => rfl, mf, F⟩
  case len => obtain ⟨p, a, n, K, P, T, vs, m, last, rfl, _⟩ := h; rfl
  case run =>
    obtain ⟨p, a, n, K, P, T, vs, m, last, rfl, k10, p10, t10, v0, v30, m20, kok, pok, tok, vok, lok, sp, q⟩ := h
    simp only [dVar, dC, dOp, dUn, dChain, dTr, dB, dAnd, dOr, dNot, dIf, dAndV, dOrV, dNotV, dNil, dCons, dTup, dLst, dLf, dNext, dSeq, dBreak, dCont, dDrop, dRet, dRetN, dIfS, gdName, gdNil, gdCons, gdTup, gdSub, dAsg, dPar, dCall, dCallK, dCB, dM0, dM, dGet1, dGet2, dDk, dDt, dPart, dNoPart, dSlice, dAug, dYes, dSort2, revD, iTupD, iLstD, iLf, iLw, iRange1, iRange2, iRange3, iEnumD, iZipD, iZipMD, iStrD, dGix, dDc, dIsi, dSortSet, dLenSet, dDlit, gdLst, dFor, dWhile, dLc, dLcM, dFld, dFldSet, dFldAdd, dMeth, dMake, dPar3, dDisp, dPrs, dFsi, dGget, dKgt, dKgtL, dCut, dTcut, wipeD, bodyE, startD, List.map_cons, List.map_nil, List.length_cons, List.length_nil, List.replicate_succ, List.replicate_zero, List.cons_append, List.nil_append, Nat.reduceAdd, Nat.reduceSub, Nat.zero_add, List.getElem?_cons_zero, List.getElem?_cons_succ, List.set_cons_zero, List.set_cons_succ, Option.some.injEq, exists_eq_left', exists_eq_left, if_true, sizeLine_eq, Nat.reduceLeDiff, Nat.reduceLT, Nat.zero_le, true_and, and_true, Bool.false_eq_true, if_false]
    refine ⟨3, rfl, by decide, by decide, rng_nm (n := n + 17) (c := 3) (by decide) v0 v30 vok sp fun zs S1 hz3 hzs sp1 of1 => ?_⟩
    obtain ⟨x, y, z, rfl⟩ : ∃ x y z, zs = [x, y, z] := by
      match zs, hz3 with
      | [x, y, z], _ => exact ⟨x, y, z, rfl⟩
    have hx := hzs x (by simp)
    have hy := hzs y (by simp)
    have hz := hzs z (by simp)
    refine ⟨_, rfl, rfl, _, _, rfl, _, _, rfl, _, _, rfl, rfl, add_i ⟨p, a, n + 16, _, rfl, by omega, by omega, sp1, fun to S2 t0 t1 sp2 of2 => ?_⟩⟩
    refine ⟨p, a, n + 15, 18, rfl, by decide, by decide, sp2, fun way S3 w0 w1 sp3 of3 => ⟨_, _, rfl, ?_⟩⟩
    refine ⟨p, a, n + 14, _, rfl, sp3, .inl ⟨_, rfl, by simp, by simp, fun c S4 hc sp4 of4 => ?_⟩⟩
    obtain ⟨c, c0, c1, rfl⟩ : ∃ c0 : Int, 0 ≤ c0 ∧ c0 ≤ 1000002 ∧ c = .int c0 := by
      simp only [List.mem_cons, List.not_mem_nil, or_false] at hc
      rcases hc with rfl | rfl | rfl | rfl <;> exact ⟨_, by decide, by decide, rfl⟩
    refine ⟨p, a, n + 13, _, rfl, sp4, .inl ⟨_, rfl, by simp, by simp, fun f S5 hf sp5 of5 => ?_⟩⟩
    obtain ⟨f, hF, rfl⟩ : ∃ f0 : Str, Nm f0 ∧ f = .str f0 := by
      simp only [List.mem_cons, List.not_mem_nil, or_false] at hf
      rcases hf with rfl | rfl | rfl <;> exact ⟨_, by unfold Nm; decide +kernel, rfl⟩
    refine add_f rfl rfl (by rw [sizeLine_eq]; simp) (add_f rfl rfl (by rw [sizeLine_eq]; simp) ?_)
    refine ⟨p, a, n + 12, _, rfl, sp5, .inl ⟨_, rfl, by simp, by simp, fun w S6 hw sp6 of6 => ?_⟩⟩
    obtain ⟨w, hW, hwb, rfl⟩ : ∃ f0 : Str, Nm f0 ∧ f0 ∈ barred ∧ w = .str f0 := by
      simp only [List.mem_cons, List.not_mem_nil, or_false] at hw
      rcases hw with rfl | rfl <;> exact ⟨_, by unfold Nm; decide +kernel, by decide +kernel, rfl⟩
    refine add_f rfl rfl (by rw [sizeLine_eq]; simp) ?_
    have off : Off p a S S6 := ((((of1.trans of2).trans of3).trans of4).trans of5).trans of6
    have w15 := words15 (x := x) (y := y) (z := z) (f := f) (w := w) (c := c) (to := to) lok
    have all : ∀ d ∈ _, RowA K P T (m : Nat) d ∧ (last = .tup [.str "none", .str "a"] → isRet d = false) := fun d hd => by
      obtain ⟨wd, rest, ed, hu, hr⟩ := w15 d hd
      refine ⟨⟨fun s _ _ _ => mem15 (last_g lok) hx hy hz hF hW hwb c0 c1 t0 (by omega) (by omega) d hd, fun t ht => ?_⟩, fun hn => ?_⟩
      · rw [ed] at ht
        exact absurd ht (use_ne hu)
      · rcases hr with e | e
        · rw [e, hn]; decide +kernel
        · rw [ed]
          exact decide_eq_false e
    clear w15
    refine ⟨_, rfl, br2 (fun b => ?_) fun b => ?_⟩
    · have b := of_decide_eq_true b
      exact ix15 (G := fun d => RowA K P T (m : Nat) d ∧ (last = .tup [.str "none", .str "a"] → isRet d = false)) all rfl w0 b fun d hd => rt_of (q d S6 hd.1 hd.2 (sp6.mono (by omega)) off)
    have b := of_decide_eq_false b
    refine it_of trivial ?_
    have plain : ∀ xs : List D, xs.length = 15 → (∀ d ∈ xs, RowA K P T (m : Nat) d ∧ (last = .tup [.str "none", .str "a"] → isRet d = false)) → DL.intD (fun x x_8 => True) (fun i j => V.int (i - j)) (.int way) (.int 15) S6 fun y S2 => ixD (.fl xs) y S2 fun d S' => ∃ d1 S1, VW d S' d1 S1 ∧ Q d1 S1 := fun xs hl hxs => by
      refine it_of trivial ?_
      exact ix15 (G := fun d => RowA K P T (m : Nat) d ∧ (last = .tup [.str "none", .str "a"] → isRet d = false)) hxs hl (by omega) (by omega) fun d hd => rt_of (q d S6 hd.1 hd.2 (sp6.mono (by omega)) off)
    obtain ⟨l, hl, hwl⟩ : ∃ l : List Hd, atI [D.fl (K.map hdD), D.fl (P.map hdD), D.fl (T.map hdD)] (way - 15) = some (.fl (l.map hdD)) ∧ ((way = 15 ∧ l = K) ∨ (way = 16 ∧ l = P) ∨ (way = 17 ∧ l = T)) := by
      have : way = 15 ∨ way = 16 ∨ way = 17 := by omega
      rcases this with rfl | rfl | rfl
      · exact ⟨K, rfl, .inl ⟨rfl, rfl⟩⟩
      · exact ⟨P, rfl, .inr (.inl ⟨rfl, rfl⟩)⟩
      · exact ⟨T, rfl, .inr (.inr ⟨rfl, rfl⟩)⟩
    have hlok : l.length ≤ 10 ∧ (∀ k ∈ l, HdOk k) := by
      rcases hwl with ⟨_, rfl⟩ | ⟨_, rfl⟩ | ⟨_, rfl⟩
      · exact ⟨k10, kok⟩
      · exact ⟨p10, pok⟩
      · exact ⟨t10, tok⟩
    refine ix_sq rfl rfl hl (e0_f ⟨_, rfl, br2 (fun g => plain _ rfl all) fun g => ?_⟩)
    have hne : 0 < l.length := by
      cases l with
      | nil => cases g
      | cons a b => simp
    refine it_of trivial (ix_sq rfl rfl hl ⟨p, a, n + 11, _, rfl, sp6, .inl ⟨_, rfl, by rw [List.length_map]; exact hne, by rw [List.length_map]; omega, fun d S7 hd sp7 of7 => ?_⟩⟩)
    obtain ⟨k, hk, rfl⟩ := List.mem_map.mp hd
    obtain ⟨hk1, hk2, hk3, hk4⟩ := hlok.2 k hk
    refine ⟨_, rfl, rfl, _, _, rfl, _, _, rfl, rfl, _, .inl rfl, ?_⟩
    refine seq_nm (n := n + 7) (c := k.2.length) (by rw [List.length_map]) (by omega) v0 v30 vok (sp7.mono (by omega)) fun zs S8 hz8 hzs8 sp8 of8 => tpl_l rfl ?_
    have off8 := (off.trans of7).trans of8
    refine ⟨p, a, n + 6, _, rfl, sp8, .inl ⟨_, rfl, by simp, by simp, fun d S9 hd sp9 of9 => it_of trivial ?_⟩⟩
    have hd0 : d = .non ∨ ∃ x, d = .str x ∧ Nm x := by
      simp only [List.mem_cons, List.not_mem_nil, or_false] at hd
      rcases hd with rfl | rfl
      · exact .inr ⟨x, rfl, hx⟩
      · exact .inl rfl
    have off9 := off8.trans of9
    rcases hwl with ⟨rfl, rfl⟩ | ⟨rfl, rfl⟩ | ⟨rfl, rfl⟩
    · refine ix_sq rfl rfl (show atI _ _ = some (.tup [.str "make", .str x, .str k.1, .tup (zs.map D.str)]) from rfl) (rt_of (q _ S9 ⟨fun s h1 _ _ => g_make hx hk1 hzs8 (by omega) (by rw [h1 k hk, hz8]), fun t ht => absurd ht (use_ne (ofS (by decide)))⟩ (fun _ => ret_ne (ofS (by decide))) (sp9.mono (by omega)) off9))
    · refine ix_sq rfl rfl (show atI _ _ = some (.tup [.str "call", d, .str k.1, .tup (zs.map D.str)]) from rfl) (rt_of (q _ S9 ⟨fun s _ h1 _ => g_call hd0 hk1 hzs8 (by omega) (by rw [h1 k hk, hz8]), fun t ht => absurd ht (use_ne (ofS (by decide)))⟩ (fun _ => ret_ne (ofS (by decide))) (sp9.mono (by omega)) off9))
    · refine ix_sq rfl rfl (show atI _ _ = some (.tup [.str "use", .str x, .str k.1, .tup (zs.map D.str)]) from rfl) (rt_of (q _ S9 ⟨fun s _ _ h1 => g_use hx hk1 hzs8 (by omega) (by rw [h1 k hk, hz8]), fun t ht => ?_⟩ (fun _ => ret_ne (ofS (by decide))) (sp9.mono (by omega)) off9))
      have ht : (if ("use" : Str) = "use" then some k.1 else none) = some t := ht
      rw [if_pos rfl] at ht
      cases ht
      exact List.mem_map_of_mem hk
end K05

namespace K05
open PySem L2 PyProof.Rows DL
theorem Tp.pair {k w1 w2 : Nat} {a b : D} (ha : Tp k w1 a) (hb : Tp k w2 b) : Tp (k + 1) (w1 + w2 + 2) (.tup [a, b]) := by
  refine ⟨fun S => ?_, fun S => ?_, fun S => ?_⟩
  · unfold vok; exact ⟨by simp, voks_iff.mpr fun x hx => by
      simp only [List.mem_cons, List.not_mem_nil, or_false] at hx
      rcases hx with rfl | rfl
      · exact ha.v S
      · exact hb.v S⟩
  · unfold pyOf; rw [pyOfs_map]; simp only [PyData.depth, PyData.depthAll, List.map_cons, List.map_nil]; have := ha.k S; have := hb.k S; omega
  · unfold pyOf; rw [pyOfs_map]; simp only [PyData.weight, PyData.weightAll, List.map_cons, List.map_nil]; have := ha.w S; have := hb.w S; omega
theorem Tp.triple {k w1 w2 w3 : Nat} {a b c : D} (ha : Tp k w1 a) (hb : Tp k w2 b) (hc : Tp k w3 c) : Tp (k + 1) (w1 + w2 + w3 + 3) (.tup [a, b, c]) := by
  refine ⟨fun S => ?_, fun S => ?_, fun S => ?_⟩
  · unfold vok; exact ⟨by simp, voks_iff.mpr fun x hx => by
      simp only [List.mem_cons, List.not_mem_nil, or_false] at hx
      rcases hx with rfl | rfl | rfl
      · exact ha.v S
      · exact hb.v S
      · exact hc.v S⟩
  · unfold pyOf; rw [pyOfs_map]; simp only [PyData.depth, PyData.depthAll, List.map_cons, List.map_nil]; have := ha.k S; have := hb.k S; have := hc.k S; omega
  · unfold pyOf; rw [pyOfs_map]; simp only [PyData.weight, PyData.weightAll, List.map_cons, List.map_nil]; have := ha.w S; have := hb.w S; have := hc.w S; omega
theorem Tp.four {k w1 w2 w3 w4 : Nat} {a b c d : D} (ha : Tp k w1 a) (hb : Tp k w2 b) (hc : Tp k w3 c) (hd : Tp k w4 d) : Tp (k + 1) (w1 + w2 + w3 + w4 + 4) (.tup [a, b, c, d]) := by
  refine ⟨fun S => ?_, fun S => ?_, fun S => ?_⟩
  · unfold vok; exact ⟨by simp, voks_iff.mpr fun x hx => by
      simp only [List.mem_cons, List.not_mem_nil, or_false] at hx
      rcases hx with rfl | rfl | rfl | rfl
      · exact ha.v S
      · exact hb.v S
      · exact hc.v S
      · exact hd.v S⟩
  · unfold pyOf; rw [pyOfs_map]; simp only [PyData.depth, PyData.depthAll, List.map_cons, List.map_nil]; have := ha.k S; have := hb.k S; have := hc.k S; have := hd.k S; omega
  · unfold pyOf; rw [pyOfs_map]; simp only [PyData.weight, PyData.weightAll, List.map_cons, List.map_nil]; have := ha.w S; have := hb.w S; have := hc.w S; have := hd.w S; omega
abbrev Pd := Hd × List D
abbrev Td := Hd × List D × Str
def pcD (q : Pd) : D := .tup [.str q.1.1, .tup (q.1.2.map D.str), .tup q.2]
def tdD (q : Td) : D := .tup [.str q.1.1, .tup (q.1.2.map D.str), .tup q.2.1, .str q.2.2]
def srD (ks : List Hd) (ts : List Td) (ps : List Pd) : D := .tup [.tup (ks.map hdD), .tup (ts.map tdD), .tup (ps.map pcD)]
structure SrG (ks : List Hd) (ts : List Td) (ps : List Pd) : Prop where
  k3 : ks.length ≤ 3
  kok : ∀ k ∈ ks, HdOk k ∧ k.1 ∉ barred
  kn : (ks.map (·.1)).Nodup
  t6 : ts.length ≤ 6
  tok : ∀ q ∈ ts, HdOk q.1 ∧ Nm q.2.2 ∧ q.2.1.length ≤ 9 ∧ ∀ d ∈ q.2.1, RowA ks ((ps.map (·.1)).drop 1) (ts.map (·.1)) (q.2.1.length : Nat) d ∧ isRet d = false
  tn : (ts.map (·.1.1)).Nodup
  ord : ∃ f : Str → Nat, ∀ q ∈ ts, ∀ d ∈ q.2.1, ∀ b, useOf d = some b → f q.1.1 < f b
  p6 : ps.length ≤ 6
  pok : ∀ q ∈ ps, HdOk q.1 ∧ q.2.length ≤ 9 ∧ ∀ d ∈ q.2, RowA ks ((ps.map (·.1)).drop 1) (ts.map (·.1)) (q.2.length : Nat) d
  pn : (ps.map (·.1.1)).Nodup
  hd : (ps.map (·.1)).head? = some (("main" : Str), ([] : List Str))
theorem map_strOf (zs : List Str) : (zs.map D.str).map strOf = zs := by
  rw [List.map_map]
  have : (strOf ∘ D.str) = id := rfl
  rw [this, List.map_id]
theorem hd_names {k : Hd} (h : HdOk k) : areNames (.tup (k.2.map D.str)) = true ∧ dist (k.2.map D.str) = true := ⟨names_all h.2.2.2, by
  unfold dist
  rw [map_strOf]
  exact decide_eq_true h.2.2.1⟩
theorem hd_tp {k : Hd} (h : HdOk k) : Tp 2 46 (hdD k) := (Tp.pair (k := 1) (.nm h.1 (Nat.le_refl 8)) (Tp.ys h.2.2.2 h.2.1)).mono (Nat.le_refl _) (by decide)
theorem rows_tp {rs : List D} (h : ∀ d ∈ rs, Tp 2 164 d) (hl : rs.length ≤ 9) : Tp 3 1485 (.tup rs) := Tp.tup (k := 2) (w := 164) (n := 9) h hl (by omega)
theorem pc_tp {q : Pd} (h : HdOk q.1) (hl : q.2.length ≤ 9) (hr : ∀ d ∈ q.2, Tp 2 164 d) : Tp 4 1600 (pcD q) :=
  (Tp.triple (k := 3) (.nm h.1 (Nat.le_refl 8)) ((Tp.ys (k := 0) h.2.2.2 h.2.1).mono (by decide) (Nat.le_refl _)) (rows_tp hr hl)).mono (Nat.le_refl _) (by decide)
theorem td_tp {q : Td} (h : HdOk q.1) (hn : Nm q.2.2) (hl : q.2.1.length ≤ 9) (hr : ∀ d ∈ q.2.1, Tp 2 164 d) : Tp 4 1600 (tdD q) :=
  (Tp.four (k := 3) (.nm h.1 (Nat.le_refl 8)) ((Tp.ys (k := 0) h.2.2.2 h.2.1).mono (by decide) (Nat.le_refl _)) (rows_tp hr hl) (.nm hn (Nat.le_refl 8))).mono (Nat.le_refl _) (by decide)
theorem fits_tabs {l : List Hd} (h : (l.map (·.1)).Nodup) : Fits l (tabs l) := fun q hq =>
  ar_mem (l := tabs l) (by unfold tabs; rw [List.map_map]; exact h) (q := (q.1, q.2.length)) (List.mem_map.mpr ⟨q, hq, rfl⟩)
theorem named_hd (ks : List Hd) : named (ks.map hdD) = tabs ks := by
  unfold named tabs
  rw [List.map_map]
  refine List.map_congr_left fun k _ => ?_
  show (k.1, (k.2.map D.str).length) = (k.1, k.2.length)
  rw [List.length_map]
theorem named_pc (ps : List Pd) : named (ps.map pcD) = tabs (ps.map (·.1)) := by
  unfold named tabs
  rw [List.map_map, List.map_map]
  refine List.map_congr_left fun k _ => ?_
  show (k.1.1, (k.1.2.map D.str).length) = (k.1.1, k.1.2.length)
  rw [List.length_map]
theorem named_td (ps : List Td) : named (ps.map tdD) = tabs (ps.map (·.1)) := by
  unfold named tabs
  rw [List.map_map, List.map_map]
  refine List.map_congr_left fun k _ => ?_
  show (k.1.1, (k.1.2.map D.str).length) = (k.1.1, k.1.2.length)
  rw [List.length_map]
def szS (ks : List Hd) (ts : List Td) (ps : List Pd) : Sz := ⟨tabs ks, tabs (ts.map (·.1)), tabs ((ps.map (·.1)).drop 1)⟩
theorem sz_eq (ks : List Hd) (ts : List Td) (ps : List Pd) : szOf (ks.map hdD) (ts.map tdD) (ps.map pcD) = szS ks ts ps := by
  unfold szOf szS
  rw [named_hd, named_td, ← List.map_drop, named_pc, List.map_drop]
theorem SrG.row {ks : List Hd} {ts : List Td} {ps : List Pd} (g : SrG ks ts ps) {m : Int} {d : D} (h : RowA ks ((ps.map (·.1)).drop 1) (ts.map (·.1)) m d) : RowG (szS ks ts ps) m d :=
  h.1 _ (fits_tabs g.kn) (fits_tabs (by rw [List.map_drop, List.map_map]; exact List.Pairwise.drop g.pn)) (fits_tabs (by rw [List.map_map]; exact g.tn))
theorem srG_tp {ks : List Hd} {ts : List Td} {ps : List Pd} (g : SrG ks ts ps) : Tp 6 20419 (srD ks ts ps) := by
  have a : Tp 5 200 (.tup (ks.map hdD)) := (Tp.tup (k := 2) (w := 46) (n := 3) (fun d hd => by
    obtain ⟨k, hk, rfl⟩ := List.mem_map.mp hd
    exact hd_tp (g.kok k hk).1) (by rw [List.length_map]; exact g.k3) (by rw [List.length_map]; have := g.k3; omega)).mono (by decide) (by decide)
  have b : Tp 5 9700 (.tup (ts.map tdD)) := (Tp.tup (k := 4) (w := 1600) (n := 6) (fun d hd => by
    obtain ⟨q, hq, rfl⟩ := List.mem_map.mp hd
    obtain ⟨h1, h2, h3, h4⟩ := g.tok q hq
    exact td_tp h1 h2 h3 fun d hd => (g.row (h4 d hd).1).2) (by rw [List.length_map]; exact g.t6) (by rw [List.length_map]; have := g.t6; omega)).mono (by decide) (by decide)
  have c : Tp 5 9700 (.tup (ps.map pcD)) := (Tp.tup (k := 4) (w := 1600) (n := 6) (fun d hd => by
    obtain ⟨q, hq, rfl⟩ := List.mem_map.mp hd
    obtain ⟨h1, h2, h3⟩ := g.pok q hq
    exact pc_tp h1 h2 fun d hd => (g.row (h3 d hd)).2) (by rw [List.length_map]; exact g.p6) (by rw [List.length_map]; have := g.p6; omega)).mono (by decide) (by decide)
  exact (Tp.triple a b c).mono (Nat.le_refl _) (by decide)
theorem rch_ord {ts : List D} {f : Str → Nat} (h : ∀ a b, Us ts a b → f a < f b) {a b : Str} (r : Rch ts a b) : f a < f b := by
  induction r with
  | one u => exact h _ _ u
  | step _ u ih => exact Nat.lt_trans ih (h _ _ u)
theorem srG_ok {ks : List Hd} {ts : List Td} {ps : List Pd} (g : SrG ks ts ps) : isSrc (srD ks ts ps) = true := by
  have e : isSrc (srD ks ts ps) = (kindsOk (ks.map hdD) && procsOk (ps.map pcD) && heads 4 6 (ts.map tdD) && (ts.map tdD).all (tplOk (szOf (ks.map hdD) (ts.map tdD) (ps.map pcD))) && ((ts.map tdD).all fun d => !rg (ts.map tdD) (nmOf d)) && ((ps.map pcD).all fun p => rowsOk (szOf (ks.map hdD) (ts.map tdD) (ps.map pcD)) (rwOf p))) := rfl
  rw [e, sz_eq]
  have e1 : kindsOk (ks.map hdD) = true := by
    unfold kindsOk
    simp only [Bool.and_eq_true]
    refine ⟨⟨decide_eq_true (by rw [List.length_map]; have := g.k3; omega), ?_⟩, decide_eq_true ?_⟩
    · rw [List.all_map, List.all_eq_true]
      intro k hk
      obtain ⟨h1, h2⟩ := g.kok k hk
      obtain ⟨h3, h4⟩ := hd_names h1
      have e : kindOk (hdD k) = (nmS k.1 && !decide (k.1 ∈ barred) && areNames (.tup (k.2.map D.str)) && decide ((k.2.map D.str).length ≤ 4) && dist (k.2.map D.str)) := rfl
      show kindOk (hdD k) = true
      rw [e, h1.1.1, h3, h4, decide_eq_false h2, List.length_map, decide_eq_true h1.2.1]
      rfl
    · rw [List.map_map]
      exact g.kn
  have e2 : procsOk (ps.map pcD) = true := by
    unfold procsOk heads
    simp only [Bool.and_eq_true]
    refine ⟨⟨⟨decide_eq_true (by rw [List.length_map]; exact g.p6), ?_⟩, decide_eq_true ?_⟩, ?_⟩
    · rw [List.all_map, List.all_eq_true]
      intro q hq
      obtain ⟨h1, _⟩ := g.pok q hq
      obtain ⟨h3, h4⟩ := hd_names h1
      have e : headN 3 (pcD q) = (true && nmS q.1.1 && areNames (.tup (q.1.2.map D.str)) && dist (q.1.2.map D.str) && true) := rfl
      show headN 3 (pcD q) = true
      rw [e, h1.1.1, h3, h4]
      rfl
    · rw [List.map_map]
      exact g.pn
    · have := g.hd
      cases ps with
      | nil => cases this
      | cons q r =>
        rw [List.map_cons] at this
        have e : q.1 = (("main" : Str), ([] : List Str)) := by simpa using this
        have e2 : isMain ((q :: r).map pcD) = (decide (q.1.1 = "main") && (q.1.2.map D.str).isEmpty) := rfl
        rw [e2, e]
        rfl
  have e3 : heads 4 6 (ts.map tdD) = true := by
    unfold heads
    simp only [Bool.and_eq_true]
    refine ⟨⟨decide_eq_true (by rw [List.length_map]; exact g.t6), ?_⟩, decide_eq_true ?_⟩
    · rw [List.all_map, List.all_eq_true]
      intro q hq
      obtain ⟨h1, _⟩ := g.tok q hq
      obtain ⟨h3, h4⟩ := hd_names h1
      have e : headN 4 (tdD q) = (true && nmS q.1.1 && areNames (.tup (q.1.2.map D.str)) && dist (q.1.2.map D.str) && true) := rfl
      show headN 4 (tdD q) = true
      rw [e, h1.1.1, h3, h4]
      rfl
    · rw [List.map_map]
      exact g.tn
  have e4 : (ts.map tdD).all (tplOk (szS ks ts ps)) = true := by
    rw [List.all_map, List.all_eq_true]
    intro q hq
    obtain ⟨h1, h2, h3, h4⟩ := g.tok q hq
    have e : tplOk (szS ks ts ps) (tdD q) = (nmS q.2.2 && rowsOk (szS ks ts ps) q.2.1 && q.2.1.all fun r => !isRet r) := rfl
    show tplOk (szS ks ts ps) (tdD q) = true
    have a : rowsOk (szS ks ts ps) q.2.1 = true := List.all_eq_true.mpr fun d hd => (g.row (h4 d hd).1).1
    have b : (q.2.1.all fun r => !isRet r) = true := List.all_eq_true.mpr fun d hd => by rw [(h4 d hd).2]; rfl
    rw [e, h2.1, a, b]
    rfl
  have e5 : ((ts.map tdD).all fun d => !rg (ts.map tdD) (nmOf d)) = true := by
    rw [List.all_map, List.all_eq_true]
    intro q hq
    obtain ⟨f, hf⟩ := g.ord
    show (!rg (ts.map tdD) q.1.1) = true
    have lt : ∀ a b, Us (ts.map tdD) a b → f a < f b := fun a b hu => by
      obtain ⟨d, hd, ea, r, hr, eb⟩ := hu
      obtain ⟨q, hq, rfl⟩ := List.mem_map.mp hd
      have := hf q hq r hr b eb
      rw [← ea]
      exact this
    have : false = rg (ts.map tdD) q.1.1 := rg_iff ⟨(fun h => by cases h), fun r => absurd (rch_ord lt r) (Nat.lt_irrefl _)⟩
    rw [← this]
    rfl
  have e6 : ((ps.map pcD).all fun p => rowsOk (szS ks ts ps) (rwOf p)) = true := by
    rw [List.all_map, List.all_eq_true]
    intro q hq
    obtain ⟨_, _, h3⟩ := g.pok q hq
    show rowsOk _ q.2 = true
    exact List.all_eq_true.mpr fun d hd => (g.row (h3 d hd)).1
  rw [e1, e2, e3, e4, e5, e6]
  rfl
end K05


namespace K05
open PySem L2 PyProof.Rows DL
theorem filt_strs (zs : List Str) (f : Str → Bool) : (zs.map D.str).filter (fun d => f (strOf d)) = (zs.filter f).map D.str := by
  rw [List.filter_map]
  rfl
theorem take_strs (zs : List Str) (j : Nat) : DL.cutD (zs.map D.str) none (some (j : Int)) = (zs.take j).map D.str := by
  rw [cut_take, List.map_take]
theorem map_str_at {zs : List Str} {i : Nat} {x : D} (h : (zs.map D.str)[i]? = some x) : ∃ z, zs[i]? = some z ∧ x = .str z := map_at h
theorem cut_drop (l : List D) (k : Nat) : DL.cutD l (some (k : Int)) none = l.drop k := by
  unfold DL.cutD HT.sIx
  dsimp only
  rw [if_neg (by omega)]
  have e : (k : Int).toNat = k := by omega
  rw [e]
  by_cases h : k ≤ l.length
  · rw [Nat.min_eq_left h, List.take_of_length_le (by rw [List.length_drop]; exact Nat.le_refl _)]
  · rw [Nat.min_eq_right (by omega), Nat.sub_self, List.drop_eq_nil_of_le (show l.length ≤ k by omega)]
    rfl
def sp__law_rows : SpD := fun ds S Q _ => ∃ (p a : Addr) (n : Nat) (K P T : List Hd) (vs : List Str) (last : D), ds = [.ref p, knD K P T, .tup (vs.map D.str), last] ∧ K.length ≤ 10 ∧ P.length ≤ 10 ∧ T.length ≤ 10 ∧ vs.length ≤ 20 ∧ (∀ k ∈ K, HdOk k) ∧ (∀ k ∈ P, HdOk k) ∧ (∀ k ∈ T, HdOk k) ∧ (∀ z ∈ vs, Nm z) ∧ LastOk last ∧
  Spr S p a (n + 300) ∧ ∀ rs S', rs.length ≤ 9 → (∀ d ∈ rs, RowA K P T (rs.length : Nat) d ∧ (last = .tup [.str "none", .str "a"] → isRet d = false)) → Spr S' p a n → Off p a S S' → Q (.tup rs) S'
theorem ok__law_rows {P : Program} {w : World} {K : PySem.W.Frag} {mg : Str → Option Value} {base : Heap} (T : Txt K w mg) (C__law_one_of : Cal P w K mg base 2 "_law_one_of" s__law_one_of ["spring", "items"] sp__law_one_of) (C__law_names : Cal P w K mg base 3 "_law_names" s__law_names ["spring", "many"] sp__law_names) (C__law_row : Cal P w K mg base 3 "_law_row" s__law_row ["spring", "known", "variables", "many", "last"] sp__law_row) (C__law_draw : Cal P w K mg base 1 "_law_draw" s__law_draw ["spring", "many"] sp__law_draw) {ff : Addr} {fd : FuncData} (F : Fun K "_law_rows" "_law_rows" s__law_rows ff fd) (mf : mg "_law_rows" = some (.ref ff)) : Cal P w K mg base 4 "_law_rows" s__law_rows ["spring", "known", "parameters", "last"] sp__law_rows := by
  refine ⟨ff, fd, okD F sc__law_rows (fun ds S Q E h => ?len) (fun cdv A outer s H E ds S Q E' hcd hr h => ⟨_, (dss_cons (ds_set 4 sc__law_rows.nd (de_c C__law_one_of hr (da_cons (de_var 0) (da_cons (de_lf (da_cons de_int (da_cons de_int (da_cons de_int (da_cons de_int (da_cons de_int (da_cons de_int da_nil))))))) da_nil))))
      (dss_cons (ds_set 5 sc__law_rows.nd (de_op (od_add false) (de_callTy (cd_list false) (by rfl) T.nb_list (da_cons (de_var 2) da_nil)) (de_c C__law_names hr (da_cons (de_var 0) (da_cons (de_op (od_add false) de_int (de_c C__law_draw hr (da_cons (de_var 0) (da_cons de_int da_nil)))) da_nil)))))
      (dss_one (ds_ret (de_callTy cd_tuple (by rfl) T.nb_tuple (da_cons (de_lc [("k", 6)] rfl sc__law_rows.nd (di_range1 (by rfl) T.nb_range (da_cons (de_var 4) da_nil)) (blkOk_by (N := ["spring", "known", "parameters", "last", "many", "variables", "k"]) (sc := defScope s__law_rows) (by decide +kernel)) (fun _ _ _ _ _ => (pg_name (i := 6) sc__law_rows.nd rfl (Or.inl rfl) (Or.inr rfl))) (fun N => (tg_name (vs := [6]) (i := 6) (by decide))) (fun _ _ _ _ _ => dts_nil) (fun _ _ _ _ _ => (de_c C__law_row hr (da_cons (de_var 0) (da_cons (de_var 1) (da_cons (de_var 5) (da_cons (de_var 4) (da_cons (de_var 3) da_nil)))))))) da_nil)))))), ?run⟩), F.binds (ps := ["spring", "known", "parameters", "last"]) fun _ _ _ _ _ _ us hl => match us, hl with | [_, _, _, _], _ => rfl, mf, F⟩
  case len => obtain ⟨p, a, n, K, P, T, vs, last, rfl, _⟩ := h; rfl
  case run =>
    obtain ⟨p, a, n, K, P, T, vs, last, rfl, k10, p10, t10, v20, kok, pok, tok, vok, lok, sp, q⟩ := h
    simp only [dVar, dC, dOp, dUn, dChain, dTr, dB, dAnd, dOr, dNot, dIf, dAndV, dOrV, dNotV, dNil, dCons, dTup, dLst, dLf, dNext, dSeq, dBreak, dCont, dDrop, dRet, dRetN, dIfS, gdName, gdNil, gdCons, gdTup, gdSub, dAsg, dPar, dCall, dCallK, dCB, dM0, dM, dGet1, dGet2, dDk, dDt, dPart, dNoPart, dSlice, dAug, dYes, dSort2, revD, iTupD, iLstD, iLf, iLw, iRange1, iRange2, iRange3, iEnumD, iZipD, iZipMD, iStrD, dGix, dDc, dIsi, dSortSet, dLenSet, dDlit, gdLst, dFor, dWhile, dLc, dLcM, dFld, dFldSet, dFldAdd, dMeth, dMake, dPar3, dDisp, dPrs, dFsi, dGget, dKgt, dKgtL, dCut, dTcut, wipeD, bodyE, startD, List.map_cons, List.map_nil, List.length_cons, List.length_nil, List.replicate_succ, List.replicate_zero, List.cons_append, List.nil_append, Nat.reduceAdd, Nat.reduceSub, Nat.zero_add, List.getElem?_cons_zero, List.getElem?_cons_succ, List.set_cons_zero, List.set_cons_succ, Option.some.injEq, exists_eq_left', exists_eq_left, if_true, sizeLine_eq, Nat.reduceLeDiff, Nat.reduceLT, Nat.zero_le, true_and, and_true, Bool.false_eq_true, if_false]
    refine ⟨p, a, n + 299, _, rfl, sp, .inl ⟨_, rfl, by simp, by simp, fun mm S1 hm sp1 of1 => ?_⟩⟩
    obtain ⟨mm, m9, rfl⟩ : ∃ m0 : Nat, m0 ≤ 9 ∧ mm = .int (m0 : Nat) := by
      simp only [List.mem_cons, List.not_mem_nil, or_false] at hm
      rcases hm with rfl | rfl | rfl | rfl | rfl | rfl
      · exact ⟨0, by decide, rfl⟩
      · exact ⟨1, by decide, rfl⟩
      · exact ⟨2, by decide, rfl⟩
      · exact ⟨3, by decide, rfl⟩
      · exact ⟨5, by decide, rfl⟩
      · exact ⟨9, by decide, rfl⟩
    refine ⟨_, vs.map D.str, rfl, rfl, brF rfl ⟨p, a, n + 298, 3, rfl, by decide, by decide, sp1, fun f S2 f0 f1 sp2 of2 => add_i ?_⟩⟩
    obtain ⟨f, rfl⟩ : ∃ i : Nat, f = i := ⟨f.toNat, by omega⟩
    refine ⟨p, a, n + 280, 1 + f, by rw [Int.natCast_add]; rfl, by omega, sp2.mono (by omega), fun zs S3 zl znd zok sp3 of3 => add_f rfl rfl (by rw [List.length_map, List.length_map, sizeLine_eq]; omega) ?_⟩
    rw [← List.map_append]
    have ok2 : ∀ z ∈ vs ++ zs, Nm z := fun z hz => (List.mem_append.mp hz).elim (vok z) (zok z)
    have l1 : 0 < (vs ++ zs).length := by rw [List.length_append]; omega
    have l2 : (vs ++ zs).length ≤ 30 := by rw [List.length_append]; omega
    refine ⟨_, rfl, by omega, by omega, ?_⟩
    rw [Int.toNat_natCast]
    refine lc_rng (fun j acc S' => acc.length = j ∧ j ≤ mm ∧ (∀ d ∈ acc, RowA K P T (mm : Nat) d ∧ (last = .tup [.str "none", .str "a"] → isRet d = false)) ∧ Spr S' p a (n + 280 - 20 * j) ∧ Off p a S S') ⟨rfl, Nat.zero_le _, fun d hd => (nomatch hd), sp3, (of1.trans of2).trans of3⟩ ?_ ?_
    · rintro j acc S4 hj ⟨al, hj2, hac, sp4, of4⟩
      refine ⟨by rw [sizeLine_eq]; omega, p, a, n + 280 - 20 * (j + 1), K, P, T, vs ++ zs, mm, last, rfl, k10, p10, t10, l1, l2, by omega, kok, pok, tok, ok2, lok, sp4.mono (by omega), fun d S5 hd hr sp5 of5 => ⟨by rw [List.length_append, al]; rfl, hj, fun e he => ?_, sp5, of4.trans of5⟩⟩
      rcases List.mem_append.mp he with h | h
      · exact hac e h
      · rw [List.mem_singleton.mp h]; exact ⟨hd, hr⟩
    · rintro j acc S4 hj ⟨al, hj2, hac, sp4, of4⟩
      obtain rfl : j = mm := by omega
      exact tpl_l rfl (rt_of (q acc S4 (by omega) (by rw [al]; exact hac) (sp4.mono (by omega)) of4))
theorem hds_lc {p a : Addr} {n c : Nat} {zs : List Str} {S : Sto} {Nx : List D → Sto → Prop} (hc0 : 0 < c) (hc : c ≤ 5) (hz : ∀ z ∈ zs, Nm z) (hl : zs.length ≤ 10) (sp : Spr S p a (n + 10 * zs.length)) (nxt : ∀ (hs : List Hd) S', hs.map (·.1) = zs → (∀ k ∈ hs, HdOk k) → Spr S' p a n → Off p a S S' → Nx (hs.map hdD) S') :
    ∃ (W : Nat → List D → Sto → Prop) (n1 : Nat), W 0 [] S ∧ ∀ i acc S2, W i acc S2 → ∃ r, seqI (zs.map D.str) i S2 = some r ∧ (r = none → Nx acc S2) ∧ ∀ x, r = some x → i < n1 ∧ acc.length < 16777216 ∧ sp__law_draw [.ref p, .int (c : Nat)] S2 (fun x1 S1 => sp__law_names [.ref p, x1] S1 (fun x2 S1 => tplD [x2] S1 fun x3 S1 => W (i + 1) (acc ++ [.tup [x, x3]]) S1) X0) X0 := by
  refine lc_seq (fun i acc S' => ∃ hs : List Hd, acc = hs.map hdD ∧ hs.map (·.1) = zs.take i ∧ i ≤ zs.length ∧ (∀ k ∈ hs, HdOk k) ∧ Spr S' p a (n + 10 * zs.length - 10 * i) ∧ Off p a S S') ⟨[], rfl, rfl, Nat.zero_le _, fun k hk => (nomatch hk), sp, .refl⟩ ?_ ?_
  · rintro i x acc S3 hx ⟨hs, rfl, hk, _, hok, sp3, of3⟩
    obtain ⟨z, hz2, rfl⟩ := map_str_at hx
    have hlt := (List.getElem?_eq_some_iff.mp hz2).1
    have lk : hs.length = i := by have := congrArg List.length hk; rw [List.length_map, List.length_take] at this; omega
    refine ⟨by rw [List.length_map, sizeLine_eq]; omega, p, a, n + 10 * zs.length - 10 * i - 1, c, rfl, by omega, by omega, sp3.mono (by omega), fun f S4 f0 f1 sp4 of4 => ?_⟩
    obtain ⟨f, rfl⟩ : ∃ i : Nat, f = i := ⟨f.toNat, by omega⟩
    refine ⟨p, a, n + 10 * zs.length - 10 * (i + 1), f, rfl, by omega, sp4.mono (by omega), fun fs S5 fl fnd fok sp5 of5 => tpl_l rfl ?_⟩
    refine ⟨hs ++ [(z, fs)], by rw [List.map_append]; rfl, by rw [List.map_append, hk, tk1 hz2]; rfl, hlt, fun k hk2 => ?_, sp5, (of3.trans of4).trans of5⟩
    rcases List.mem_append.mp hk2 with h | h
    · exact hok k h
    · rw [List.mem_singleton.mp h]
      exact ⟨hz z (List.mem_of_getElem? hz2), by show fs.length ≤ 4; omega, fnd, fok⟩
  · rintro i acc S3 hi ⟨hs, rfl, hk, hi2, hok, sp3, of3⟩
    rw [List.length_map] at hi
    obtain rfl : i = zs.length := by omega
    rw [List.take_length] at hk
    exact nxt hs S3 hk hok (sp3.mono (by omega)) of3
theorem ord_ex : ∀ {l : List Str}, l.Nodup → ∃ f : Str → Nat, ∀ (j : Nat) (a b : Str), l[j]? = some a → b ∈ l.drop (j + 1) → f a < f b
  | [], _ => ⟨fun _ => 0, fun j a b h => by simp at h⟩
  | x :: l, h => by
    rw [List.nodup_cons] at h
    obtain ⟨f, hf⟩ := ord_ex h.2
    refine ⟨fun z => if z = x then 0 else f z + 1, fun j a b h1 h2 => ?_⟩
    have nb : b ≠ x := fun e => by
      rw [List.drop_succ_cons] at h2
      exact h.1 (e ▸ List.mem_of_mem_drop h2)
    cases j with
    | zero =>
      simp only [List.getElem?_cons_zero, Option.some.injEq] at h1
      subst h1
      show (if x = x then 0 else f x + 1) < (if b = x then 0 else f b + 1)
      rw [if_pos rfl, if_neg nb]
      exact Nat.succ_pos _
    | succ j =>
      simp only [List.getElem?_cons_succ] at h1
      rw [List.drop_succ_cons] at h2
      have na : a ≠ x := fun e => h.1 (e ▸ List.mem_of_getElem? h1)
      show (if a = x then 0 else f a + 1) < (if b = x then 0 else f b + 1)
      rw [if_neg na, if_neg nb]
      exact Nat.succ_lt_succ (hf j a b h1 h2)
def sp__law_source : SpD := fun ds S Q _ => ∃ (p a : Addr) (n : Nat), ds = [.ref p] ∧ Spr S p a (n + 9000) ∧ ∀ ks ts ps S', SrG ks ts ps → Spr S' p a n → Off p a S S' → Q (srD ks ts ps) S'
theorem ok__law_source {P : Program} {w : World} {K : PySem.W.Frag} {mg : Str → Option Value} {base : Heap} (T : Txt K w mg) (C__law_draw : Cal P w K mg base 1 "_law_draw" s__law_draw ["spring", "many"] sp__law_draw) (C__law_names : Cal P w K mg base 3 "_law_names" s__law_names ["spring", "many"] sp__law_names) (C__law_rows : Cal P w K mg base 4 "_law_rows" s__law_rows ["spring", "known", "parameters", "last"] sp__law_rows) (C__law_one_of : Cal P w K mg base 2 "_law_one_of" s__law_one_of ["spring", "items"] sp__law_one_of) {ff : Addr} {fd : FuncData} (F : Fun K "_law_source" "_law_source" s__law_source ff fd) (mf : mg "_law_source" = some (.ref ff)) : Cal P w K mg base 5 "_law_source" s__law_source ["spring"] sp__law_source := by
  refine ⟨ff, fd, okD F sc__law_source (fun ds S Q E h => ?len) (fun cdv A outer s H E ds S Q E' hcd hr h => ⟨_, (dss_cons (ds_setLc 1 [("name", 2)] rfl sc__law_source.nd (di_lf (de_c C__law_names hr (da_cons (de_var 0) (da_cons de_int da_nil)))) (blkOk_by (N := ["spring", "names", "name", "kinds", "calls", "heads", "templates", "used", "uses", "k", "parameters", "rows", "procedures", "at"]) (sc := defScope s__law_source) (by decide +kernel)) (fun _ _ _ _ _ => (pg_name (i := 2) sc__law_source.nd rfl (Or.inl rfl) (Or.inr rfl))) (fun N => (tg_name (vs := [2]) (i := 2) (by decide))) (fun _ _ _ _ _ => pts_one (dt_cmp (od_notin hr) (de_var 2) (de_tup (da_cons de_str (da_cons de_str da_nil))))) (fun _ _ _ _ _ => (de_var 2)))
      (dss_cons (ds_setLc 3 [("name", 2)] rfl sc__law_source.nd (di_lf (de_slice (xd_slice false) (de_var 1) do_none (do_some (de_c C__law_draw hr (da_cons (de_var 0) (da_cons de_int da_nil)))))) (blkOk_by (N := ["spring", "names", "name", "kinds", "calls", "heads", "templates", "used", "uses", "k", "parameters", "rows", "procedures", "at"]) (sc := defScope s__law_source) (by decide +kernel)) (fun _ _ _ _ _ => (pg_name (i := 2) sc__law_source.nd rfl (Or.inl rfl) (Or.inr rfl))) (fun N => (tg_name (vs := [2]) (i := 2) (by decide))) (fun _ _ _ _ _ => dts_nil) (fun _ _ _ _ _ => (de_tup (da_cons (de_var 2) (da_cons (de_callTy cd_tuple (by rfl) T.nb_tuple (da_cons (de_c C__law_names hr (da_cons (de_var 0) (da_cons (de_c C__law_draw hr (da_cons (de_var 0) (da_cons de_int da_nil))) da_nil))) da_nil)) da_nil)))))
      (dss_cons (ds_set 4 sc__law_source.nd (de_slice (xd_slice false) (de_lc [("name", 2)] rfl sc__law_source.nd (di_lf (de_c C__law_names hr (da_cons (de_var 0) (da_cons de_int da_nil)))) (blkOk_by (N := ["spring", "names", "name", "kinds", "calls", "heads", "templates", "used", "uses", "k", "parameters", "rows", "procedures", "at"]) (sc := defScope s__law_source) (by decide +kernel)) (fun _ _ _ _ _ => (pg_name (i := 2) sc__law_source.nd rfl (Or.inl rfl) (Or.inr rfl))) (fun N => (tg_name (vs := [2]) (i := 2) (by decide))) (fun _ _ _ _ _ => pts_one (dt_cmp (od_ne hr) (de_var 2) de_str)) (fun _ _ _ _ _ => (de_var 2))) do_none (do_some (de_c C__law_draw hr (da_cons (de_var 0) (da_cons de_int da_nil))))))
      (dss_cons (ds_setLc 5 [("name", 2)] rfl sc__law_source.nd (di_lf (de_var 4)) (blkOk_by (N := ["spring", "names", "name", "kinds", "calls", "heads", "templates", "used", "uses", "k", "parameters", "rows", "procedures", "at"]) (sc := defScope s__law_source) (by decide +kernel)) (fun _ _ _ _ _ => (pg_name (i := 2) sc__law_source.nd rfl (Or.inl rfl) (Or.inr rfl))) (fun N => (tg_name (vs := [2]) (i := 2) (by decide))) (fun _ _ _ _ _ => dts_nil) (fun _ _ _ _ _ => (de_tup (da_cons (de_var 2) (da_cons (de_callTy cd_tuple (by rfl) T.nb_tuple (da_cons (de_c C__law_names hr (da_cons (de_var 0) (da_cons (de_c C__law_draw hr (da_cons (de_var 0) (da_cons de_int da_nil))) da_nil))) da_nil)) da_nil)))))
      (dss_cons (ds_par 6 7 rfl sc__law_source.nd (da_cons (de_lst da_nil) (da_cons (de_c C__law_names hr (da_cons (de_var 0) (da_cons (de_c C__law_draw hr (da_cons (de_var 0) (da_cons de_int da_nil))) da_nil))) da_nil)))
      (dss_cons (ds_setLc 8 [("name", 2)] rfl sc__law_source.nd (di_lf (de_var 7)) (blkOk_by (N := ["spring", "names", "name", "kinds", "calls", "heads", "templates", "used", "uses", "k", "parameters", "rows", "procedures", "at"]) (sc := defScope s__law_source) (by decide +kernel)) (fun _ _ _ _ _ => (pg_name (i := 2) sc__law_source.nd rfl (Or.inl rfl) (Or.inr rfl))) (fun N => (tg_name (vs := [2]) (i := 2) (by decide))) (fun _ _ _ _ _ => dts_nil) (fun _ _ _ _ _ => (de_tup (da_cons (de_var 2) (da_cons (de_callTy cd_tuple (by rfl) T.nb_tuple (da_cons (de_c C__law_names hr (da_cons (de_var 0) (da_cons (de_c C__law_draw hr (da_cons (de_var 0) (da_cons de_int da_nil))) da_nil))) da_nil)) da_nil)))))
      (dss_cons (ds_for PassesOwn.never rfl (di_enum (by rfl) T.nb_enumerate (da_cons (de_var 8) da_nil)) (dg_tup (n := 2) rfl (dgs_cons (dg_name 9 sc__law_source.nd) (dgs_cons (dg_tup (n := 2) rfl (dgs_cons (dg_name 2 sc__law_source.nd) (dgs_cons (dg_name 10 sc__law_source.nd) dgs_nil))) dgs_nil))) (dss_cons (ds_set 11 sc__law_source.nd (de_c C__law_rows hr (da_cons (de_var 0) (da_cons (de_lf (da_cons (de_var 3) (da_cons (de_var 5) (da_cons (de_slice (xd_slice false) (de_var 8) (do_some (de_op (od_add false) (de_var 9) de_int)) do_none) da_nil)))) (da_cons (de_var 10) (da_cons (de_tup (da_cons de_str (da_cons de_str da_nil))) da_nil))))))
      (dss_one (ds_expr (de_m PySem.F.plainAttrs_list PySem.F.slot_list_append PySem.F.type_list_append md_append (de_var 6) (da_cons (de_tup (da_cons (de_var 2) (da_cons (de_var 10) (da_cons (de_var 11) (da_cons (de_c C__law_one_of hr (da_cons (de_var 0) (da_cons (de_op (od_add false) (de_callTy (cd_list false) (by rfl) T.nb_list (da_cons (de_var 10) da_nil)) (de_lf (da_cons de_str (da_cons de_str (da_cons de_str da_nil))))) da_nil))) da_nil))))) da_nil))))))
      (dss_cons (ds_set 12 sc__law_source.nd (de_lst da_nil))
      (dss_cons (ds_for PassesOwn.never rfl (di_lf (de_op (od_add false) (de_lf (da_cons (de_tup (da_cons de_str (da_cons (de_tup da_nil) da_nil))) da_nil)) (de_var 5))) (dg_tup (n := 2) rfl (dgs_cons (dg_name 2 sc__law_source.nd) (dgs_cons (dg_name 10 sc__law_source.nd) dgs_nil))) (dss_cons (ds_set 11 sc__law_source.nd (de_c C__law_rows hr (da_cons (de_var 0) (da_cons (de_lf (da_cons (de_var 3) (da_cons (de_var 5) (da_cons (de_var 8) da_nil)))) (da_cons (de_var 10) (da_cons (de_tup (da_cons de_str (da_cons de_str da_nil))) da_nil))))))
      (dss_one (ds_expr (de_m PySem.F.plainAttrs_list PySem.F.slot_list_append PySem.F.type_list_append md_append (de_var 12) (da_cons (de_tup (da_cons (de_var 2) (da_cons (de_var 10) (da_cons (de_var 11) da_nil)))) da_nil))))))
      (dss_cons (ds_set 13 sc__law_source.nd (de_c C__law_draw hr (da_cons (de_var 0) (da_cons (de_op (od_add false) (de_callB cd_len (by rfl) T.nb_len (da_cons (de_var 6) da_nil)) de_int) da_nil))))
      (dss_one (ds_ret (de_tup (da_cons (de_callTy cd_tuple (by rfl) T.nb_tuple (da_cons (de_var 3) da_nil)) (da_cons (de_callTy cd_tuple (by rfl) T.nb_tuple (da_cons (de_op (od_add false) (de_slice (xd_slice false) (de_var 6) (do_some (de_var 13)) do_none) (de_slice (xd_slice false) (de_var 6) do_none (do_some (de_var 13)))) da_nil)) (da_cons (de_callTy cd_tuple (by rfl) T.nb_tuple (da_cons (de_var 12) da_nil)) da_nil)))))))))))))))), ?run⟩), F.binds (ps := ["spring"]) fun _ _ _ _ _ _ us hl => match us, hl with | [_], _ => rfl, mf, F⟩
  case len => obtain ⟨p, a, n, rfl, _⟩ := h; rfl
  case run =>
    obtain ⟨p, a, n, rfl, sp, q⟩ := h
    simp only [dVar, dC, dOp, dUn, dChain, dTr, dB, dAnd, dOr, dNot, dIf, dAndV, dOrV, dNotV, dNil, dCons, dTup, dLst, dLf, dNext, dSeq, dBreak, dCont, dDrop, dRet, dRetN, dIfS, gdName, gdNil, gdCons, gdTup, gdSub, dAsg, dPar, dCall, dCallK, dCB, dM0, dM, dGet1, dGet2, dDk, dDt, dPart, dNoPart, dSlice, dAug, dYes, dSort2, revD, iTupD, iLstD, iLf, iLw, iRange1, iRange2, iRange3, iEnumD, iZipD, iZipMD, iStrD, dGix, dDc, dIsi, dSortSet, dLenSet, dDlit, gdLst, dFor, dWhile, dLc, dLcM, dFld, dFldSet, dFldAdd, dMeth, dMake, dPar3, dDisp, dPrs, dFsi, dGget, dKgt, dKgtL, dCut, dTcut, wipeD, bodyE, startD, List.map_cons, List.map_nil, List.length_cons, List.length_nil, List.replicate_succ, List.replicate_zero, List.cons_append, List.nil_append, Nat.reduceAdd, Nat.reduceSub, Nat.zero_add, List.getElem?_cons_zero, List.getElem?_cons_succ, List.set_cons_zero, List.set_cons_succ, Option.some.injEq, exists_eq_left', exists_eq_left, if_true, sizeLine_eq, Nat.reduceLeDiff, Nat.reduceLT, Nat.zero_le, true_and, and_true, Bool.false_eq_true, if_false]
    refine ⟨p, a, n + 8990, 9, rfl, by decide, sp.mono (by omega), fun zs S1 zl znd zok sp1 of1 => ⟨_, rfl, ?_⟩⟩
    refine lc_fl (fun d => !decide (strOf d ∈ barred)) (by rw [List.length_map]; omega) (fun W i x acc hx w1 w2 => ?_) ?_
    · obtain ⟨z, hz, rfl⟩ := map_str_at hx
      refine in_ws (ws := barred) rfl (fun z e => nomatch e) (zok z (List.mem_of_getElem? hz)).2 ok4 ⟨_, rfl, br2 (fun h => w1 ?_) fun h => w2 ?_⟩
      · show (!decide (z ∈ barred)) = true
        rw [decide_eq_false (of_nxt h)]; rfl
      · show (!decide (z ∈ barred)) = false
        rw [decide_eq_true (of_nxf h)]; rfl
    rw [filt_strs zs fun z => !decide (z ∈ barred)]
    obtain ⟨nm, hnm⟩ : ∃ nm, nm = zs.filter fun z => !decide (z ∈ barred) := ⟨_, rfl⟩
    have nml : nm.length ≤ 9 := by rw [hnm]; exact Nat.le_trans (List.length_filter_le _ _) (by omega)
    have nmnd : nm.Nodup := by rw [hnm]; exact List.Pairwise.filter _ znd
    have nmok : ∀ z ∈ nm, Nm z ∧ z ∉ barred := fun z hz => by
      rw [hnm] at hz
      obtain ⟨h1, h2⟩ := List.mem_filter.mp hz
      exact ⟨zok z h1, by simpa using h2⟩
    rw [← hnm]
    refine ⟨p, a, n + 8980, 4, rfl, by decide, by decide, sp1.mono (by omega), fun j S2 j0 j1 sp2 of2 => ⟨j, rfl, sl_f rfl ?_⟩⟩
    obtain ⟨j, rfl⟩ : ∃ i : Nat, j = i := ⟨j.toNat, by omega⟩
    rw [take_strs]
    refine ⟨_, rfl, ?_⟩
    obtain ⟨kn, hkn⟩ : ∃ kn, kn = nm.take j := ⟨_, rfl⟩
    have knl : kn.length ≤ 3 := by rw [hkn, List.length_take]; omega
    have knnd : kn.Nodup := by rw [hkn]; exact List.Pairwise.take nmnd
    have knok : ∀ z ∈ kn, Nm z ∧ z ∉ barred := fun z hz => nmok z (by rw [hkn] at hz; exact List.mem_of_mem_take hz)
    rw [← hkn]
    have off2 := of1.trans of2
    refine hds_lc (p := p) (a := a) (n := n + 8900) (c := 5) (by decide) (by decide) (fun z hz => (knok z hz).1) (by omega) (sp2.mono (by omega)) fun ks S3 hk kok sp3 of3 => ?_
    have of3 := off2.trans of3
    clear hnm nml nmnd nmok hkn zok znd zl
    refine ⟨p, a, n + 8890, 9, rfl, by decide, sp3.mono (by omega), fun zs S4 zl znd zok sp4 of4 => ⟨_, rfl, ?_⟩⟩
    refine lc_fl (fun d => !decide (strOf d = ("main" : Str))) (by rw [List.length_map]; omega) (fun W i x acc hx w1 w2 => ?_) ?_
    · obtain ⟨z, hz, rfl⟩ := map_str_at hx
      refine ⟨_, rfl, br2 (fun h => w1 ?_) fun h => w2 ?_⟩
      · show (!decide (z = "main")) = true
        rw [decide_eq_false (of_nxt h)]; rfl
      · show (!decide (z = "main")) = false
        rw [decide_eq_true (of_nxf h)]; rfl
    rw [filt_strs zs fun z => !decide (z = ("main" : Str))]
    obtain ⟨nm2, hnm⟩ : ∃ nm2, nm2 = zs.filter fun z : Str => !decide (z = ("main" : Str)) := ⟨_, rfl⟩
    have nml : nm2.length ≤ 9 := by rw [hnm]; exact Nat.le_trans (List.length_filter_le _ _) (by omega)
    have nmnd : nm2.Nodup := by rw [hnm]; exact List.Pairwise.filter _ znd
    have nmok : ∀ z ∈ nm2, Nm z ∧ z ≠ "main" := fun z hz => by
      rw [hnm] at hz
      obtain ⟨h1, h2⟩ := List.mem_filter.mp hz
      exact ⟨zok z h1, by simpa using h2⟩
    rw [← hnm]
    refine ⟨p, a, n + 8880, 6, rfl, by decide, by decide, sp4.mono (by omega), fun j S5 j0 j1 sp5 of5 => ⟨j, rfl, sl_f rfl ?_⟩⟩
    obtain ⟨j, rfl⟩ : ∃ i : Nat, j = i := ⟨j.toNat, by omega⟩
    rw [take_strs]
    obtain ⟨cn, hcn⟩ : ∃ cn, cn = nm2.take j := ⟨_, rfl⟩
    have cnl : cn.length ≤ 5 := by rw [hcn, List.length_take]; omega
    have cnnd : cn.Nodup := by rw [hcn]; exact List.Pairwise.take nmnd
    have cnok : ∀ z ∈ cn, Nm z ∧ z ≠ "main" := fun z hz => nmok z (by rw [hcn] at hz; exact List.mem_of_mem_take hz)
    rw [← hcn]
    refine ⟨_, rfl, ?_⟩
    have off5 := (of3.trans of4).trans of5
    refine hds_lc (p := p) (a := a) (n := n + 8800) (c := 4) (by decide) (by decide) (fun z hz => (cnok z hz).1) (by omega) (sp5.mono (by omega)) fun hs S6 hh hok sp6 of6 => ?_
    have of6 := off5.trans of6
    clear hnm nml nmnd nmok hcn zok znd zl
    have h5 : hs.length ≤ 5 := by have := congrArg List.length hh; rw [List.length_map] at this; omega
    have k3 : ks.length ≤ 3 := by have := congrArg List.length hk; rw [List.length_map] at this; omega
    intro g ng
    obtain ⟨gp, ga⟩ := sp6.ne ng
    refine ⟨p, a, n + 8790, 7, rfl, by decide, by decide, (sp6.mono (by omega)).up gp ga, fun j S7 j0 j1 sp7 of7 => ?_⟩
    obtain ⟨j, rfl⟩ : ∃ i : Nat, j = i := ⟨j.toNat, by omega⟩
    refine ⟨p, a, n + 8780, j, rfl, by omega, sp7.mono (by omega), fun zs S8 zl znd zok sp8 of8 => ⟨_, _, rfl, _, rfl, ?_⟩⟩
    refine hds_lc (p := p) (a := a) (n := n + 8700) (c := 4) (by decide) (by decide) zok (by omega) (sp8.mono (by omega)) fun us S9 hu uok sp9 of9 => ⟨_, us.map hdD, rfl, rfl, ?_⟩
    have u6 : us.length ≤ 6 := by have := congrArg List.length hu; rw [List.length_map] at this; omega
    have und : (us.map (·.1)).Nodup := by rw [hu]; exact znd
    have of9 := (of7.trans of8).trans of9
    have hg9 : S9 g = some (.lst []) := by rw [of9 g gp ga, up_same]
    refine fr_of us.length (fun i δ S' => ∃ (ts : List Td) (r2 r9 r10 r11 r12 r13 : Option D), δ = [some (.ref p), some (.fl (nm.map D.str)), r2, some (.fl (ks.map hdD)), some (.fl (cn.map D.str)), some (.fl (hs.map hdD)), some (.ref g), some (.fl (zs.map D.str)), some (.fl (us.map hdD)), r9, r10, r11, r12, r13] ∧ i ≤ us.length ∧ ts.map (·.1) = us.take i ∧ (∀ (j : Nat) (q : Td), ts[j]? = some q → Nm q.2.2 ∧ q.2.1.length ≤ 9 ∧ ∀ d ∈ q.2.1, RowA ks hs (us.drop (j + 1)) (q.2.1.length : Nat) d ∧ isRet d = false) ∧ S' g = some (.lst (ts.map tdD)) ∧ Spr S' p a (n + 8600 - 400 * i) ∧ (∀ b, b ≠ p → b ≠ a → b ≠ g → S' b = S b)) ⟨[], _, _, _, _, _, _, rfl, Nat.zero_le _, rfl, fun j q h => by simp at h, hg9, sp9.mono (by omega), fun b b1 b2 b3 => by rw [of9 b b1 b2, up_ne b3, of6 b b1 b2]⟩ ?_ ?_
    · rintro i δ S10 hi ⟨ts, r2, r9, r10, r11, r12, r13, rfl, hile, hts, hok2, hg10, sp10, of10⟩
      have hki := List.getElem?_eq_getElem hi
      obtain ⟨k, hk⟩ : ∃ k, k = us[i] := ⟨_, rfl⟩
      rw [← hk] at hki
      have hkm : k ∈ us := List.mem_of_getElem? hki
      obtain ⟨q1, q2, q3, q4⟩ := uok k hkm
      have lts : ts.length = i := by have := congrArg List.length hts; rw [List.length_map, List.length_take] at this; omega
      refine ⟨.tup [.int (i : Nat), hdD k], by rw [enum_fl, List.getElem?_map, hki]; rfl, ?_⟩
      refine ⟨_, rfl, rfl, _, _, rfl, _, _, rfl, _, rfl, rfl, _, _, rfl, _, _, rfl, rfl, rfl, ?_⟩
      simp only [dVar, dC, dOp, dUn, dChain, dTr, dB, dAnd, dOr, dNot, dIf, dAndV, dOrV, dNotV, dNil, dCons, dTup, dLst, dLf, dNext, dSeq, dBreak, dCont, dDrop, dRet, dRetN, dIfS, gdName, gdNil, gdCons, gdTup, gdSub, dAsg, dPar, dCall, dCallK, dCB, dM0, dM, dGet1, dGet2, dDk, dDt, dPart, dNoPart, dSlice, dAug, dYes, dSort2, revD, iTupD, iLstD, iLf, iLw, iRange1, iRange2, iRange3, iEnumD, iZipD, iZipMD, iStrD, dGix, dDc, dIsi, dSortSet, dLenSet, dDlit, gdLst, dFor, dWhile, dLc, dLcM, dFld, dFldSet, dFldAdd, dMeth, dMake, dPar3, dDisp, dPrs, dFsi, dGget, dKgt, dKgtL, dCut, dTcut, wipeD, bodyE, startD, List.map_cons, List.map_nil, List.length_cons, List.length_nil, List.replicate_succ, List.replicate_zero, List.cons_append, List.nil_append, Nat.reduceAdd, Nat.reduceSub, Nat.zero_add, List.getElem?_cons_zero, List.getElem?_cons_succ, List.set_cons_zero, List.set_cons_succ, Option.some.injEq, exists_eq_left', exists_eq_left, if_true, sizeLine_eq, Nat.reduceLeDiff, Nat.reduceLT, Nat.zero_le, true_and, and_true, Bool.false_eq_true, if_false]
      have ec : DL.cutD (us.map hdD) (some ((i : Int) + 1)) none = (us.drop (i + 1)).map hdD := by
        have := cut_drop (us.map hdD) (i + 1)
        rw [← List.map_drop] at this
        exact this
      refine add_i ⟨_, rfl, sl_f rfl ?_⟩
      rw [ec]
      refine ⟨p, a, n + 8600 - 400 * i - 300, ks, hs, us.drop (i + 1), k.2, _, rfl, by omega, by omega, by rw [List.length_drop]; omega, by omega, kok, hok, fun k hk => uok k (List.mem_of_mem_drop hk), q4, .inl rfl, sp10.mono (by omega), fun rs S11 rl hrs sp11 of11 => ?_⟩
      have hg11 : S11 g = some (.lst (ts.map tdD)) := by rw [of11 g gp ga]; exact hg10
      have ee : k.2.map D.str ++ [D.str "a", D.str "t0", D.str "out"] = (k.2 ++ (["a", "t0", "out"] : List Str)).map D.str := by rw [List.map_append]; rfl
      refine ⟨ty_l hg11, _, k.2.map D.str, rfl, rfl, brF rfl (add_f rfl rfl (by rw [List.length_map, sizeLine_eq]; simp; omega) ?_)⟩
      rw [ee]
      refine pick_nm (n := n + 8600 - 400 * (i + 1)) (by simp only [List.length_append, List.length_cons, List.length_nil]; omega) (by simp only [List.length_append, List.length_cons, List.length_nil]; omega) (fun z hz => ?_) (sp11.mono (by omega)) fun z S12 hz sp12 of12 => ?_
      · rcases List.mem_append.mp hz with h | h
        · exact q4 z h
        · have : ∀ z ∈ (["a", "t0", "out"] : List Str), nmS z = true ∧ PyData.strOk z = true := by decide +kernel
          exact this z h
      have hg12 : S12 g = some (.lst (ts.map tdD)) := by rw [of12 g gp ga]; exact hg11
      refine app_of hg12 (by rw [List.length_map, sizeLine_eq]; omega) ?_
      refine ⟨ts ++ [(k, rs, z)], _, _, _, _, _, _, rfl, hi, by rw [List.map_append, hts, tk1 hki]; rfl, fun j q hj => ?_, by rw [up_same, List.map_append]; rfl, sp12.up gp ga, fun b b1 b2 b3 => by rw [up_ne b3, of12 b b1 b2, of11 b b1 b2, of10 b b1 b2 b3]⟩
      by_cases hji : j < ts.length
      · rw [List.getElem?_append_left hji] at hj
        exact hok2 j q hj
      · rw [List.getElem?_append_right (by omega)] at hj
        have hj0 : j = ts.length := by
          have := (List.getElem?_eq_some_iff.mp hj).1
          simp only [List.length_singleton] at this
          omega
        subst hj0
        rw [Nat.sub_self] at hj
        cases hj
        exact ⟨hz, rl, fun d hd => by rw [lts]; exact ⟨(hrs d hd).1, (hrs d hd).2 rfl⟩⟩
    · rintro i δ S10 hi ⟨ts, r2, r9, r10, r11, r12, r13, rfl, hile, hts, hok2, hg10, sp10, of10⟩
      refine ⟨by rw [enum_fl, List.getElem?_eq_none (by rw [List.length_map]; exact hi)]; rfl, ?_⟩
      simp only [dVar, dC, dOp, dUn, dChain, dTr, dB, dAnd, dOr, dNot, dIf, dAndV, dOrV, dNotV, dNil, dCons, dTup, dLst, dLf, dNext, dSeq, dBreak, dCont, dDrop, dRet, dRetN, dIfS, gdName, gdNil, gdCons, gdTup, gdSub, dAsg, dPar, dCall, dCallK, dCB, dM0, dM, dGet1, dGet2, dDk, dDt, dPart, dNoPart, dSlice, dAug, dYes, dSort2, revD, iTupD, iLstD, iLf, iLw, iRange1, iRange2, iRange3, iEnumD, iZipD, iZipMD, iStrD, dGix, dDc, dIsi, dSortSet, dLenSet, dDlit, gdLst, dFor, dWhile, dLc, dLcM, dFld, dFldSet, dFldAdd, dMeth, dMake, dPar3, dDisp, dPrs, dFsi, dGget, dKgt, dKgtL, dCut, dTcut, wipeD, bodyE, startD, List.map_cons, List.map_nil, List.length_cons, List.length_nil, List.replicate_succ, List.replicate_zero, List.cons_append, List.nil_append, Nat.reduceAdd, Nat.reduceSub, Nat.zero_add, List.getElem?_cons_zero, List.getElem?_cons_succ, List.set_cons_zero, List.set_cons_succ, Option.some.injEq, exists_eq_left', exists_eq_left, if_true, sizeLine_eq, Nat.reduceLeDiff, Nat.reduceLT, Nat.zero_le, true_and, and_true, Bool.false_eq_true, if_false]
      rw [List.take_of_length_le hi] at hts
      intro h nh
      obtain ⟨hp, ha⟩ := sp10.ne nh
      have gh : g ≠ h := sne hg10 nh
      have sp10 : Spr S10 p a (n + 6100) := sp10.mono (by omega)
      clear hile
      obtain ⟨HS, eHS⟩ : ∃ HS : List Hd, HS = (("main" : Str), ([] : List Str)) :: hs := ⟨_, rfl⟩
      have H6 : HS.length ≤ 6 := by rw [eHS, List.length_cons]; omega
      have eH2 : [D.tup [D.str "main", D.tup []]] ++ hs.map hdD = HS.map hdD := by rw [eHS]; rfl
      have Hok : ∀ k ∈ HS, HdOk k := fun k hk => by
        rw [eHS] at hk
        rcases List.mem_cons.mp hk with rfl | hk
        · exact ⟨by unfold Nm; decide +kernel, by decide, List.nodup_nil, fun z hz => by cases hz⟩
        · exact hok k hk
      have Hnd : (HS.map (·.1)).Nodup := by
        rw [eHS, List.map_cons, hh]
        exact List.nodup_cons.mpr ⟨fun h => (cnok _ h).2 rfl, cnnd⟩
      have Hdr : HS.drop 1 = hs := by rw [eHS]; rfl
      refine add_f rfl rfl (by rw [List.length_map, sizeLine_eq]; simp; omega) ?_
      rw [eH2]
      refine ⟨_, rfl, fr_seq (fun i δ S' => ∃ (ps : List Pd) (r2 r9 r10 r11 r13 : Option D), δ = [some (.ref p), some (.fl (nm.map D.str)), r2, some (.fl (ks.map hdD)), some (.fl (cn.map D.str)), some (.fl (hs.map hdD)), some (.ref g), some (.fl (zs.map D.str)), some (.fl (us.map hdD)), r9, r10, r11, some (.ref h), r13] ∧ i ≤ HS.length ∧ ps.map (·.1) = HS.take i ∧ (∀ q ∈ ps, q.2.length ≤ 9 ∧ ∀ d ∈ q.2, RowA ks hs us (q.2.length : Nat) d) ∧ S' h = some (.lst (ps.map pcD)) ∧ S' g = some (.lst (ts.map tdD)) ∧ Spr S' p a (n + 6000 - 400 * i) ∧ (∀ b, b ≠ p → b ≠ a → b ≠ g → b ≠ h → S' b = S b)) ⟨[], _, _, _, _, _, rfl, Nat.zero_le _, rfl, fun q hq => (nomatch hq), up_same, by rw [up_ne gh]; exact hg10, (sp10.mono (by omega)).up hp ha, fun b b1 b2 b3 b4 => by rw [up_ne b4, of10 b b1 b2 b3]⟩ ?_ ?_⟩
      · rintro i x δ S11 hx ⟨ps, r2, r9, r10, r11, r13, rfl, _, hps, hok3, hh11, hg11, sp11, of11⟩
        obtain ⟨k, hki, rfl⟩ := map_at hx
        have hi := (List.getElem?_eq_some_iff.mp hki).1
        obtain ⟨q1, q2, q3, q4⟩ := Hok k (List.mem_of_getElem? hki)
        have lps : ps.length = i := by have := congrArg List.length hps; rw [List.length_map, List.length_take] at this; omega
        refine ⟨_, rfl, rfl, _, _, rfl, _, _, rfl, rfl, ?_⟩
        simp only [dVar, dC, dOp, dUn, dChain, dTr, dB, dAnd, dOr, dNot, dIf, dAndV, dOrV, dNotV, dNil, dCons, dTup, dLst, dLf, dNext, dSeq, dBreak, dCont, dDrop, dRet, dRetN, dIfS, gdName, gdNil, gdCons, gdTup, gdSub, dAsg, dPar, dCall, dCallK, dCB, dM0, dM, dGet1, dGet2, dDk, dDt, dPart, dNoPart, dSlice, dAug, dYes, dSort2, revD, iTupD, iLstD, iLf, iLw, iRange1, iRange2, iRange3, iEnumD, iZipD, iZipMD, iStrD, dGix, dDc, dIsi, dSortSet, dLenSet, dDlit, gdLst, dFor, dWhile, dLc, dLcM, dFld, dFldSet, dFldAdd, dMeth, dMake, dPar3, dDisp, dPrs, dFsi, dGget, dKgt, dKgtL, dCut, dTcut, wipeD, bodyE, startD, List.map_cons, List.map_nil, List.length_cons, List.length_nil, List.replicate_succ, List.replicate_zero, List.cons_append, List.nil_append, Nat.reduceAdd, Nat.reduceSub, Nat.zero_add, List.getElem?_cons_zero, List.getElem?_cons_succ, List.set_cons_zero, List.set_cons_succ, Option.some.injEq, exists_eq_left', exists_eq_left, if_true, sizeLine_eq, Nat.reduceLeDiff, Nat.reduceLT, Nat.zero_le, true_and, and_true, Bool.false_eq_true, if_false]
        refine ⟨p, a, n + 6000 - 400 * (i + 1), ks, hs, us, k.2, _, rfl, by omega, by omega, by omega, by omega, kok, hok, uok, q4, .inr rfl, sp11.mono (by omega), fun rs S12 rl hrs sp12 of12 => ?_⟩
        have hh12 : S12 h = some (.lst (ps.map pcD)) := by rw [of12 h hp ha]; exact hh11
        refine ⟨ty_l hh12, app_of hh12 (by rw [List.length_map, sizeLine_eq]; omega) ?_⟩
        refine ⟨ps ++ [(k, rs)], _, _, _, _, _, rfl, hi, by rw [List.map_append, hps, tk1 hki]; rfl, fun q hq => ?_, by rw [up_same, List.map_append]; rfl, by rw [up_ne gh, of12 g gp ga]; exact hg11, sp12.up hp ha, fun b b1 b2 b3 b4 => by rw [up_ne b4, of12 b b1 b2, of11 b b1 b2 b3 b4]⟩
        rcases List.mem_append.mp hq with h | h
        · exact hok3 q h
        · rw [List.mem_singleton.mp h]
          exact ⟨rl, fun d hd => (hrs d hd).1⟩
      · rintro i δ S11 hi ⟨ps, r2, r9, r10, r11, r13, rfl, hile, hps, hok3, hh11, hg11, sp11, of11⟩
        rw [List.length_map] at hi
        rw [List.take_of_length_le hi] at hps
        simp only [dVar, dC, dOp, dUn, dChain, dTr, dB, dAnd, dOr, dNot, dIf, dAndV, dOrV, dNotV, dNil, dCons, dTup, dLst, dLf, dNext, dSeq, dBreak, dCont, dDrop, dRet, dRetN, dIfS, gdName, gdNil, gdCons, gdTup, gdSub, dAsg, dPar, dCall, dCallK, dCB, dM0, dM, dGet1, dGet2, dDk, dDt, dPart, dNoPart, dSlice, dAug, dYes, dSort2, revD, iTupD, iLstD, iLf, iLw, iRange1, iRange2, iRange3, iEnumD, iZipD, iZipMD, iStrD, dGix, dDc, dIsi, dSortSet, dLenSet, dDlit, gdLst, dFor, dWhile, dLc, dLcM, dFld, dFldSet, dFldAdd, dMeth, dMake, dPar3, dDisp, dPrs, dFsi, dGget, dKgt, dKgtL, dCut, dTcut, wipeD, bodyE, startD, List.map_cons, List.map_nil, List.length_cons, List.length_nil, List.replicate_succ, List.replicate_zero, List.cons_append, List.nil_append, Nat.reduceAdd, Nat.reduceSub, Nat.zero_add, List.getElem?_cons_zero, List.getElem?_cons_succ, List.set_cons_zero, List.set_cons_succ, Option.some.injEq, exists_eq_left', exists_eq_left, if_true, sizeLine_eq, Nat.reduceLeDiff, Nat.reduceLT, Nat.zero_le, true_and, and_true, Bool.false_eq_true, if_false]
        have lts : ts.length ≤ 6 := by have := congrArg List.length hts; rw [List.length_map] at this; omega
        refine len_sq (sq_l hg11) (add_i ⟨p, a, n + 3000, _, rfl, by omega, by rw [List.length_map]; omega, sp11.mono (by omega), fun at9 S12 a0 a1 sp12 of12 => ?_⟩)
        obtain ⟨c, rfl⟩ : ∃ j : Nat, at9 = j := ⟨at9.toNat, by omega⟩
        have hh12 : S12 h = some (.lst (ps.map pcD)) := by rw [of12 h hp ha]; exact hh11
        have hg12 : S12 g = some (.lst (ts.map tdD)) := by rw [of12 g gp ga]; exact hg11
        have e1 : DL.cutD (ts.map tdD) (some (c : Int)) none = (ts.drop c).map tdD := by rw [cut_drop, List.map_drop]
        have e2 : DL.cutD (ts.map tdD) none (some (c : Int)) = (ts.take c).map tdD := by rw [cut_take, List.map_take]
        refine tpl_l rfl ⟨_, rfl, sl_f (ls_l hg12) ⟨_, rfl, sl_f (ls_l hg12) ?_⟩⟩
        rw [e1, e2]
        refine add_f rfl rfl (by rw [List.length_map, List.length_map, List.length_drop, List.length_take, sizeLine_eq]; omega) (tpl_l rfl (tpl_l (ls_l hh12) ?_))
        rw [← List.map_append]
        have pm : ∀ q, q ∈ ts.drop c ++ ts.take c ↔ q ∈ ts := fun q => by
          rw [List.mem_append, Or.comm, ← List.mem_append, List.take_append_drop]
        have um : ∀ q ∈ us, q ∈ (ts.drop c ++ ts.take c).map (·.1) := fun q hq => by
          rw [← hts] at hq
          obtain ⟨t, ht, e⟩ := List.mem_map.mp hq
          exact List.mem_map.mpr ⟨t, (pm t).mpr ht, e⟩
        have pg : SrG ks (ts.drop c ++ ts.take c) ps := by
          refine ⟨k3, fun k hk2 => ⟨kok k hk2, (knok k.1 (by rw [← hk]; exact List.mem_map_of_mem hk2)).2⟩, by rw [hk]; exact knnd, by rw [List.length_append, List.length_drop, List.length_take]; omega, fun q hq => ?_, ?_, ?_, by have := congrArg List.length hps; rw [List.length_map] at this; omega, fun q hq => ?_, ?_, by rw [hps, eHS]; rfl⟩
          · have hq := (pm q).mp hq
            obtain ⟨j, hj, ej⟩ := List.getElem_of_mem hq
            have hj2 : ts[j]? = some q := by rw [List.getElem?_eq_getElem hj, ej]
            obtain ⟨z1, z2, z3⟩ := hok2 j q hj2
            refine ⟨uok q.1 (by rw [← hts]; exact List.mem_map_of_mem hq), z1, z2, fun d hd => ⟨?_, (z3 d hd).2⟩⟩
            rw [hps, Hdr]
            exact (z3 d hd).1.sub fun x hx => um x (List.mem_of_mem_drop hx)
          · have e : (ts.map (·.1)).map (·.1) = ts.map (·.1.1) := by rw [List.map_map]; rfl
            have h1 : (ts.map (·.1.1)).Nodup := by rw [← e, hts]; exact und
            have h2 : ((ts.drop c ++ ts.take c).map (·.1.1)).Perm (ts.map (·.1.1)) := by
              refine List.Perm.map _ ?_
              have := List.perm_append_comm (l₁ := ts.drop c) (l₂ := ts.take c)
              rwa [List.take_append_drop] at this
            exact h2.nodup_iff.mpr h1
          · obtain ⟨f, hf⟩ := ord_ex und
            refine ⟨f, fun q hq d hd b hb => ?_⟩
            have hq := (pm q).mp hq
            obtain ⟨j, hj, ej⟩ := List.getElem_of_mem hq
            have hj2 : ts[j]? = some q := by rw [List.getElem?_eq_getElem hj, ej]
            have := ((hok2 j q hj2).2.2 d hd).1.2 b hb
            refine hf j q.1.1 b ?_ (by rw [← List.map_drop]; exact this)
            rw [← hts, List.getElem?_map, List.getElem?_map, hj2]
            rfl
          · obtain ⟨e1, e2⟩ := hok3 q hq
            refine ⟨Hok q.1 (by rw [← hps]; exact List.mem_map_of_mem hq), e1, fun d hd => ?_⟩
            rw [hps, Hdr]
            exact (e2 d hd).sub um
          · have e : ps.map (·.1.1) = (ps.map (·.1)).map (·.1) := by rw [List.map_map]; rfl
            rw [e, hps]
            exact Hnd
        have sub : DL.Sub (del (del S12 g) h) S12 := fun b o hb => sub_del b o (sub_del b o hb)
        refine rt_sub sub (q ks _ ps _ pg (((sp12.mono (by omega)).del gp ga).del hp ha) fun b b1 b2 => ?_)
        have ngS : S g = none := by rw [← of6 g gp ga]; exact ng
        have nhS : S h = none := by rw [← of10 h hp ha gh.symm]; exact nh
        by_cases bh : b = h
        · subst bh; rw [del_same, nhS]
        by_cases bg : b = g
        · subst bg
          rw [del_ne bh, del_same, ngS]
        rw [del_ne bh, del_ne bg, of12 b b1 b2, of11 b b1 b2 bg bh]
end K05

namespace K05
open PySem L2 PyProof.Rows DL
/-! ### values in a growing store -/
/-- the dicts of the store stay -/
def Ex (S S' : Sto) : Prop := ∀ x kvs, S x = some (.dk kvs) → S' x = some (.dk kvs)
theorem Ex.refl {S : Sto} : Ex S S := fun _ _ h => h
theorem Ex.trans {S S1 S2 : Sto} (h : Ex S S1) (k : Ex S1 S2) : Ex S S2 := fun x kvs e => k x kvs (h x kvs e)
theorem vok_ex {S S' : Sto} (h : Ex S S') {ls dd : Bool} {n : Nat} : ∀ {d : D}, vok S ls dd n d → vok S' ls dd n d ∧ pyOf S' d = pyOf S d := by
  intro d
  induction d using D.rec (motive_2 := fun xs => voks S ls dd n xs → voks S' ls dd n xs ∧ pyOfs S' xs = pyOfs S xs) with
  | «at» v =>
    intro k
    cases v with
    | ref a =>
      unfold vok at k ⊢
      unfold pyOf
      rcases k.2 with e | e
      · rw [h a _ e, e]; exact ⟨⟨k.1, .inl rfl⟩, rfl⟩
      · rw [h a _ e, e]; exact ⟨⟨k.1, .inr rfl⟩, rfl⟩
    | non => exact ⟨k, rfl⟩
    | bl b => exact ⟨k, rfl⟩
    | int i => exact ⟨k, rfl⟩
    | str z => exact ⟨k, rfl⟩
    | byt _ => unfold vok at k; exact k.elim
    | flt _ => unfold vok at k; exact k.elim
    | ty _ => unfold vok at k; exact k.elim
  | tup l ih =>
    intro k
    unfold vok at k ⊢
    unfold pyOf
    obtain ⟨a, b⟩ := ih k.2
    exact ⟨⟨k.1, a⟩, by rw [b]⟩
  | fl l ih =>
    intro k
    unfold vok at k ⊢
    unfold pyOf
    obtain ⟨a, b⟩ := ih k.2
    exact ⟨⟨k.1, a⟩, by rw [b]⟩
  | wt l ih => intro k; unfold vok at k; exact k.elim
  | nil => exact ⟨by unfold voks; trivial, by unfold pyOfs; rfl⟩
  | cons d ds ih ihs =>
    rename_i k
    unfold voks at k ⊢
    unfold pyOfs
    obtain ⟨a, b⟩ := ih k.1
    obtain ⟨c, e⟩ := ihs k.2
    exact ⟨⟨a, c⟩, by rw [b, e]⟩
theorem vok_le {S : Sto} {ls dd : Bool} {n m : Nat} (hn : n ≤ m) : ∀ {d : D}, vok S false false n d → vok S ls dd m d := by
  intro d
  induction d using D.rec (motive_2 := fun xs => voks S false false n xs → voks S ls dd m xs) with
  | «at» v =>
    intro k
    cases v with
    | ref a => unfold vok at k; cases k.1
    | non => exact k
    | bl b => exact k
    | int i => exact k
    | str z => exact k
    | byt _ => unfold vok at k; exact k.elim
    | flt _ => unfold vok at k; exact k.elim
    | ty _ => unfold vok at k; exact k.elim
  | tup l ih => intro k; unfold vok at k ⊢; exact ⟨Nat.le_trans k.1 hn, ih k.2⟩
  | fl l ih => intro k; unfold vok at k; cases k.1
  | wt l ih => intro k; unfold vok at k; exact k.elim
  | nil => unfold voks; trivial
  | cons d ds ih ihs =>
    rename_i k
    unfold voks at k ⊢
    exact ⟨ih k.1, ihs k.2⟩
/-- data that can be shown, of that depth and weight -/
def Bt (S : Sto) (k w : Nat) (d : D) : Prop := ∃ ls dd, (ls && dd) = false ∧ vok S ls dd 1000 d ∧ (pyOf S d).depth ≤ k ∧ (pyOf S d).weight ≤ w
theorem Bt.ex {S S' : Sto} {k w : Nat} {d : D} (h : Bt S k w d) (e : Ex S S') : Bt S' k w d := by
  obtain ⟨ls, dd, h1, h2, h3, h4⟩ := h
  obtain ⟨a, b⟩ := vok_ex e h2
  exact ⟨ls, dd, h1, a, by rw [b]; exact h3, by rw [b]; exact h4⟩
theorem Bt.mono {S : Sto} {k w k' w' : Nat} {d : D} (h : Bt S k w d) (a : k ≤ k') (b : w ≤ w') : Bt S k' w' d := by
  obtain ⟨ls, dd, h1, h2, h3, h4⟩ := h
  exact ⟨ls, dd, h1, h2, Nat.le_trans h3 a, Nat.le_trans h4 b⟩
theorem Bt.ok {S : Sto} {k w : Nat} {d : D} (h : Bt S k w d) (a : k ≤ 60) (b : w ≤ 300000) : Ok S d := h.mono a b
theorem Tp.bt {S : Sto} {k w : Nat} {d : D} (h : Tp k w d) : Bt S k w d := ⟨false, false, rfl, vok_le (by decide) (h.v S), h.k S, h.w S⟩
/-- what stands at other places stays; more may have come -/
def Ofx (p a : Addr) (S S' : Sto) : Prop := ∀ b o, b ≠ p → b ≠ a → S b = some o → S' b = some o
theorem Ofx.refl {p a : Addr} {S : Sto} : Ofx p a S S := fun _ _ _ _ h => h
theorem Ofx.trans {p a : Addr} {S S1 S2 : Sto} (h : Ofx p a S S1) (k : Ofx p a S1 S2) : Ofx p a S S2 := fun b o h1 h2 e => k b o h1 h2 (h b o h1 h2 e)
theorem Off.x {p a : Addr} {S S' : Sto} (h : Off p a S S') : Ofx p a S S' := fun b o h1 h2 e => by rw [h b h1 h2]; exact e
theorem Ofx.up {p a x : Addr} {S S' : Sto} {o : MO} (h : Ofx p a S S') (hx : S' x = none) : Ofx p a S (up S' x o) := fun b o' h1 h2 e => by
  have := h b o' h1 h2 e
  have ne : b ≠ x := fun z => by subst z; rw [this] at hx; cases hx
  rw [up_ne ne]; exact this
theorem Ofx.ex {p a : Addr} {S S' : Sto} {n : Nat} (s : Spr S p a n) (h : Ofx p a S S') : Ex S S' := fun x kvs e => by
  obtain ⟨ms, m, c, k1, k2, _⟩ := s
  exact h x _ (fun z => by subst z; rw [k1] at e; cases e) (fun z => by subst z; rw [k2] at e; cases e) e
/-! ### values that stand written -/
mutual
def okb (ls : Bool) : D → Bool
  | .at .non => true
  | .at (.bl _) => true
  | .at (.int i) => decide (i.natAbs.log2 < 1900) && decide ((PyData.shown (.int i)).length ≤ 41)
  | .at (.str s) => PyData.strOk s && decide (s.length ≤ 64)
  | .at _ => false
  | .tup l => decide (l.length ≤ 1000) && okbs ls l
  | .wt _ => false
  | .fl l => ls && okbs ls l
def okbs (ls : Bool) : List D → Bool
  | [] => true
  | d :: ds => okb ls d && okbs ls ds
end
theorem okb_ok {S : Sto} {ls : Bool} : ∀ {d : D}, okb ls d = true → vok S ls false 1000 d ∧ pyOf S d = toPy d := by
  intro d
  induction d using D.rec (motive_2 := fun xs => okbs ls xs = true → voks S ls false 1000 xs ∧ pyOfs S xs = toPys xs) with
  | «at» v =>
    intro k
    cases v with
    | ref a => unfold okb at k; cases k
    | non => unfold vok pyOf toPy; exact ⟨trivial, rfl⟩
    | bl b => unfold vok pyOf toPy; exact ⟨trivial, rfl⟩
    | int i =>
      unfold okb at k
      unfold vok pyOf toPy
      simp only [Bool.and_eq_true] at k
      exact ⟨⟨of_decide_eq_true k.1, of_decide_eq_true k.2⟩, rfl⟩
    | str z =>
      unfold okb at k
      unfold vok pyOf toPy
      simp only [Bool.and_eq_true] at k
      exact ⟨⟨k.1, of_decide_eq_true k.2⟩, rfl⟩
    | byt _ => unfold okb at k; cases k
    | flt _ => unfold okb at k; cases k
    | ty _ => unfold okb at k; cases k
  | tup l ih =>
    intro k
    unfold okb at k
    unfold vok pyOf toPy
    simp only [Bool.and_eq_true] at k
    obtain ⟨a, b⟩ := ih k.2
    exact ⟨⟨of_decide_eq_true k.1, a⟩, by rw [b]⟩
  | fl l ih =>
    intro k
    unfold okb at k
    unfold vok pyOf toPy
    simp only [Bool.and_eq_true] at k
    obtain ⟨a, b⟩ := ih k.2
    exact ⟨⟨k.1, a⟩, by rw [b]⟩
  | wt l ih => intro k; unfold okb at k; cases k
  | nil => unfold voks pyOfs toPys; exact ⟨trivial, rfl⟩
  | cons d ds ih ihs =>
    rename_i k
    unfold okbs at k
    unfold voks pyOfs toPys
    simp only [Bool.and_eq_true] at k
    obtain ⟨a, b⟩ := ih k.1
    obtain ⟨c, e⟩ := ihs k.2
    exact ⟨⟨a, c⟩, by rw [b, e]⟩
def chk (k w : Nat) (d : D) : Bool := okb true d && decide ((toPy d).depth ≤ k) && decide ((toPy d).weight ≤ w)
theorem bt_of {S : Sto} {k w : Nat} {d : D} (h : chk k w d = true) : Bt S k w d := by
  unfold chk at h
  simp only [Bool.and_eq_true] at h
  obtain ⟨a, b⟩ := okb_ok (S := S) h.1.1
  exact ⟨true, false, rfl, a, by rw [b]; exact of_decide_eq_true h.1.2, by rw [b]; exact of_decide_eq_true h.2⟩
theorem bt_dk {S : Sto} {x : Addr} (h : S x = some (.dk []) ∨ S x = some (.dk dcA)) : Bt S 3 140 (.ref x) := by
  refine ⟨false, true, rfl, by unfold vok; exact ⟨rfl, h⟩, ?_, ?_⟩ <;> unfold pyOf <;> rcases h with e | e <;> rw [e] <;> decide +kernel
/-! ### items of tuples -/
/-- items: tuples alone, their depth, what they weigh together -/
structure Tl (k w : Nat) (ds : List D) : Prop where
  v : ∀ S, voks S false false 900 ds
  k : ∀ S, PyData.depthAll (pyOfs S ds) ≤ k
  w : ∀ S, PyData.weightAll (pyOfs S ds) ≤ w
theorem Tp.tl {k w : Nat} {ds : List D} (h : Tp k w (.tup ds)) : ∃ k0, k = k0 + 1 ∧ Tl k0 w ds ∧ ds.length ≤ 900 := by
  have h0 := h.k (fun _ => none)
  have h9 := h.v (fun _ => none)
  unfold pyOf at h0
  simp only [PyData.depth] at h0
  unfold vok at h9
  refine ⟨k - 1, by omega, ⟨fun S => ?_, fun S => ?_, fun S => ?_⟩, h9.1⟩
  · have := h.v S; unfold vok at this; exact this.2
  · have := h.k S; unfold pyOf at this; simp only [PyData.depth] at this; omega
  · have := h.w S; unfold pyOf at this; simp only [PyData.weight] at this; exact this
theorem Tl.tp {k w : Nat} {ds : List D} (h : Tl k w ds) (hl : ds.length ≤ 900) : Tp (k + 1) w (.tup ds) := by
  refine ⟨fun S => ?_, fun S => ?_, fun S => ?_⟩
  · unfold vok; exact ⟨hl, h.v S⟩
  · unfold pyOf; simp only [PyData.depth]; have := h.k S; omega
  · unfold pyOf; simp only [PyData.weight]; exact h.w S
theorem Tl.mono {k w k' w' : Nat} {ds : List D} (h : Tl k w ds) (a : k ≤ k') (b : w ≤ w') : Tl k' w' ds := ⟨h.v, fun S => Nat.le_trans (h.k S) a, fun S => Nat.le_trans (h.w S) b⟩
theorem py_cons (S : Sto) (x : D) (xs : List D) : pyOfs S (x :: xs) = pyOf S x :: pyOfs S xs := by rw [pyOfs]
theorem py_nil (S : Sto) : pyOfs S [] = [] := by rw [pyOfs]
theorem dw_app (S : Sto) : ∀ xs ys : List D, PyData.depthAll (pyOfs S (xs ++ ys)) = max (PyData.depthAll (pyOfs S xs)) (PyData.depthAll (pyOfs S ys)) ∧ PyData.weightAll (pyOfs S (xs ++ ys)) = PyData.weightAll (pyOfs S xs) + PyData.weightAll (pyOfs S ys)
  | [], ys => by
    have e : pyOfs S [] = [] := by unfold pyOfs; rfl
    rw [e, List.nil_append]
    simp only [PyData.depthAll, PyData.weightAll]
    omega
  | x :: xs, ys => by
    obtain ⟨a, b⟩ := dw_app S xs ys
    rw [List.cons_append, py_cons, py_cons]
    simp only [PyData.depthAll, PyData.weightAll, a, b]
    omega
theorem Tl.app {k w1 w2 : Nat} {xs ys : List D} (h : Tl k w1 xs) (g : Tl k w2 ys) : Tl k (w1 + w2) (xs ++ ys) := by
  refine ⟨fun S => voks_iff.mpr fun x hx => (List.mem_append.mp hx).elim (voks_iff.mp (h.v S) x) (voks_iff.mp (g.v S) x), fun S => ?_, fun S => ?_⟩ <;> obtain ⟨a, b⟩ := dw_app S xs ys
  · rw [a]; have := h.k S; have := g.k S; omega
  · rw [b]; have := h.w S; have := g.w S; omega
theorem Tl.one {k w : Nat} {d : D} (h : Tp k w d) : Tl k (w + 1) [d] := by
  refine ⟨fun S => voks_iff.mpr fun x hx => by rw [List.mem_singleton.mp hx]; exact h.v S, fun S => ?_, fun S => ?_⟩ <;> unfold pyOfs pyOfs
  · simp only [PyData.depthAll]; have := h.k S; omega
  · simp only [PyData.weightAll]; have := h.w S; omega
theorem Tl.nil {k w : Nat} : Tl k w [] := by
  refine ⟨fun S => by unfold voks; trivial, fun S => ?_, fun S => ?_⟩ <;> unfold pyOfs <;> exact Nat.zero_le _
theorem Tl.sub {k w : Nat} {xs ys : List D} (s : List.Sublist xs ys) (h : Tl k w ys) : Tl k w xs := by
  have key : ∀ S, PyData.depthAll (pyOfs S xs) ≤ PyData.depthAll (pyOfs S ys) ∧ PyData.weightAll (pyOfs S xs) ≤ PyData.weightAll (pyOfs S ys) := fun S => by
    clear h
    induction s with
    | slnil => exact ⟨Nat.le_refl _, Nat.le_refl _⟩
    | cons a s ih =>
      rw [py_cons]
      simp only [PyData.depthAll, PyData.weightAll]
      omega
    | cons_cons a s ih =>
      rw [py_cons, py_cons]
      simp only [PyData.depthAll, PyData.weightAll]
      omega
  exact ⟨fun S => voks_iff.mpr fun x hx => voks_iff.mp (h.v S) x (s.subset hx), fun S => Nat.le_trans (key S).1 (h.k S), fun S => Nat.le_trans (key S).2 (h.w S)⟩
theorem Tl.at_ {k w : Nat} {ds : List D} {d : D} (h : Tl k w ds) (hd : d ∈ ds) : Tp k w d := by
  have s : List.Sublist [d] ds := List.singleton_sublist.mpr hd
  have g := h.sub s
  refine ⟨fun S => voks_iff.mp (g.v S) d (by simp), fun S => ?_, fun S => ?_⟩
  · have := g.k S; unfold pyOfs at this; simp only [PyData.depthAll] at this; omega
  · have := g.w S; unfold pyOfs at this; simp only [PyData.weightAll] at this; omega
/-- one value among items -/
theorem Bt.ins {S : Sto} {k w w2 : Nat} {xs ys : List D} {d : D} (h : Tl k w (xs ++ ys)) (hl : xs.length + ys.length < 1000) (hd : Bt S k w2 d) : Bt S (k + 1) (w + w2 + 1) (.tup (xs ++ [d] ++ ys)) := by
  obtain ⟨ls, dd, h1, h2, h3, h4⟩ := hd
  have hv := voks_iff.mp (h.v S)
  obtain ⟨a1, b1⟩ := dw_app S xs ys
  obtain ⟨a2, b2⟩ := dw_app S (xs ++ [d]) ys
  obtain ⟨a3, b3⟩ := dw_app S xs [d]
  have e1 : PyData.depthAll (pyOfs S [d]) = (pyOf S d).depth := by rw [py_cons, py_nil]; simp only [PyData.depthAll]; omega
  have e2 : PyData.weightAll (pyOfs S [d]) = (pyOf S d).weight + 1 := by rw [py_cons, py_nil]; simp only [PyData.weightAll]
  have k0 := h.k S
  have w0 := h.w S
  refine ⟨ls, dd, h1, ?_, ?_, ?_⟩
  · unfold vok
    refine ⟨by simp only [List.length_append, List.length_singleton]; omega, voks_iff.mpr fun x hx => ?_⟩
    rcases List.mem_append.mp hx with hx | hx
    · rcases List.mem_append.mp hx with hx | hx
      · exact vok_le (by decide) (hv x (List.mem_append_left _ hx))
      · rw [List.mem_singleton.mp hx]; exact h2
    · exact vok_le (by decide) (hv x (List.mem_append_right _ hx))
  · unfold pyOf; simp only [PyData.depth]; omega
  · unfold pyOf; simp only [PyData.weight]; omega
theorem bt_list {S : Sto} {k w : Nat} {ds : List D} (h : Tl k w ds) : Bt S (k + 1) w (.fl ds) := by
  refine ⟨true, false, rfl, ?_, ?_, ?_⟩
  · unfold vok
    exact ⟨rfl, voks_iff.mpr fun x hx => vok_le (by decide) (voks_iff.mp (h.v S) x hx)⟩
  · unfold pyOf; simp only [PyData.depth]; have := h.k S; omega
  · unfold pyOf; simp only [PyData.weight]; exact h.w S
theorem td_sub {α : Type} (ds : List α) (i : Nat) : List.Sublist (ds.take i ++ ds.drop (i + 1)) ds := by
  have := (List.Sublist.refl (ds.take i)).append (List.drop_sublist_drop_left ds (show i ≤ i + 1 by omega))
  rwa [List.take_append_drop] at this
end K05


namespace K05
open PySem L2 PyProof.Rows DL
/-! ### values, rows by hand, bent ones -/
theorem neg_i {i : Int} {S : Sto} {Q : KD} (q : Q (.int (-i)) S) : negD (.int i) S Q := q
def sp__law_value : SpD := fun ds S Q _ => ∃ (p a : Addr) (n : Nat), ds = [.ref p] ∧ Spr S p a (n + 1) ∧ ∀ d S', Bt S' 3 140 d → Spr S' p a n → Ofx p a S S' → Q d S'
theorem ok__law_value {P : Program} {w : World} {K : PySem.W.Frag} {mg : Str → Option Value} {base : Heap} (T : Txt K w mg) (C__law_one_of : Cal P w K mg base 2 "_law_one_of" s__law_one_of ["spring", "items"] sp__law_one_of) {ff : Addr} {fd : FuncData} (F : Fun K "_law_value" "_law_value" s__law_value ff fd) (mf : mg "_law_value" = some (.ref ff)) : Cal P w K mg base 3 "_law_value" s__law_value ["spring"] sp__law_value := by
  refine ⟨ff, fd, okD F sc__law_value (fun ds S Q E h => ?len) (fun cdv A outer s H E ds S Q E' hcd hr h => ⟨_, (dss_cons (ds_set 1 sc__law_value.nd (de_lf (da_cons de_non (da_cons de_bl (da_cons de_bl (da_cons de_int (da_cons de_int (da_cons (de_un ud_neg de_int) (da_cons de_int (da_cons de_int (da_cons (de_op od_pow de_int de_int) (da_cons de_str (da_cons de_str (da_cons de_str (da_cons de_str (da_cons de_str (da_cons de_str (da_cons de_str da_nil))))))))))))))))))
      (dss_cons (ds_set 1 sc__law_value.nd (de_op (od_add false) (de_var 1) (de_lf (da_cons de_str (da_cons de_str (da_cons de_str (da_cons de_str (da_cons (de_tup da_nil) (da_cons (de_tup (da_cons de_str da_nil)) (da_cons (de_tup (da_cons de_str (da_cons de_str da_nil))) (da_cons (de_lf da_nil) (da_cons (de_lf (da_cons de_str da_nil)) (da_cons de_dk (da_cons (de_dlit [(.inr "a", .int 1)] (pps_cons pe_str pe_int pps_nil)) (da_cons (de_tup (da_cons de_str (da_cons de_int da_nil))) da_nil)))))))))))))))
      (dss_cons (ds_set 1 sc__law_value.nd (de_op (od_add false) (de_var 1) (de_lf (da_cons (de_tup (da_cons de_str (da_cons (de_un ud_neg de_int) da_nil))) (da_cons (de_tup (da_cons de_str da_nil)) (da_cons (de_tup (da_cons de_str (da_cons de_int (da_cons de_int da_nil)))) (da_cons (de_tup (da_cons de_str (da_cons de_str da_nil))) (da_cons (de_lf (da_cons de_str (da_cons de_str da_nil))) (da_cons (de_tup (da_cons de_str (da_cons de_str (da_cons de_str (da_cons (de_tup da_nil) da_nil))))) da_nil)))))))))
      (dss_cons (ds_set 1 sc__law_value.nd (de_op (od_add false) (de_var 1) (de_lf (da_cons (de_tup (da_cons de_str (da_cons de_str (da_cons de_str (da_cons de_str da_nil))))) (da_cons (de_tup (da_cons de_str (da_cons de_str (da_cons de_str (da_cons de_bl da_nil))))) (da_cons (de_tup (da_cons de_str (da_cons de_str (da_cons de_str (da_cons (de_tup da_nil) da_nil))))) (da_cons (de_tup (da_cons de_str (da_cons de_str (da_cons de_str (da_cons de_int da_nil))))) da_nil)))))))
      (dss_cons (ds_set 1 sc__law_value.nd (de_op (od_add false) (de_var 1) (de_lf (da_cons (de_tup (da_cons de_str (da_cons de_non da_nil))) (da_cons (de_tup (da_cons de_str (da_cons de_non da_nil))) (da_cons (de_tup (da_cons de_str (da_cons de_str da_nil))) (da_cons (de_tup (da_cons de_str (da_cons de_non (da_cons de_str da_nil)))) (da_cons (de_tup (da_cons de_str (da_cons de_str (da_cons de_str (da_cons (de_tup da_nil) da_nil))))) da_nil))))))))
      (dss_one (ds_ret (de_c C__law_one_of hr (da_cons (de_var 0) (da_cons (de_op (od_add false) (de_var 1) (de_lf (da_cons (de_tup (da_cons de_str (da_cons de_str (da_cons de_int da_nil)))) (da_cons (de_tup (da_cons de_str (da_cons de_str (da_cons de_bl da_nil)))) (da_cons (de_tup (da_cons de_str (da_cons de_str (da_cons de_str (da_cons de_int da_nil))))) da_nil))))) da_nil)))))))))), ?run⟩), F.binds (ps := ["spring"]) fun _ _ _ _ _ _ us hl => match us, hl with | [_], _ => rfl, mf, F⟩
  case len => obtain ⟨p, a, n, rfl, _⟩ := h; rfl
  case run =>
    obtain ⟨p, a, n, rfl, sp, q⟩ := h
    dsimp only [dVar, dC, dOp, dUn, dChain, dTr, dB, dAnd, dOr, dNot, dIf, dAndV, dOrV, dNotV, dNil, dCons, dTup, dLst, dLf, dNext, dSeq, dBreak, dCont, dDrop, dRet, dRetN, dIfS, gdName, gdNil, gdCons, gdTup, gdSub, dAsg, dPar, dCall, dCallK, dCB, dM0, dM, dGet1, dGet2, dDk, dDt, dPart, dNoPart, dSlice, dAug, dYes, dSort2, revD, iTupD, iLstD, iLf, iLw, iRange1, iRange2, iRange3, iEnumD, iZipD, iZipMD, iStrD, dGix, dDc, dIsi, dSortSet, dLenSet, dDlit, gdLst, dFor, dWhile, dLc, dLcM, dFld, dFldSet, dFldAdd, dMeth, dMake, dPar3, dDisp, dPrs, dFsi, dGget, dKgt, dKgtL, dCut, dTcut, wipeD, bodyE, startD, List.map_cons, List.map_nil, List.length_cons, List.length_nil, List.replicate_succ, List.replicate_zero, List.cons_append, List.nil_append, Nat.reduceAdd, Nat.reduceSub, Nat.zero_add, List.getElem?_cons_zero, List.getElem?_cons_succ, List.set_cons_zero, List.set_cons_succ, Option.some.injEq, exists_eq_left', exists_eq_left, if_true]
    simp only [dVar, dC, dOp, dUn, dChain, dTr, dB, dAnd, dOr, dNot, dIf, dAndV, dOrV, dNotV, dNil, dCons, dTup, dLst, dLf, dNext, dSeq, dBreak, dCont, dDrop, dRet, dRetN, dIfS, gdName, gdNil, gdCons, gdTup, gdSub, dAsg, dPar, dCall, dCallK, dCB, dM0, dM, dGet1, dGet2, dDk, dDt, dPart, dNoPart, dSlice, dAug, dYes, dSort2, revD, iTupD, iLstD, iLf, iLw, iRange1, iRange2, iRange3, iEnumD, iZipD, iZipMD, iStrD, dGix, dDc, dIsi, dSortSet, dLenSet, dDlit, gdLst, dFor, dWhile, dLc, dLcM, dFld, dFldSet, dFldAdd, dMeth, dMake, dPar3, dDisp, dPrs, dFsi, dGget, dKgt, dKgtL, dCut, dTcut, wipeD, bodyE, startD, List.map_cons, List.map_nil, List.length_cons, List.length_nil, List.replicate_succ, List.replicate_zero, List.cons_append, List.nil_append, Nat.reduceAdd, Nat.reduceSub, Nat.zero_add, List.getElem?_cons_zero, List.getElem?_cons_succ, List.set_cons_zero, List.set_cons_succ, Option.some.injEq, exists_eq_left', exists_eq_left, if_true, sizeLine_eq, Nat.reduceLeDiff, Nat.reduceLT, Nat.zero_le, true_and, and_true, Bool.false_eq_true, if_false]
    refine neg_i (it_of ⟨by decide, by decide, by decide⟩ ?_)
    intro p1 n1 p2 n2
    obtain ⟨n21, n22⟩ := up_non n2
    repeat' first | refine neg_i ?_ | refine add_f rfl rfl (by rw [sizeLine_eq]; exact Nat.le_of_ble_eq_true rfl) ?_
    obtain ⟨u1, u2⟩ := sp.ne n1
    obtain ⟨u3, u4⟩ := sp.ne n22
    refine ⟨p, a, n, _, rfl, (sp.up u1 u2).up u3 u4, .inl ⟨_, rfl, by simp, by simp, fun x S' hx sp' off => rt_of ?_⟩⟩
    have of9 : Ofx p a S S' := ((Ofx.refl.up n1).up n2).trans off.x
    have h1 : S' p1 = some (.dk []) := by rw [off p1 u1 u2, up_ne n21.symm, up_same]
    have h2 : S' p2 = some (.dk dcA) := by rw [off p2 u3 u4, up_same]; rfl
    refine q x S' ?_ sp' of9
    clear q off of9 sp sp'
    simp only [List.mem_append, List.mem_cons, List.not_mem_nil, or_false] at hx
    repeat' (refine Or.elim hx ?_ ?_ <;> clear hx <;> intro hx)
    all_goals subst hx
    all_goals first
      | exact bt_of (by decide +kernel)
      | exact bt_dk (.inl h1)
      | exact bt_dk (.inr h2)
def sp__law_odd_rows : SpD := fun ds S Q _ => ds = [] ∧ ∀ xs : List D, xs.length ≤ 100 → (∀ x ∈ xs, chk 3 100 x = true) → Q (.fl xs) S
theorem ok__law_odd_rows {P : Program} {w : World} {K : PySem.W.Frag} {mg : Str → Option Value} {base : Heap} (T : Txt K w mg)  {ff : Addr} {fd : FuncData} (F : Fun K "_law_odd_rows" "_law_odd_rows" s__law_odd_rows ff fd) (mf : mg "_law_odd_rows" = some (.ref ff)) : Cal P w K mg base 1 "_law_odd_rows" s__law_odd_rows [] sp__law_odd_rows := by
  refine ⟨ff, fd, okD F sc__law_odd_rows (fun ds S Q E h => ?len) (fun cdv A outer s H E ds S Q E' hcd hr h => ⟨_, (dss_cons (ds_set 0 sc__law_odd_rows.nd (de_lf (da_cons (de_tup (da_cons de_str (da_cons de_str (da_cons de_int da_nil)))) (da_cons (de_tup (da_cons de_str (da_cons de_str (da_cons de_bl da_nil)))) (da_cons (de_tup (da_cons de_str (da_cons de_str (da_cons (de_un ud_neg de_int) da_nil)))) (da_cons (de_tup (da_cons de_str (da_cons de_str (da_cons de_non da_nil)))) (da_cons (de_tup (da_cons de_str (da_cons de_bl da_nil))) da_nil)))))))
      (dss_cons (ds_set 0 sc__law_odd_rows.nd (de_op (od_add false) (de_var 0) (de_lf (da_cons (de_tup (da_cons de_str (da_cons de_int da_nil))) (da_cons (de_tup (da_cons de_str (da_cons (de_un ud_neg de_int) da_nil))) (da_cons (de_tup (da_cons de_str (da_cons de_int (da_cons de_int da_nil)))) (da_cons (de_tup (da_cons de_str da_nil)) (da_cons (de_tup (da_cons de_str (da_cons de_non da_nil))) (da_cons (de_tup (da_cons de_str (da_cons de_str (da_cons de_str (da_cons de_bl da_nil))))) da_nil)))))))))
      (dss_cons (ds_set 0 sc__law_odd_rows.nd (de_op (od_add false) (de_var 0) (de_lf (da_cons (de_tup (da_cons de_str (da_cons de_str (da_cons de_str (da_cons de_int da_nil))))) (da_cons (de_tup (da_cons de_str (da_cons de_str (da_cons de_non (da_cons de_int da_nil))))) (da_cons (de_tup (da_cons de_str (da_cons de_int (da_cons de_str (da_cons de_int da_nil))))) (da_cons (de_tup (da_cons de_str (da_cons de_str (da_cons de_str da_nil)))) da_nil)))))))
      (dss_cons (ds_set 0 sc__law_odd_rows.nd (de_op (od_add false) (de_var 0) (de_lf (da_cons (de_tup (da_cons de_str (da_cons de_str (da_cons de_str (da_cons de_int da_nil))))) (da_cons (de_tup (da_cons de_str (da_cons de_str (da_cons de_str (da_cons de_bl da_nil))))) (da_cons (de_tup (da_cons de_str (da_cons de_str (da_cons de_non (da_cons de_int da_nil))))) (da_cons (de_tup (da_cons de_str (da_cons de_str (da_cons de_str (da_cons de_int da_nil))))) da_nil)))))))
      (dss_cons (ds_set 0 sc__law_odd_rows.nd (de_op (od_add false) (de_var 0) (de_lf (da_cons (de_tup (da_cons de_str (da_cons de_non (da_cons de_str da_nil)))) (da_cons (de_tup (da_cons de_str (da_cons de_str (da_cons de_int da_nil)))) (da_cons (de_tup (da_cons de_str (da_cons de_str da_nil))) (da_cons (de_tup (da_cons de_str (da_cons de_non da_nil))) (da_cons (de_tup (da_cons de_str (da_cons de_str da_nil))) da_nil))))))))
      (dss_cons (ds_set 0 sc__law_odd_rows.nd (de_op (od_add false) (de_var 0) (de_lf (da_cons (de_tup (da_cons de_str (da_cons de_non da_nil))) (da_cons (de_tup (da_cons de_str (da_cons de_str da_nil))) (da_cons (de_tup (da_cons de_str (da_cons de_str (da_cons de_str da_nil)))) (da_cons (de_tup (da_cons de_str (da_cons de_non da_nil))) (da_cons (de_tup (da_cons de_str (da_cons de_int da_nil))) (da_cons (de_tup (da_cons de_str da_nil)) da_nil)))))))))
      (dss_cons (ds_set 0 sc__law_odd_rows.nd (de_op (od_add false) (de_var 0) (de_lf (da_cons (de_tup (da_cons de_str (da_cons de_str (da_cons de_str (da_cons de_int da_nil))))) (da_cons (de_tup (da_cons de_str (da_cons de_non (da_cons de_str (da_cons de_str da_nil))))) (da_cons (de_tup (da_cons de_str (da_cons de_str (da_cons de_str (da_cons de_non da_nil))))) da_nil))))))
      (dss_cons (ds_set 0 sc__law_odd_rows.nd (de_op (od_add false) (de_var 0) (de_lf (da_cons (de_tup (da_cons de_str (da_cons de_str (da_cons de_str (da_cons de_str da_nil))))) (da_cons (de_tup (da_cons de_str (da_cons de_non (da_cons de_str (da_cons de_str da_nil))))) da_nil)))))
      (dss_cons (ds_set 0 sc__law_odd_rows.nd (de_op (od_add false) (de_var 0) (de_lf (da_cons (de_tup (da_cons de_str (da_cons de_non (da_cons de_str (da_cons (de_tup (da_cons de_str da_nil)) da_nil))))) (da_cons (de_tup (da_cons de_str (da_cons de_str (da_cons de_str (da_cons (de_tup da_nil) da_nil))))) (da_cons (de_tup (da_cons de_str (da_cons de_str (da_cons de_str (da_cons (de_tup (da_cons de_str (da_cons de_str da_nil))) da_nil))))) da_nil))))))
      (dss_cons (ds_set 0 sc__law_odd_rows.nd (de_op (od_add false) (de_var 0) (de_lf (da_cons (de_tup (da_cons de_str (da_cons de_str (da_cons de_str (da_cons (de_lf (da_cons de_str da_nil)) da_nil))))) (da_cons (de_tup (da_cons de_str (da_cons de_str (da_cons de_str (da_cons (de_tup (da_cons de_non da_nil)) da_nil))))) (da_cons (de_tup (da_cons de_str (da_cons de_str (da_cons de_str (da_cons (de_tup (da_cons de_str da_nil)) da_nil))))) da_nil))))))
      (dss_cons (ds_set 0 sc__law_odd_rows.nd (de_op (od_add false) (de_var 0) (de_lf (da_cons (de_tup (da_cons de_str (da_cons de_str (da_cons de_str (da_cons de_str da_nil))))) (da_cons (de_tup (da_cons de_str (da_cons de_str da_nil))) (da_cons (de_tup (da_cons de_str (da_cons de_int da_nil))) (da_cons (de_tup (da_cons de_str da_nil)) (da_cons (de_tup (da_cons de_str (da_cons de_str (da_cons de_str da_nil)))) da_nil))))))))
      (dss_cons (ds_set 0 sc__law_odd_rows.nd (de_op (od_add false) (de_var 0) (de_lf (da_cons (de_tup (da_cons de_str (da_cons de_str (da_cons de_str (da_cons (de_tup da_nil) da_nil))))) (da_cons (de_tup (da_cons de_str (da_cons de_str (da_cons de_str (da_cons (de_tup da_nil) da_nil))))) (da_cons (de_tup (da_cons de_str (da_cons de_int (da_cons de_str (da_cons (de_tup (da_cons de_str da_nil)) da_nil))))) (da_cons (de_tup (da_cons de_str (da_cons de_str (da_cons de_str (da_cons de_str da_nil))))) da_nil)))))))
      (dss_cons (ds_set 0 sc__law_odd_rows.nd (de_op (od_add false) (de_var 0) (de_lf (da_cons (de_tup (da_cons de_str (da_cons de_non (da_cons de_str (da_cons (de_tup (da_cons de_str da_nil)) da_nil))))) (da_cons (de_tup (da_cons de_str (da_cons de_str (da_cons de_str (da_cons (de_lf (da_cons de_str da_nil)) da_nil))))) (da_cons (de_tup (da_cons de_str (da_cons de_str (da_cons de_non (da_cons (de_tup (da_cons de_str da_nil)) da_nil))))) da_nil))))))
      (dss_cons (ds_set 0 sc__law_odd_rows.nd (de_op (od_add false) (de_var 0) (de_lf (da_cons (de_tup (da_cons de_str (da_cons de_str (da_cons de_str (da_cons (de_tup (da_cons de_str da_nil)) da_nil))))) (da_cons (de_lf (da_cons de_str (da_cons de_str da_nil))) (da_cons (de_tup (da_cons de_str (da_cons de_str da_nil))) (da_cons (de_tup da_nil) (da_cons (de_tup (da_cons de_str da_nil)) (da_cons (de_tup (da_cons de_non (da_cons de_str da_nil))) (da_cons de_str (da_cons de_non da_nil)))))))))))
      (dss_cons (ds_set 0 sc__law_odd_rows.nd (de_op (od_add false) (de_var 0) (de_lf (da_cons (de_tup (da_cons de_str (da_cons de_int da_nil))) (da_cons (de_tup (da_cons de_str (da_cons de_int da_nil))) (da_cons (de_tup (da_cons de_str (da_cons de_str (da_cons de_str (da_cons de_int da_nil))))) (da_cons (de_tup (da_cons de_str (da_cons de_str (da_cons de_str (da_cons de_int da_nil))))) (da_cons (de_tup (da_cons de_str (da_cons de_str (da_cons de_str (da_cons de_int da_nil))))) da_nil))))))))
      (dss_cons (ds_set 0 sc__law_odd_rows.nd (de_op (od_add false) (de_var 0) (de_lf (da_cons (de_tup (da_cons de_str (da_cons de_str (da_cons de_str (da_cons de_int da_nil))))) (da_cons (de_tup (da_cons de_str (da_cons de_str (da_cons de_str (da_cons de_int da_nil))))) (da_cons (de_tup (da_cons de_str (da_cons de_str (da_cons de_int da_nil)))) (da_cons (de_tup (da_cons de_str (da_cons de_str (da_cons de_int da_nil)))) da_nil)))))))
      (dss_cons (ds_set 0 sc__law_odd_rows.nd (de_op (od_add false) (de_var 0) (de_lf (da_cons (de_tup (da_cons de_str (da_cons de_non da_nil))) (da_cons (de_tup (da_cons de_str (da_cons de_str da_nil))) (da_cons (de_tup (da_cons de_str (da_cons de_non (da_cons de_str (da_cons (de_tup (da_cons de_str da_nil)) da_nil))))) (da_cons (de_tup (da_cons de_str (da_cons de_str (da_cons de_str (da_cons (de_tup (da_cons de_str da_nil)) da_nil))))) da_nil)))))))
      (dss_one (ds_ret (de_op (od_add false) (de_var 0) (de_lf (da_cons (de_tup (da_cons de_str (da_cons de_str (da_cons de_str (da_cons (de_tup (da_cons de_str da_nil)) da_nil))))) (da_cons (de_tup (da_cons de_str (da_cons de_str (da_cons de_str (da_cons de_str da_nil))))) (da_cons (de_tup (da_cons de_str (da_cons de_str da_nil))) (da_cons (de_tup (da_cons de_str (da_cons de_str da_nil))) da_nil))))))))))))))))))))))))), ?run⟩), F.binds (ps := []) fun _ _ _ _ _ _ us hl => match us, hl with | [], _ => rfl, mf, F⟩
  case len => obtain ⟨rfl, _⟩ := h; rfl
  case run =>
    obtain ⟨rfl, q⟩ := h
    simp only [dVar, dC, dOp, dUn, dChain, dTr, dB, dAnd, dOr, dNot, dIf, dAndV, dOrV, dNotV, dNil, dCons, dTup, dLst, dLf, dNext, dSeq, dBreak, dCont, dDrop, dRet, dRetN, dIfS, gdName, gdNil, gdCons, gdTup, gdSub, dAsg, dPar, dCall, dCallK, dCB, dM0, dM, dGet1, dGet2, dDk, dDt, dPart, dNoPart, dSlice, dAug, dYes, dSort2, revD, iTupD, iLstD, iLf, iLw, iRange1, iRange2, iRange3, iEnumD, iZipD, iZipMD, iStrD, dGix, dDc, dIsi, dSortSet, dLenSet, dDlit, gdLst, dFor, dWhile, dLc, dLcM, dFld, dFldSet, dFldAdd, dMeth, dMake, dPar3, dDisp, dPrs, dFsi, dGget, dKgt, dKgtL, dCut, dTcut, wipeD, bodyE, startD, List.map_cons, List.map_nil, List.length_cons, List.length_nil, List.replicate_succ, List.replicate_zero, List.cons_append, List.nil_append, Nat.reduceAdd, Nat.reduceSub, Nat.zero_add, List.getElem?_cons_zero, List.getElem?_cons_succ, List.set_cons_zero, List.set_cons_succ, Option.some.injEq, exists_eq_left', exists_eq_left, if_true, sizeLine_eq, Nat.reduceLeDiff, Nat.reduceLT, Nat.zero_le, true_and, and_true, Bool.false_eq_true, if_false]
    repeat' first | refine neg_i ?_ | refine add_f rfl rfl (by rw [sizeLine_eq]; exact Nat.le_of_ble_eq_true rfl) ?_
    refine rt_of (q _ (by simp) ?_)
    intro x hx
    simp only [List.mem_append, List.mem_cons, List.not_mem_nil, or_false] at hx
    repeat' (refine Or.elim hx ?_ ?_ <;> clear hx <;> intro hx)
    all_goals subst hx
    all_goals decide +kernel
def sp__law_bent : Nat → SpD
  | 0 => fun _ _ _ _ => False
  | N + 1 => fun ds S Q _ => ∃ (p a : Addr) (n : Nat) (it : D) (deep k w : Nat), ds = [.ref p, it, .int (deep : Nat)] ∧ deep ≤ N ∧ Tp k w it ∧ Spr S p a (n + 10 * (deep + 1)) ∧ ∀ d S', Bt S' (k + 4) ((deep + 2) * (w + 150)) d → Spr S' p a n → Ofx p a S S' → Q d S'
theorem rec__law_bent {P : Program} {w : World} {K : PySem.W.Frag} {mg : Str → Option Value} {base : Heap} {n : Nat} (T : Txt K w mg) (C__law_value : Cal P w K mg base 3 "_law_value" s__law_value ["spring"] sp__law_value) (C__law_draw : Cal P w K mg base 1 "_law_draw" s__law_draw ["spring", "many"] sp__law_draw) (C__law_bent : Cal P w K mg base (4 + n) "_law_bent" s__law_bent ["spring", "it", "deep"] (sp__law_bent n)) {ff : Addr} {fd : FuncData} (F : Fun K "_law_bent" "_law_bent" s__law_bent ff fd) (mf : mg "_law_bent" = some (.ref ff)) : Cal P w K mg base (4 + (n + 1)) "_law_bent" s__law_bent ["spring", "it", "deep"] (sp__law_bent (n + 1)) := by
  refine ⟨ff, fd, okD F sc__law_bent (fun ds S Q E h => ?len) (fun cdv A outer s H E ds S Q E' hcd hr h => ⟨_, (dss_cons (ds_if (dw_or (dt_not (dt_tr td_tru (de_isi (tn := "tuple") (by rfl) T.nb_isinstance (by rfl) T.nb_tuple (de_var 1)))) (dw_or (dt_cmp (od_eq0 hr) (de_var 1) (de_tup da_nil)) (dw_or (dt_cmp (od_eq hr) (de_var 2) de_int) (dw_or1 (dt_cmp (od_eq hr) (de_c C__law_draw hr (da_cons (de_var 0) (da_cons de_int da_nil)) (hk := Nat.le_add_right_of_le (by decide))) de_int))))).pt (dss_one (ds_ret (de_c C__law_value hr (da_cons (de_var 0) da_nil) (hk := Nat.le_add_right_of_le (by decide))))) dss_nil)
      (dss_cons (ds_par 3 4 rfl sc__law_bent.nd (da_cons (de_c C__law_draw hr (da_cons (de_var 0) (da_cons (de_callB cd_len (by rfl) T.nb_len (da_cons (de_var 1) da_nil)) da_nil)) (hk := Nat.le_add_right_of_le (by decide))) (da_cons (de_c C__law_draw hr (da_cons (de_var 0) (da_cons de_int da_nil)) (hk := Nat.le_add_right_of_le (by decide))) da_nil)))
      (dss_cons (ds_if (dt_cmp (od_eq hr) (de_var 4) de_int) (dss_one (ds_ret (de_op (od_add false) (de_slice (xd_slice false) (de_var 1) do_none (do_some (de_var 3))) (de_slice (xd_slice false) (de_var 1) (do_some (de_op (od_add false) (de_var 3) de_int)) do_none)))) dss_nil)
      (dss_cons (ds_if (dt_cmp (od_eq hr) (de_var 4) de_int) (dss_one (ds_ret (de_op (od_add false) (de_op (od_add false) (de_slice (xd_slice false) (de_var 1) do_none (do_some (de_var 3))) (de_tup (da_cons (de_ix (xd_ix hr) (de_var 1) (de_c C__law_draw hr (da_cons (de_var 0) (da_cons (de_callB cd_len (by rfl) T.nb_len (da_cons (de_var 1) da_nil)) da_nil)) (hk := Nat.le_add_right_of_le (by decide)))) da_nil))) (de_slice (xd_slice false) (de_var 1) (do_some (de_var 3)) do_none)))) dss_nil)
      (dss_cons (ds_if (dt_cmp (od_eq hr) (de_var 4) de_int) (dss_one (ds_ret (de_op (od_add false) (de_op (od_add false) (de_slice (xd_slice false) (de_var 1) do_none (do_some (de_var 3))) (de_tup (da_cons (de_ix (xd_ix hr) (de_var 1) (de_c C__law_draw hr (da_cons (de_var 0) (da_cons (de_callB cd_len (by rfl) T.nb_len (da_cons (de_var 1) da_nil)) da_nil)) (hk := Nat.le_add_right_of_le (by decide)))) da_nil))) (de_slice (xd_slice false) (de_var 1) (do_some (de_op (od_add false) (de_var 3) de_int)) do_none)))) dss_nil)
      (dss_cons (ds_if (dt_cmp (od_eq hr) (de_var 4) de_int) (dss_one (ds_ret (de_op (od_add false) (de_op (od_add false) (de_slice (xd_slice false) (de_var 1) do_none (do_some (de_var 3))) (de_tup (da_cons (de_c C__law_value hr (da_cons (de_var 0) da_nil) (hk := Nat.le_add_right_of_le (by decide))) da_nil))) (de_slice (xd_slice false) (de_var 1) (do_some (de_var 3)) do_none)))) dss_nil)
      (dss_cons (ds_if (dt_cmp (od_eq hr) (de_var 4) de_int) (dss_one (ds_ret (de_callTy (cd_list false) (by rfl) T.nb_list (da_cons (de_var 1) da_nil)))) dss_nil)
      (dss_one (ds_ret (de_op (od_add false) (de_op (od_add false) (de_slice (xd_slice false) (de_var 1) do_none (do_some (de_var 3))) (de_tup (da_cons (de_c C__law_bent hr (da_cons (de_var 0) (da_cons (de_ix (xd_ix hr) (de_var 1) (de_var 3)) (da_cons (de_op od_sub (de_var 2) de_int) da_nil))) (hk := Nat.le_refl _)) da_nil))) (de_slice (xd_slice false) (de_var 1) (do_some (de_op (od_add false) (de_var 3) de_int)) do_none))))))))))), ?run⟩), F.binds (ps := ["spring", "it", "deep"]) fun _ _ _ _ _ _ us hl => match us, hl with | [_, _, _], _ => rfl, mf, F⟩
  case len => obtain ⟨p, a, m, it, deep, k, w, rfl, _⟩ := h; rfl
  case run =>
    obtain ⟨p, a, m, it, deep, k, w, rfl, hn, ht, sp, q⟩ := h
    simp only [dVar, dC, dOp, dUn, dChain, dTr, dB, dAnd, dOr, dNot, dIf, dAndV, dOrV, dNotV, dNil, dCons, dTup, dLst, dLf, dNext, dSeq, dBreak, dCont, dDrop, dRet, dRetN, dIfS, gdName, gdNil, gdCons, gdTup, gdSub, dAsg, dPar, dCall, dCallK, dCB, dM0, dM, dGet1, dGet2, dDk, dDt, dPart, dNoPart, dSlice, dAug, dYes, dSort2, revD, iTupD, iLstD, iLf, iLw, iRange1, iRange2, iRange3, iEnumD, iZipD, iZipMD, iStrD, dGix, dDc, dIsi, dSortSet, dLenSet, dDlit, gdLst, dFor, dWhile, dLc, dLcM, dFld, dFldSet, dFldAdd, dMeth, dMake, dPar3, dDisp, dPrs, dFsi, dGget, dKgt, dKgtL, dCut, dTcut, wipeD, bodyE, startD, List.map_cons, List.map_nil, List.length_cons, List.length_nil, List.replicate_succ, List.replicate_zero, List.cons_append, List.nil_append, Nat.reduceAdd, Nat.reduceSub, Nat.zero_add, List.getElem?_cons_zero, List.getElem?_cons_succ, List.set_cons_zero, List.set_cons_succ, Option.some.injEq, exists_eq_left', exists_eq_left, if_true, sizeLine_eq, Nat.reduceLeDiff, Nat.reduceLT, Nat.zero_le, true_and, and_true, Bool.false_eq_true, if_false]
    have val : ∀ (S1 : Sto) (w9 : Nat), Spr S1 p a (m + 10 * deep + 1 + w9) → Ofx p a S S1 → sp__law_value [.ref p] S1 (fun d S' => ∃ d1 S1, VW d S' d1 S1 ∧ Q d1 S1) X0 := fun S1 w9 sp1 of1 =>
      ⟨p, a, m + 10 * deep + w9, rfl, sp1.mono (by omega), fun d S2 hb sp2 of2 => rt_of (q d S2 (hb.mono (by omega) (by
        have : 2 * 150 ≤ (deep + 2) * (w + 150) := Nat.mul_le_mul (by omega) (by omega)
        omega)) (sp2.mono (by omega)) (of1.trans of2))⟩
    obtain ⟨t, h1, h2, _⟩ := vk_ty (vok_mono (vok_le (m := 1000) (ls := false) (dd := false) (by decide) (ht.v S)))
    refine ⟨t, h1, tru_b ?_⟩
    rw [h2]
    by_cases c : isTp it = true
    rotate_left
    · have c : isTp it = false := by simpa using c
      rw [c]
      exact brT rfl (val S 9 (sp.mono (by omega)) .refl)
    obtain ⟨ds, rfl⟩ := tp_of c
    obtain ⟨k0, rfl, tl, hl⟩ := ht.tl
    refine brF rfl (e0_t ⟨_, rfl, br2 (fun _ => val S 9 (sp.mono (by omega)) .refl) fun g => ⟨_, rfl, br2 (fun _ => val S 9 (sp.mono (by omega)) .refl) fun z => ?_⟩⟩)
    have z := of_xf z
    have g : ds ≠ [] := fun e => by subst e; cases g
    have l0 : 0 < ds.length := List.length_pos_iff.mpr g
    obtain ⟨dp, rfl⟩ : ∃ dp, deep = dp + 1 := ⟨deep - 1, by omega⟩
    obtain ⟨n, rfl⟩ : ∃ n', n = n' + 1 := ⟨n - 1, by omega⟩
    refine ⟨p, a, m + 10 * (dp + 1) + 9, 7, rfl, by decide, by decide, sp.mono (by omega), fun i1 S1 _ _ sp1 of1 => ⟨_, rfl, br2 (fun _ => val S1 8 (sp1.mono (by omega)) of1.x) fun _ => ?_⟩⟩
    refine len_sq rfl ⟨p, a, m + 10 * (dp + 1) + 8, _, rfl, by omega, by omega, sp1, fun i S2 i0 i1 sp2 of2 => ?_⟩
    refine ⟨p, a, m + 10 * (dp + 1) + 7, 9, rfl, by decide, by decide, sp2, fun way S3 w0 w1 sp3 of3 => ⟨_, _, rfl, ?_⟩⟩
    obtain ⟨i, rfl⟩ : ∃ j : Nat, i = j := ⟨i.toNat, by omega⟩
    have hi : i < ds.length := by omega
    have of3 := (of1.trans of2).trans of3
    have eT : DL.cutD ds none (some (i : Int)) = ds.take i := cut_take ds i
    have eD : DL.cutD ds (some (i : Int)) none = ds.drop i := cut_drop ds i
    have eD1 : DL.cutD ds (some ((i : Int) + 1)) none = ds.drop (i + 1) := cut_drop ds (i + 1)
    have lT : (ds.take i).length = i := by rw [List.length_take]; omega
    have lD : (ds.drop i).length = ds.length - i := List.length_drop
    have lD1 : (ds.drop (i + 1)).length = ds.length - (i + 1) := List.length_drop
    have sub := td_sub ds i
    have tall : Tl k0 w (ds.take i ++ ds.drop i) := by rw [List.take_append_drop]; exact tl
    have tcut : Tl k0 w (ds.take i ++ ds.drop (i + 1)) := tl.sub sub
    have wb : (dp + 3) * (w + 150) = (dp + 2) * (w + 150) + (w + 150) := by rw [show dp + 3 = dp + 2 + 1 from rfl, Nat.add_mul, Nat.one_mul]
    have wb2 : 2 * (w + 150) ≤ (dp + 2) * (w + 150) := Nat.mul_le_mul_right _ (by omega)
    have q : ∀ d S', Bt S' (k0 + 5) ((dp + 3) * (w + 150)) d → Spr S' p a m → Ofx p a S S' → Q d S' := q
    have pick : ∀ (R : KD) , (∀ x S4, x ∈ ds → Spr S4 p a (m + 10 * (dp + 1) + 6) → Off p a S3 S4 → R x S4) → lenD [D.tup ds] S3 fun x2 S1 => sp__law_draw [D.ref p, x2] S1 (fun y S2 => ixD (.tup ds) y S2 R) X0 := by
      intro R hR
      refine len_sq rfl ⟨p, a, m + 10 * (dp + 1) + 6, _, rfl, by omega, by omega, sp3, fun j S4 j0 j1 sp4 of4 => ?_⟩
      obtain ⟨j, rfl⟩ : ∃ j' : Nat, j = j' := ⟨j.toNat, by omega⟩
      have hj : j < ds.length := by omega
      exact ix_sq rfl rfl (at_n (List.getElem?_eq_getElem hj)) (hR _ S4 (List.getElem_mem hj) sp4 of4)
    clear val
    refine ⟨_, rfl, br2 (fun _ => ⟨_, rfl, sl_t (add_i ⟨_, rfl, sl_t ?_⟩)⟩) fun _ => ?_⟩
    · rw [eT, eD1]
      refine add_t (by rw [sizeLine_eq]; omega) (rt_of (q _ S3 ((tcut.tp (Nat.le_trans sub.length_le hl)).bt.mono (by omega) (by omega)) (sp3.mono (by omega)) of3.x))
    refine ⟨_, rfl, br2 (fun _ => ⟨_, rfl, sl_t (pick _ fun x S4 hx sp4 of4 => ?_)⟩) fun _ => ?_⟩
    · rw [eT]
      refine add_t (by rw [sizeLine_eq, List.length_singleton]; omega) ⟨_, rfl, sl_t ?_⟩
      rw [eD]
      refine add_t (by rw [sizeLine_eq, List.length_append, List.length_singleton]; omega) (rt_of (q _ S4 ((Bt.ins tall (by omega) (tl.at_ hx).bt).mono (by omega) (by omega)) (sp4.mono (by omega)) (of3.trans of4).x))
    refine ⟨_, rfl, br2 (fun _ => ⟨_, rfl, sl_t (pick _ fun x S4 hx sp4 of4 => ?_)⟩) fun _ => ?_⟩
    · rw [eT]
      refine add_t (by rw [sizeLine_eq, List.length_singleton]; omega) (add_i ⟨_, rfl, sl_t ?_⟩)
      rw [eD1]
      refine add_t (by rw [sizeLine_eq, List.length_append, List.length_singleton]; omega) (rt_of (q _ S4 ((Bt.ins tcut (by omega) (tl.at_ hx).bt).mono (by omega) (by omega)) (sp4.mono (by omega)) (of3.trans of4).x))
    refine ⟨_, rfl, br2 (fun _ => ⟨_, rfl, sl_t ?_⟩) fun _ => ?_⟩
    · rw [eT]
      refine ⟨p, a, m + 10 * (dp + 1) + 6, rfl, sp3, fun d S4 hb sp4 of4 => ?_⟩
      refine add_t (by rw [sizeLine_eq, List.length_singleton]; omega) ⟨_, rfl, sl_t ?_⟩
      rw [eD]
      refine add_t (by rw [sizeLine_eq, List.length_append, List.length_singleton]; omega) (rt_of (q _ S4 ((Bt.ins (tall.mono (show k0 ≤ k0 + 3 by omega) (Nat.le_refl _)) (by omega) (hb.mono (by omega) (Nat.le_refl _))).mono (by omega) (by omega)) (sp4.mono (by omega)) (of3.x.trans of4)))
    refine ⟨_, rfl, br2 (fun _ => ⟨_, ds, rfl, rfl, brF rfl (rt_of (q _ S3 ((bt_list tl).mono (by omega) (by omega)) (sp3.mono (by omega)) of3.x))⟩) fun _ => ?_⟩
    refine ⟨_, rfl, sl_t ?_⟩
    rw [eT]
    have hx := List.getElem_mem hi
    refine ix_sq rfl rfl (at_n (List.getElem?_eq_getElem hi)) (it_of trivial ⟨p, a, m + 6, _, dp, k0, w, by rw [show ((dp + 1 : Nat) : Int) - 1 = (dp : Int) by omega], by omega, tl.at_ hx, sp3.mono (by omega), fun d S4 hb sp4 of4 => ?_⟩)
    refine add_t (by rw [sizeLine_eq, List.length_singleton]; omega) (add_i ⟨_, rfl, sl_t ?_⟩)
    rw [eD1]
    refine add_t (by rw [sizeLine_eq, List.length_append, List.length_singleton]; omega) (rt_of (q _ S4 ((Bt.ins (tcut.mono (show k0 ≤ k0 + 4 by omega) (Nat.le_refl _)) (by omega) hb).mono (by omega) (by omega)) (sp4.mono (by omega)) (of3.x.trans of4)))
theorem ok__law_bent {P : Program} {w : World} {K : PySem.W.Frag} {mg : Str → Option Value} {base : Heap} (T : Txt K w mg) (C__law_value : Cal P w K mg base 3 "_law_value" s__law_value ["spring"] sp__law_value) (C__law_draw : Cal P w K mg base 1 "_law_draw" s__law_draw ["spring", "many"] sp__law_draw) {ff : Addr} {fd : FuncData} (F : Fun K "_law_bent" "_law_bent" s__law_bent ff fd) (mf : mg "_law_bent" = some (.ref ff)) : ∀ n : Nat, Cal P w K mg base (4 + n) "_law_bent" s__law_bent ["spring", "it", "deep"] (sp__law_bent n)
  | 0 => cal_no F mf (F.binds (ps := ["spring", "it", "deep"]) fun _ _ _ _ _ _ us hl => match us, hl with | [_, _, _], _ => rfl) fun _ _ _ _ h => h
  | n + 1 => rec__law_bent T  C__law_value C__law_draw (ok__law_bent T C__law_value C__law_draw F mf n) F mf
end K05


namespace K05
open PySem L2 PyProof.Rows DL
theorem mul_rows {x : D} {k : Int} {S : Sto} {Q : KD} (h0 : 0 ≤ k) (h1 : k ≤ 1000) (q : ∀ ys : List D, ys.length ≤ k.toNat → (∀ y ∈ ys, y = x) → Q (.tup ys) S) : mulT1 (.tup [x]) (.int k) S Q := by
  by_cases h : k = 1
  · subst h
    exact .inr ⟨_, rfl, rfl, q _ (Nat.le_refl 1) fun y hy => List.mem_singleton.mp hy⟩
  · refine .inl ⟨_, _, rfl, rfl, List.cons_ne_nil _ _, by rw [List.length_singleton]; omega, by omega, by omega, h, q _ ?_ fun y hy => ?_⟩
    · simp
    · obtain ⟨l, hl, hy⟩ := List.mem_flatten.mp hy
      rw [(List.mem_replicate.mp hl).2] at hy
      exact List.mem_singleton.mp hy
def fN (c : Str) (i : Int) : Str := Str.empty ++ c ++ Str.ofString (toString i)
theorem fs_ok : ∀ c ∈ (["k", "p", "n"] : List Str), ∀ i ∈ List.range 40, PyData.strOk (fN c ((0 : Int) + (i : Nat))) = true ∧ (fN c ((0 : Int) + (i : Nat))).length ≤ 8 := by decide +kernel
theorem fs_nm {c : Str} (hc : c ∈ (["k", "p", "n"] : List Str)) {i : Nat} (hi : i < 40) {k : Nat} : Tp k 8 (.str (fN c ((0 : Int) + (i : Nat)))) := by
  obtain ⟨h1, h2⟩ := fs_ok c hc i (List.mem_range.mpr hi)
  exact .str h1 h2 (by omega)
theorem fs_len {c : Str} (hc : c ∈ (["k", "p", "n"] : List Str)) {i : Nat} (hi : i < 40) : (Str.empty ++ c ++ Str.ofString (toString ((0 : Int) + (i : Nat)))).length ≤ 16777216 := by
  have := (fs_ok c hc i (List.mem_range.mpr hi)).2
  unfold fN at this
  omega
theorem log_of {i : Nat} (hi : i < 40) : ((0 : Int) + (i : Nat)).natAbs.log2 < 1920 := by
  have := log2_12 (i := (0 : Int) + (i : Nat)) (by omega)
  omega
theorem tp_nil {k w : Nat} : Tp (k + 1) w (.tup []) := (Tl.nil (k := k) (w := w)).tp (by simp)
theorem ex_up {S : Sto} {h : Addr} {xs : List D} (hn : ∀ kvs, S h ≠ some (.dk kvs)) : Ex S (up S h (.lst xs)) := fun x kvs e => by
  have : x ≠ h := fun z => by subst z; exact hn _ e
  rw [up_ne this]; exact e
theorem vk_tp {S : Sto} {k w : Nat} {d : D} (h : Tp k w d) : Vk S d := vok_mono (vok_le (m := 1000) (ls := false) (dd := false) (by decide) (h.v S))
theorem lc_lst {a : Addr} {ds : List D} {S : Sto} {Q : List D → Sto → Prop} {B : (Nat → List D → Sto → Prop) → Nat → List D → D → Sto → Prop} (e : S a = some (.lst ds))
    (hs : ∀ (W : Nat → List D → Sto → Prop) (i : Nat) (x : D), x ∈ ds → W (i + 1) [] S → B W i [] x S) (hd : Q [] S) :
    ∃ (W : Nat → List D → Sto → Prop) (n : Nat), W 0 [] S ∧ ∀ i acc S2, W i acc S2 → ∃ r, listI a i S2 = some r ∧ (r = none → Q acc S2) ∧ ∀ x, r = some x → i < n ∧ acc.length < sizeLine ∧ B W i acc x S2 := by
  refine ⟨fun _ acc S2 => S2 = S ∧ acc = [], ds.length, ⟨rfl, rfl⟩, ?_⟩
  rintro i acc S2 ⟨rfl, rfl⟩
  refine ⟨ds[i]?, by unfold listI; rw [e], fun _ => hd, fun x hx => ⟨(List.getElem?_eq_some_iff.mp hx).1, by rw [sizeLine_eq]; simp, hs _ i x (List.mem_of_getElem? hx) ⟨rfl, rfl⟩⟩⟩
/-- the list of values -/
def Hw (S : Sto) (g : Addr) (m : Nat) : Prop := ∃ xs, S g = some (.lst xs) ∧ 0 < xs.length ∧ xs.length ≤ m ∧ ∀ x ∈ xs, Bt S 12 60000 x
theorem Hw.app {S : Sto} {g : Addr} {m : Nat} {d : D} {Q : KD} (H : Hw S g m) (hm : m ≤ 1000) (hd : Bt S 12 60000 d) (q : ∀ xs, Hw (up S g (.lst xs)) g (m + 1) → Q .non (up S g (.lst xs))) : appD (.ref g) [d] S Q := by
  obtain ⟨xs, e, l0, l, hx⟩ := H
  refine app_of e (by rw [sizeLine_eq]; omega) (q _ ?_)
  have ex := ex_up (S := S) (h := g) (xs := xs ++ [d]) (fun kvs z => by rw [e] at z; cases z)
  refine ⟨_, up_same, by rw [List.length_append, List.length_singleton]; omega, by rw [List.length_append, List.length_singleton]; omega, fun x h9 => ?_⟩
  rcases List.mem_append.mp h9 with g | g
  · exact (hx x g).ex ex
  · rw [List.mem_singleton.mp g]; exact hd.ex ex
theorem Hw.step {S S' : Sto} {g p a : Addr} {m n : Nat} (H : Hw S g m) (gp : g ≠ p) (ga : g ≠ a) (s : Spr S p a n) (o : Ofx p a S S') : Hw S' g m := by
  obtain ⟨xs, e, l0, l, hx⟩ := H
  exact ⟨xs, o g _ gp ga e, l0, l, fun x h9 => (hx x h9).ex (o.ex s)⟩
theorem Ofx.w {p a x : Addr} {S S' : Sto} {o : MO} (h : Ofx p a S S') (hx : S x = none) : Ofx p a S (DL.up S' x o) := fun b o' h1 h2 e => by
  have ne : b ≠ x := fun z => by subst z; rw [e] at hx; cases hx
  rw [up_ne ne]
  exact h b o' h1 h2 e
theorem app_all {P : D → Prop} {xs ys : List D} (h : ∀ d ∈ xs, P d) (k : ∀ d ∈ ys, P d) : ∀ d ∈ xs ++ ys, P d := fun d hd => (List.mem_append.mp hd).elim (h d) (k d)
def ix0 : D → D
  | .tup (a :: _) => a
  | _ => .non
def ix1 : D → D
  | .tup (_ :: a :: _) => a
  | _ => .non
theorem use_tp {x : D} {q : Td} (hx : Tp 1 40 x) (h : HdOk q.1) : Tp 2 164 (.tup [.str "use", x, ix0 (tdD q), ix1 (tdD q)]) :=
  Tp.tup (k := 1) (w := 40) (n := 4) (fun d hd => by
    simp only [List.mem_cons, List.not_mem_nil, or_false] at hd
    rcases hd with rfl | rfl | rfl | rfl
    · exact .str (by decide +kernel) (by decide +kernel) (by decide +kernel)
    · exact hx
    · exact .nm h.1 (by decide)
    · exact (Tp.ys h.2.2.2 h.2.1).mono (Nat.le_refl _) (by decide)) (by simp) (by simp)
theorem use_tp0 {x : D} {q : Td} (hx : Tp 1 40 x) (h : HdOk q.1) : Tp 2 164 (.tup [.str "use", x, ix0 (tdD q), .tup []]) :=
  Tp.tup (k := 1) (w := 40) (n := 4) (fun d hd => by
    simp only [List.mem_cons, List.not_mem_nil, or_false] at hd
    rcases hd with rfl | rfl | rfl | rfl
    · exact .str (by decide +kernel) (by decide +kernel) (by decide +kernel)
    · exact hx
    · exact .nm h.1 (by decide)
    · exact tp_nil) (by simp) (by simp)
def sp__law_longer : SpD := fun ds S Q _ => ∃ (p a : Addr) (n : Nat) (ks : List Hd) (ts : List Td) (ps : List Pd), ds = [.ref p, srD ks ts ps] ∧ SrG ks ts ps ∧ Spr S p a (n + 60) ∧ ∀ d S', Bt S' 12 60000 d → Spr S' p a n → Ofx p a S S' → Q d S'
theorem ok__law_longer {P : Program} {w : World} {K : PySem.W.Frag} {mg : Str → Option Value} {base : Heap} (T : Txt K w mg) (C__law_one_of : Cal P w K mg base 2 "_law_one_of" s__law_one_of ["spring", "items"] sp__law_one_of) (C__law_draw : Cal P w K mg base 1 "_law_draw" s__law_draw ["spring", "many"] sp__law_draw) (C__law_value : Cal P w K mg base 3 "_law_value" s__law_value ["spring"] sp__law_value) {ff : Addr} {fd : FuncData} (F : Fun K "_law_longer" "_law_longer" s__law_longer ff fd) (mf : mg "_law_longer" = some (.ref ff)) : Cal P w K mg base 4 "_law_longer" s__law_longer ["spring", "source"] sp__law_longer := by
  refine ⟨ff, fd, okD F sc__law_longer (fun ds S Q E h => ?len) (fun cdv A outer s H E ds S Q E' hcd hr h => ⟨_, (dss_cons (ds_asg (de_var 1) (dg_tup (n := 3) rfl (dgs_cons (dg_name 2 sc__law_longer.nd) (dgs_cons (dg_name 3 sc__law_longer.nd) (dgs_cons (dg_name 4 sc__law_longer.nd) dgs_nil)))))
      (dss_cons (ds_set 5 sc__law_longer.nd (de_callTy cd_tuple (by rfl) T.nb_tuple (da_cons (de_lc [("k", 6)] rfl sc__law_longer.nd (di_range1 (by rfl) T.nb_range (da_cons (de_op (od_add false) (de_op od_sub de_int (de_callB cd_len (by rfl) T.nb_len (da_cons (de_var 3) da_nil))) (de_c C__law_draw hr (da_cons (de_var 0) (da_cons de_int da_nil)))) da_nil)) (blkOk_by (N := ["spring", "source", "kinds", "templates", "procedures", "deep", "k", "some", "x", "rows", "one", "row", "at", "name", "parameters", "own", "result"]) (sc := defScope s__law_longer) (by decide +kernel)) (fun _ _ _ _ _ => (pg_name (i := 6) sc__law_longer.nd rfl (Or.inl rfl) (Or.inr rfl))) (fun N => (tg_name (vs := [6]) (i := 6) (by decide))) (fun _ _ _ _ _ => dts_nil) (fun _ _ _ _ _ => (de_tup (da_cons (de_fsi (de_var 6)) (da_cons (de_tup da_nil) (da_cons (de_tup da_nil) (da_cons de_str da_nil))))))) da_nil)))
      (dss_cons (ds_set 7 sc__law_longer.nd (de_lst (da_cons (de_tup (da_cons (de_var 2) (da_cons (de_op (od_add false) (de_var 3) (de_var 5)) (da_cons (de_var 4) da_nil)))) da_nil)))
      (dss_cons (ds_asg (de_tup (da_cons de_str (da_cons (de_lf (da_cons (de_tup (da_cons de_str (da_cons de_str da_nil))) (da_cons (de_tup (da_cons de_str (da_cons de_non (da_cons de_str (da_cons (de_tup da_nil) da_nil))))) (da_cons (de_tup (da_cons de_str (da_cons de_str (da_cons de_str (da_cons (de_tup da_nil) da_nil))))) (da_cons (de_tup (da_cons de_str (da_cons de_non da_nil))) da_nil))))) da_nil))) (dg_tup (n := 2) rfl (dgs_cons (dg_name 8 sc__law_longer.nd) (dgs_cons (dg_name 9 sc__law_longer.nd) dgs_nil))))
      (dss_cons (ds_set 9 sc__law_longer.nd (de_op (od_add false) (de_var 9) (de_lc [("one", 10)] rfl sc__law_longer.nd (di_tup (de_slice (xd_slice false) (de_var 3) do_none (do_some de_int))) (blkOk_by (N := ["spring", "source", "kinds", "templates", "procedures", "deep", "k", "some", "x", "rows", "one", "row", "at", "name", "parameters", "own", "result"]) (sc := defScope s__law_longer) (by decide +kernel)) (fun _ _ _ _ _ => (pg_name (i := 10) sc__law_longer.nd rfl (Or.inl rfl) (Or.inr rfl))) (fun N => (tg_name (vs := [10]) (i := 10) (by decide))) (fun _ _ _ _ _ => dts_nil) (fun _ _ _ _ _ => (de_tup (da_cons de_str (da_cons de_non (da_cons (de_ix (xd_ix hr) (de_var 10) de_int) (da_cons (de_ix (xd_ix hr) (de_var 10) de_int) da_nil)))))))))
      (dss_cons (ds_set 9 sc__law_longer.nd (de_op (od_add false) (de_op (od_add false) (de_var 9) (de_lc [("one", 10)] rfl sc__law_longer.nd (di_tup (de_var 3)) (blkOk_by (N := ["spring", "source", "kinds", "templates", "procedures", "deep", "k", "some", "x", "rows", "one", "row", "at", "name", "parameters", "own", "result"]) (sc := defScope s__law_longer) (by decide +kernel)) (fun _ _ _ _ _ => (pg_name (i := 10) sc__law_longer.nd rfl (Or.inl rfl) (Or.inr rfl))) (fun N => (tg_name (vs := [10]) (i := 10) (by decide))) (fun _ _ _ _ _ => dts_nil) (fun _ _ _ _ _ => (de_tup (da_cons de_str (da_cons (de_var 8) (da_cons (de_ix (xd_ix hr) (de_var 10) de_int) (da_cons (de_ix (xd_ix hr) (de_var 10) de_int) da_nil)))))))) (de_lc [("one", 10)] rfl sc__law_longer.nd (di_tup (de_var 3)) (blkOk_by (N := ["spring", "source", "kinds", "templates", "procedures", "deep", "k", "some", "x", "rows", "one", "row", "at", "name", "parameters", "own", "result"]) (sc := defScope s__law_longer) (by decide +kernel)) (fun _ _ _ _ _ => (pg_name (i := 10) sc__law_longer.nd rfl (Or.inl rfl) (Or.inr rfl))) (fun N => (tg_name (vs := [10]) (i := 10) (by decide))) (fun _ _ _ _ _ => dts_nil) (fun _ _ _ _ _ => (de_tup (da_cons de_str (da_cons (de_var 8) (da_cons (de_ix (xd_ix hr) (de_var 10) de_int) (da_cons (de_tup da_nil) da_nil)))))))))
      (dss_cons (ds_set 11 sc__law_longer.nd (de_c C__law_one_of hr (da_cons (de_var 0) (da_cons (de_var 9) da_nil))))
      (dss_cons (ds_expr (de_m PySem.F.plainAttrs_list PySem.F.slot_list_append PySem.F.type_list_append md_append (de_var 7) (da_cons (de_tup (da_cons (de_var 2) (da_cons (de_var 3) (da_cons (de_op (od_add false) (de_tup (da_cons (de_tup (da_cons (de_ix (xd_ix hr) (de_ix (xd_ix hr) (de_var 4) de_int) de_int) (da_cons (de_tup da_nil) (da_cons (de_op (od_add false) (de_ix (xd_ix hr) (de_ix (xd_ix hr) (de_var 4) de_int) de_int) (de_tup (da_cons (de_var 11) da_nil))) da_nil)))) da_nil)) (de_slice (xd_slice false) (de_var 4) (do_some de_int) do_none)) da_nil)))) da_nil)))
      (dss_cut (ds_if (dt_cmp (od_ne0 hr) (de_var 3) (de_tup da_nil)) (dss_cons (ds_set 12 sc__law_longer.nd (de_c C__law_draw hr (da_cons (de_var 0) (da_cons (de_callB cd_len (by rfl) T.nb_len (da_cons (de_var 3) da_nil)) da_nil))))
      (dss_cons (ds_asg (de_ix (xd_ix hr) (de_var 3) (de_var 12)) (dg_tup (n := 4) rfl (dgs_cons (dg_name 13 sc__law_longer.nd) (dgs_cons (dg_name 14 sc__law_longer.nd) (dgs_cons (dg_name 15 sc__law_longer.nd) (dgs_cons (dg_name 16 sc__law_longer.nd) dgs_nil))))))
      (dss_cons (ds_for PassesOwn.never rfl (di_lf (de_lf (da_cons (de_tup (da_cons (de_var 13) (da_cons (de_var 14) (da_cons (de_op (od_add false) (de_var 15) (de_tup (da_cons (de_var 11) da_nil))) (da_cons (de_var 16) da_nil))))) (da_cons (de_tup (da_cons (de_var 13) (da_cons (de_var 14) (da_cons (de_var 15) (da_cons (de_c C__law_value hr (da_cons (de_var 0) da_nil)) da_nil))))) da_nil)))) (dg_name 10 sc__law_longer.nd) (dss_one (ds_expr (de_m PySem.F.plainAttrs_list PySem.F.slot_list_append PySem.F.type_list_append md_append (de_var 7) (da_cons (de_tup (da_cons (de_var 2) (da_cons (de_op (od_add false) (de_op (od_add false) (de_slice (xd_slice false) (de_var 3) do_none (do_some (de_var 12))) (de_tup (da_cons (de_var 10) da_nil))) (de_slice (xd_slice false) (de_var 3) (do_some (de_op (od_add false) (de_var 12) de_int)) do_none)) (da_cons (de_var 4) da_nil)))) da_nil)))))
      (dss_one (ds_expr (de_m PySem.F.plainAttrs_list PySem.F.slot_list_append PySem.F.type_list_append md_append (de_var 7) (da_cons (de_tup (da_cons (de_var 2) (da_cons (de_op (od_add false) (de_var 3) (de_slice (xd_slice false) (de_var 3) (do_some (de_var 12)) (do_some (de_op (od_add false) (de_var 12) de_int)))) (da_cons (de_var 4) da_nil)))) da_nil))))))) dss_nil)
      (dss_one (ds_ret (de_c C__law_one_of hr (da_cons (de_var 0) (da_cons (de_var 7) da_nil)))))))))))))), ?run⟩), F.binds (ps := ["spring", "source"]) fun _ _ _ _ _ _ us hl => match us, hl with | [_, _], _ => rfl, mf, F⟩
  case len => obtain ⟨p, a, n, ks, ts, ps, rfl, _⟩ := h; rfl
  case run =>
    obtain ⟨p, a, n, ks, ts, ps, rfl, g, sp, q⟩ := h
    simp only [dVar, dC, dOp, dUn, dChain, dTr, dB, dAnd, dOr, dNot, dIf, dAndV, dOrV, dNotV, dNil, dCons, dTup, dLst, dLf, dNext, dSeq, dBreak, dCont, dDrop, dRet, dRetN, dIfS, gdName, gdNil, gdCons, gdTup, gdSub, dAsg, dPar, dCall, dCallK, dCB, dM0, dM, dGet1, dGet2, dDk, dDt, dPart, dNoPart, dSlice, dAug, dYes, dSort2, revD, iTupD, iLstD, iLf, iLw, iRange1, iRange2, iRange3, iEnumD, iZipD, iZipMD, iStrD, dGix, dDc, dIsi, dSortSet, dLenSet, dDlit, gdLst, dFor, dWhile, dLc, dLcM, dFld, dFldSet, dFldAdd, dMeth, dMake, dPar3, dDisp, dPrs, dFsi, dGget, dKgt, dKgtL, dCut, dTcut, wipeD, bodyE, startD, List.map_cons, List.map_nil, List.length_cons, List.length_nil, List.replicate_succ, List.replicate_zero, List.cons_append, List.nil_append, Nat.reduceAdd, Nat.reduceSub, Nat.zero_add, List.getElem?_cons_zero, List.getElem?_cons_succ, List.set_cons_zero, List.set_cons_succ, Option.some.injEq, exists_eq_left', exists_eq_left, if_true, sizeLine_eq, Nat.reduceLeDiff, Nat.reduceLT, Nat.zero_le, true_and, and_true, Bool.false_eq_true, if_false]
    have t6 := g.t6
    have p6 := g.p6
    have lT : (ts.map tdD).length ≤ 6 := by rw [List.length_map]; exact t6
    have pt := srG_tp g
    obtain ⟨kk0, ek, tl, _⟩ := pt.tl
    obtain rfl : kk0 = 5 := by omega
    have KT : Tp 5 200 (.tup (ks.map hdD)) := (Tp.tup (k := 2) (w := 46) (n := 3) (fun d hd => by
      obtain ⟨k, hk, rfl⟩ := List.mem_map.mp hd
      exact hd_tp (g.kok k hk).1) (by rw [List.length_map]; exact g.k3) (by rw [List.length_map]; have := g.k3; omega)).mono (by decide) (by decide)
    have tt : ∀ d ∈ ts.map tdD, Tp 4 1600 d := fun d hd => by
      obtain ⟨q, hq, rfl⟩ := List.mem_map.mp hd
      obtain ⟨h1, h2, h3, h4⟩ := g.tok q hq
      exact td_tp h1 h2 h3 fun d hd => (g.row (h4 d hd).1).2
    have pp : ∀ d ∈ ps.map pcD, Tp 4 1600 d := fun d hd => by
      obtain ⟨q, hq, rfl⟩ := List.mem_map.mp hd
      obtain ⟨h1, h2, h3⟩ := g.pok q hq
      exact pc_tp h1 h2 fun d hd => (g.row (h3 d hd)).2
    have TT : Tp 5 9606 (.tup (ts.map tdD)) := Tp.tup (k := 4) (w := 1600) (n := 6) tt lT (by omega)
    have PT : Tp 5 9606 (.tup (ps.map pcD)) := Tp.tup (k := 4) (w := 1600) (n := 6) pp (by rw [List.length_map]; exact p6) (by rw [List.length_map]; omega)
    refine ⟨_, rfl, rfl, _, _, rfl, _, _, rfl, _, _, rfl, rfl, len_sq rfl (it_of trivial ⟨p, a, n + 59, 2, rfl, by decide, by decide, sp, fun i2 S1 i20 i21 sp1 of1 => add_i ⟨_, rfl, by rw [List.length_map]; omega, by rw [List.length_map]; omega, ?_⟩⟩)⟩
    obtain ⟨M, hM, hM9⟩ : ∃ M, M = ((6 : Int) - ((ts.map tdD).length : Nat) + i2).toNat ∧ M ≤ 7 := ⟨_, rfl, by rw [List.length_map]; omega⟩
    rw [← hM]
    refine lc_rng (fun i acc S' => S' = S1 ∧ acc.length = i ∧ i ≤ M ∧ ∀ d ∈ acc, Tp 4 1600 d) ⟨rfl, rfl, Nat.zero_le _, fun d hd => (nomatch hd)⟩ ?_ ?_
    · rintro i acc S' hi ⟨rfl, al, _, ha⟩
      refine ⟨by rw [sizeLine_eq]; omega, by decide +kernel, _, rfl, log_of (by omega), fs_len (by decide +kernel) (by omega), rfl, by rw [List.length_append, List.length_singleton, al], hi, fun d hd => ?_⟩
      rcases List.mem_append.mp hd with h | h
      · exact ha d h
      · rw [List.mem_singleton.mp h]
        exact (Tp.four (k := 1) (w2 := 0) (w3 := 0) (w4 := 1) (fs_nm (by decide +kernel) (by omega)) tp_nil tp_nil (.str (by decide +kernel) (by decide +kernel) (by decide +kernel))).mono (by decide) (by decide)
    rintro i dp S' hi ⟨rfl, dl, dM, hdp⟩
    obtain rfl : i = M := by omega
    refine tpl_l rfl (add_t (by rw [sizeLine_eq]; omega) ?_)
    intro h nh
    obtain ⟨hp, ha⟩ := sp1.ne nh
    have b1 : ∀ S, Bt S 12 60000 (.tup [.tup (ks.map hdD), .tup (ts.map tdD ++ dp), .tup (ps.map pcD)]) := fun S =>
      ((Tp.triple (k := 5) KT (Tp.tup (k := 4) (w := 1600) (n := 13) (app_all tt hdp) (by rw [List.length_append]; omega) (by rw [List.length_append]; omega)) PT).mono (k' := 12) (w' := 60000) (by decide) (by decide)).bt
    have H1 : Hw (up S' h (.lst [.tup [.tup (ks.map hdD), .tup (ts.map tdD ++ dp), .tup (ps.map pcD)]])) h 1 := ⟨_, up_same, by simp, by simp, fun x hx => by rw [List.mem_singleton.mp hx]; exact b1 _⟩
    have sp2 := sp1.up hp ha (o := .lst [.tup [.tup (ks.map hdD), .tup (ts.map tdD ++ dp), .tup (ps.map pcD)]])
    have nhS : S h = none := by rw [← of1 h hp ha]; exact nh
    have of2 : Ofx p a S (up S' h (.lst [.tup [.tup (ks.map hdD), .tup (ts.map tdD ++ dp), .tup (ps.map pcD)]])) := of1.x.w nhS
    generalize up S' h (.lst [.tup [.tup (ks.map hdD), .tup (ts.map tdD ++ dp), .tup (ps.map pcD)]]) = S2 at H1 sp2 of2 ⊢
    refine ⟨_, rfl, rfl, _, _, rfl, _, _, rfl, rfl, 1, rfl, sl_t ?_⟩
    have e1 : DL.cutD (ts.map tdD) none (some 1) = (ts.take 1).map tdD := by
      have := cut_take (ts.map tdD) 1
      rw [← List.map_take] at this
      exact this
    rw [e1]
    have xa : Tp 1 40 (.str "a") := .str (by decide +kernel) (by decide +kernel) (by decide +kernel)
    refine ⟨_, .inl rfl, lc_mp (fun d => .tup [.str "use", .non, ix0 d, ix1 d]) (by rw [List.length_map, List.length_take]; omega) (fun W i x acc hx w => ?_) ?_⟩
    · obtain ⟨q, hq, rfl⟩ := map_at hx
      exact ix_sq rfl rfl at_0 (ix_sq rfl rfl (at_n (i := 1) rfl) w)
    refine add_f rfl rfl (by rw [List.length_map, List.length_map, List.length_take, sizeLine_eq]; simp; omega) ?_
    refine ⟨_, .inl rfl, lc_mp (fun d => .tup [.str "use", .str "a", ix0 d, ix1 d]) (by omega) (fun W i x acc hx w => ?_) ?_⟩
    · obtain ⟨q, hq, rfl⟩ := map_at hx
      exact ix_sq rfl rfl at_0 (ix_sq rfl rfl (at_n (i := 1) rfl) w)
    refine add_f rfl rfl (by simp only [List.length_append, List.length_map, List.length_take, List.length_cons, List.length_nil, sizeLine_eq]; omega) ?_
    refine ⟨_, .inl rfl, lc_mp (fun d => .tup [.str "use", .str "a", ix0 d, .tup []]) (by omega) (fun W i x acc hx w => ?_) ?_⟩
    · obtain ⟨q, hq, rfl⟩ := map_at hx
      exact ix_sq rfl rfl at_0 w
    refine add_f rfl rfl (by simp only [List.length_append, List.length_map, List.length_take, List.length_cons, List.length_nil, sizeLine_eq]; omega) ?_
    obtain ⟨R, hR⟩ : ∃ R, R = (([D.tup [.str "return", .str "a"], .tup [.str "call", .non, .str "main", .tup []], .tup [.str "use", .str "a", .str "nothere", .tup []], .tup [.str "input", .non]] ++ ((ts.take 1).map tdD).map fun d => D.tup [.str "use", .non, ix0 d, ix1 d]) ++ (ts.map tdD).map fun d => D.tup [.str "use", .str "a", ix0 d, ix1 d]) ++ (ts.map tdD).map fun d => D.tup [.str "use", .str "a", ix0 d, .tup []] := ⟨_, rfl⟩
    have RT : ∀ d ∈ R, Tp 2 164 d := by
      rw [hR]
      refine app_all (app_all (app_all ?_ ?_) ?_) ?_
      · intro d hd
        have h4 : ∀ d ∈ [D.tup [.str "return", .str "a"], .tup [.str "call", .non, .str "main", .tup []], .tup [.str "use", .str "a", .str "nothere", .tup []], .tup [.str "input", .non]], ∃ ds, d = .tup ds ∧ ds.length ≤ 4 ∧ ∀ x ∈ ds, Tp 1 40 x := by
          intro d hd
          simp only [List.mem_cons, List.not_mem_nil, or_false] at hd
          rcases hd with rfl | rfl | rfl | rfl <;> refine ⟨_, rfl, by simp, fun x hx => ?_⟩ <;> simp only [List.mem_cons, List.not_mem_nil, or_false] at hx
          · rcases hx with rfl | rfl <;> exact .str (by decide +kernel) (by decide +kernel) (by decide +kernel)
          · rcases hx with rfl | rfl | rfl | rfl
            · exact .str (by decide +kernel) (by decide +kernel) (by decide +kernel)
            · exact .non
            · exact .str (by decide +kernel) (by decide +kernel) (by decide +kernel)
            · exact tp_nil
          · rcases hx with rfl | rfl | rfl | rfl
            · exact .str (by decide +kernel) (by decide +kernel) (by decide +kernel)
            · exact .str (by decide +kernel) (by decide +kernel) (by decide +kernel)
            · exact .str (by decide +kernel) (by decide +kernel) (by decide +kernel)
            · exact tp_nil
          · rcases hx with rfl | rfl
            · exact .str (by decide +kernel) (by decide +kernel) (by decide +kernel)
            · exact .non
        obtain ⟨ds, rfl, hl, hx⟩ := h4 d hd
        exact Tp.tup (k := 1) (w := 40) (n := 4) hx hl (by omega)
      · intro d hd
        obtain ⟨y, hy, rfl⟩ := List.mem_map.mp hd
        obtain ⟨q, hq, rfl⟩ := List.mem_map.mp hy
        exact use_tp .non (g.tok q (List.mem_of_mem_take hq)).1
      · intro d hd
        obtain ⟨y, hy, rfl⟩ := List.mem_map.mp hd
        obtain ⟨q, hq, rfl⟩ := List.mem_map.mp hy
        exact use_tp xa (g.tok q hq).1
      · intro d hd
        obtain ⟨y, hy, rfl⟩ := List.mem_map.mp hd
        obtain ⟨q, hq, rfl⟩ := List.mem_map.mp hy
        exact use_tp0 xa (g.tok q hq).1
    have Rl : 0 < R.length ∧ R.length ≤ 30 := by
      rw [hR]
      simp only [List.length_append, List.length_map, List.length_take, List.length_cons, List.length_nil]
      omega
    rw [← hR]
    refine ⟨p, a, n + 58, _, rfl, sp2, .inl ⟨_, rfl, Rl.1, by omega, fun row S3 hrow sp3 of3 => ?_⟩⟩
    have rowT := RT row hrow
    have of3' := of2.trans of3.x
    have H3 := H1.step hp ha sp2 of3.x
    obtain ⟨q0, pr, eps⟩ : ∃ q0 pr, ps = q0 :: pr := by
      have := g.hd
      cases ps with
      | nil => cases this
      | cons q r => exact ⟨q, r, rfl⟩
    have em : ps.map pcD = pcD q0 :: pr.map pcD := by rw [eps]; rfl
    obtain ⟨g1, g2, g3⟩ := g.pok q0 (by rw [eps]; simp)
    have pl : pr.length ≤ 5 := by rw [eps, List.length_cons] at p6; omega
    have at0 : atI (ps.map pcD) 0 = some (pcD q0) := by rw [em]; exact at_0
    obtain ⟨xs3, e3, _⟩ := id H3
    refine ⟨ty_l e3, ix_sq rfl rfl at0 (ix_sq rfl rfl at_0 (ix_sq rfl rfl at0 (ix_sq rfl rfl (at_n (i := 2) rfl) (add_t (by rw [sizeLine_eq, List.length_singleton]; omega) ⟨1, rfl, sl_t ?_⟩))))⟩
    have e1 : DL.cutD (ps.map pcD) (some 1) none = pr.map pcD := by rw [em]; exact cut_1 _ _
    rw [e1]
    refine add_t (by rw [sizeLine_eq, List.length_singleton, List.length_map]; omega) ?_
    have rows' : ∀ {rs : List D}, rs.length ≤ 9 → (∀ d ∈ rs, Tp 2 164 d) → Tp 3 1650 (.tup (rs ++ [row])) := fun hl hr => Tp.tup (k := 2) (w := 164) (n := 10) (app_all hr fun d hd => by rw [List.mem_singleton.mp hd]; exact rowT) (by rw [List.length_append, List.length_singleton]; omega) (by rw [List.length_append, List.length_singleton]; omega)
    have pT' : Tp 4 1700 (.tup [.str q0.1.1, .tup [], .tup (q0.2 ++ [row])]) := (Tp.triple (k := 3) (w2 := 0) (.nm g1.1 (Nat.le_refl 8)) tp_nil (rows' g2 fun d hd => (g.row (g3 d hd)).2)).mono (Nat.le_refl _) (by decide)
    have bt2 : ∀ S, Bt S 12 60000 (.tup [.tup (ks.map hdD), .tup (ts.map tdD), .tup ([.tup [.str q0.1.1, .tup [], .tup (q0.2 ++ [row])]] ++ pr.map pcD)]) := fun S =>
      ((Tp.triple (k := 5) KT TT (Tp.tup (k := 4) (w := 1700) (n := 6) (app_all (fun d hd => by rw [List.mem_singleton.mp hd]; exact pT') fun d hd => (pp d (by rw [em]; exact List.mem_cons_of_mem _ hd)).mono (Nat.le_refl _) (by decide)) (by rw [List.length_append, List.length_singleton, List.length_map]; omega) (by rw [List.length_append, List.length_singleton, List.length_map]; omega))).mono (k' := 12) (w' := 60000) (by decide) (by decide)).bt
    refine H3.app (by decide) (bt2 S3) fun xs4 H4 => ?_
    have sp4 := sp3.up hp ha (o := .lst xs4)
    have of4 : Ofx p a S (up S3 h (.lst xs4)) := of3'.w nhS
    generalize up S3 h (.lst xs4) = S4 at H4 sp4 of4 ⊢
    refine ⟨fun δ' S' => δ'[0]? = some (some (.ref p)) ∧ δ'[7]? = some (some (.ref h)) ∧ Hw S' h 10 ∧ Spr S' p a (n + 20) ∧ Ofx p a S S', ?_, ?_⟩
    rotate_left
    · rintro δ' S' ⟨h0, h7, H, sp', of'⟩
      obtain ⟨xs, e, l0, l, hx⟩ := id H
      refine ⟨_, h0, _, h7, p, a, n + 19, _, rfl, sp', .inr (.inr ⟨h, xs, rfl, e, hp, ha, l0, by omega, fun x S5 hm sp5 of5 => rt_of (q x S5 ((hx x hm).ex (of5.x.ex sp')) (sp5.mono (by omega)) (of'.trans of5.x))⟩)⟩
    refine e0_t ⟨_, rfl, br2 (fun g0 => ?_) fun _ => ⟨rfl, rfl, by obtain ⟨xs, e, l0, l, hx⟩ := H4; exact ⟨xs, e, l0, by omega, hx⟩, sp4.mono (by omega), of4⟩⟩
    have tl0 : 0 < (ts.map tdD).length := by
      cases hh : ts.map tdD with
      | nil => rw [hh] at g0; cases g0
      | cons x y => simp
    refine len_sq rfl ⟨p, a, n + 57, _, rfl, by omega, by omega, sp4, fun at9 S5 a0 a1 sp5 of5 => ?_⟩
    obtain ⟨c, rfl⟩ : ∃ j : Nat, at9 = j := ⟨at9.toNat, by omega⟩
    have hc : c < ts.length := by rw [List.length_map] at a1; omega
    obtain ⟨qt, hqt⟩ : ∃ qt, ts[c]? = some qt := ⟨_, List.getElem?_eq_getElem hc⟩
    have hm5 : (ts.map tdD)[c]? = some (tdD qt) := by rw [List.getElem?_map, hqt]; rfl
    obtain ⟨f1, f2, f3, f4⟩ := g.tok qt (List.mem_of_getElem? hqt)
    have H5 := H4.step hp ha sp4 of5.x
    have of5 := of4.trans of5.x
    refine ix_sq rfl rfl (at_n hm5) ⟨_, rfl, rfl, _, _, rfl, _, _, rfl, _, _, rfl, _, _, rfl, rfl, add_t (by rw [sizeLine_eq, List.length_singleton]; omega) ?_⟩
    refine ⟨p, a, n + 40, rfl, sp5.mono (by omega), fun v S6 hv sp6 of6 => ⟨_, rfl, ?_⟩⟩
    have H6 := H5.step hp ha sp5 of6
    have of6 := of5.trans of6
    obtain ⟨k1, ek1, tlT, _⟩ := TT.tl
    obtain rfl : k1 = 4 := by omega
    have x1T : Tp 4 1750 (.tup [.str qt.1.1, .tup (qt.1.2.map D.str), .tup (qt.2.1 ++ [row]), .str qt.2.2]) := (Tp.four (k := 3) (.nm f1.1 (Nat.le_refl 8)) ((Tp.ys (k := 0) f1.2.2.2 f1.2.1).mono (by decide) (Nat.le_refl _)) (rows' f3 fun d hd => (g.row (f4 d hd).1).2) (.nm f2 (Nat.le_refl 8))).mono (Nat.le_refl _) (by decide)
    have oT : Tp 3 1485 (.tup qt.2.1) := rows_tp (fun d hd => (g.row (f4 d hd).1).2) f3
    have x2B : ∀ S', Bt S' 3 140 v → Bt S' 4 1750 (.tup [.str qt.1.1, .tup (qt.1.2.map D.str), .tup qt.2.1, v]) := fun S' hv =>
      (Bt.ins (xs := [.str qt.1.1, .tup (qt.1.2.map D.str), .tup qt.2.1]) (ys := []) (k := 3) (w := 9 + (37 + 1486)) ((Tl.one (.nm f1.1 (Nat.le_refl 8))).app ((Tl.one ((Tp.ys (k := 0) f1.2.2.2 f1.2.1).mono (by decide) (Nat.le_refl _))).app (.one oT))) (by simp) hv).mono (by decide) (by decide)
    have whole : ∀ {S' : Sto} {d : D}, Bt S' 5 20000 d → Bt S' 12 60000 (.tup [.tup (ks.map hdD), d, .tup (ps.map pcD)]) := fun hd =>
      (Bt.ins (xs := [.tup (ks.map hdD)]) (ys := [.tup (ps.map pcD)]) (k := 5) (w := 201 + 9607) ((Tl.one KT).app (.one PT)) (by simp) hd).mono (by decide) (by decide)
    have eT : DL.cutD (ts.map tdD) none (some (c : Int)) = (ts.map tdD).take c := cut_take _ c
    have eD : DL.cutD (ts.map tdD) (some ((c : Int) + 1)) none = (ts.map tdD).drop (c + 1) := cut_drop _ (c + 1)
    refine fr_seq (fun i δ S' => ∃ r10, δ = [some (.ref p), some (srD ks ts ps), some (.tup (ks.map hdD)), some (.tup (ts.map tdD)), some (.tup (ps.map pcD)), some (.tup dp), none, some (.ref h), some (.str "a"), some (.fl R), r10, some row, some (.int (c : Nat)), some (.str qt.1.1), some (.tup (qt.1.2.map D.str)), some (.tup qt.2.1), some (.str qt.2.2)] ∧ i ≤ 2 ∧ Hw S' h (2 + i) ∧ Spr S' p a (n + 40) ∧ Ofx p a S S' ∧ Bt S' 3 140 v) ⟨none, rfl, Nat.zero_le _, H6, sp6, of6, hv⟩ ?_ ?_
    · rintro i x δ S7 hx ⟨r10, rfl, _, H7, sp7, of7, hv7⟩
      simp only [dVar, dC, dOp, dUn, dChain, dTr, dB, dAnd, dOr, dNot, dIf, dAndV, dOrV, dNotV, dNil, dCons, dTup, dLst, dLf, dNext, dSeq, dBreak, dCont, dDrop, dRet, dRetN, dIfS, gdName, gdNil, gdCons, gdTup, gdSub, dAsg, dPar, dCall, dCallK, dCB, dM0, dM, dGet1, dGet2, dDk, dDt, dPart, dNoPart, dSlice, dAug, dYes, dSort2, revD, iTupD, iLstD, iLf, iLw, iRange1, iRange2, iRange3, iEnumD, iZipD, iZipMD, iStrD, dGix, dDc, dIsi, dSortSet, dLenSet, dDlit, gdLst, dFor, dWhile, dLc, dLcM, dFld, dFldSet, dFldAdd, dMeth, dMake, dPar3, dDisp, dPrs, dFsi, dGget, dKgt, dKgtL, dCut, dTcut, wipeD, bodyE, startD, List.map_cons, List.map_nil, List.length_cons, List.length_nil, List.replicate_succ, List.replicate_zero, List.cons_append, List.nil_append, Nat.reduceAdd, Nat.reduceSub, Nat.zero_add, List.getElem?_cons_zero, List.getElem?_cons_succ, List.set_cons_zero, List.set_cons_succ, Option.some.injEq, exists_eq_left', exists_eq_left, if_true, sizeLine_eq, Nat.reduceLeDiff, Nat.reduceLT, Nat.zero_le, true_and, and_true, Bool.false_eq_true, if_false]
      have i2 : i < 2 := (List.getElem?_eq_some_iff.mp hx).1
      have xB : Bt S7 4 1750 x := by
        have hx := List.mem_of_getElem? hx
        simp only [List.mem_cons, List.not_mem_nil, or_false] at hx
        rcases hx with rfl | rfl
        · exact x1T.bt
        · exact x2B S7 hv7
      obtain ⟨xs7, e7, _⟩ := id H7
      refine ⟨ty_l e7, _, rfl, sl_t ?_⟩
      rw [eT]
      refine add_t (by rw [sizeLine_eq, List.length_singleton, List.length_take]; omega) (add_i ⟨_, rfl, sl_t ?_⟩)
      rw [eD]
      refine add_t (by rw [sizeLine_eq, List.length_append, List.length_singleton, List.length_take, List.length_drop]; omega) ?_
      have nB := Bt.ins (S := S7) (tlT.sub (td_sub (ts.map tdD) c)) (by rw [List.length_take, List.length_drop]; omega) xB
      refine H7.app (by omega) (whole (nB.mono (by decide) (by decide))) fun xs8 H8 => ?_
      exact ⟨_, rfl, by omega, H8, sp7.up hp ha, of7.w nhS, hv7.ex (ex_up fun kvs z => by rw [e7] at z; cases z)⟩
    · rintro i δ S7 hi ⟨r10, rfl, i2, H7, sp7, of7, hv7⟩
      simp only [dVar, dC, dOp, dUn, dChain, dTr, dB, dAnd, dOr, dNot, dIf, dAndV, dOrV, dNotV, dNil, dCons, dTup, dLst, dLf, dNext, dSeq, dBreak, dCont, dDrop, dRet, dRetN, dIfS, gdName, gdNil, gdCons, gdTup, gdSub, dAsg, dPar, dCall, dCallK, dCB, dM0, dM, dGet1, dGet2, dDk, dDt, dPart, dNoPart, dSlice, dAug, dYes, dSort2, revD, iTupD, iLstD, iLf, iLw, iRange1, iRange2, iRange3, iEnumD, iZipD, iZipMD, iStrD, dGix, dDc, dIsi, dSortSet, dLenSet, dDlit, gdLst, dFor, dWhile, dLc, dLcM, dFld, dFldSet, dFldAdd, dMeth, dMake, dPar3, dDisp, dPrs, dFsi, dGget, dKgt, dKgtL, dCut, dTcut, wipeD, bodyE, startD, List.map_cons, List.map_nil, List.length_cons, List.length_nil, List.replicate_succ, List.replicate_zero, List.cons_append, List.nil_append, Nat.reduceAdd, Nat.reduceSub, Nat.zero_add, List.getElem?_cons_zero, List.getElem?_cons_succ, List.set_cons_zero, List.set_cons_succ, Option.some.injEq, exists_eq_left', exists_eq_left, if_true, sizeLine_eq, Nat.reduceLeDiff, Nat.reduceLT, Nat.zero_le, true_and, and_true, Bool.false_eq_true, if_false]
      obtain ⟨xs7, e7, _⟩ := id H7
      refine ⟨ty_l e7, _, rfl, add_i ⟨_, rfl, sl_t ?_⟩⟩
      have cl := cutD_len (ts.map tdD) (some (c : Int)) (some ((c : Int) + 1))
      refine add_t (by rw [sizeLine_eq]; omega) ?_
      have nT : Tp 5 19212 (.tup (ts.map tdD ++ DL.cutD (ts.map tdD) (some (c : Int)) (some ((c : Int) + 1)))) := Tp.tup (k := 4) (w := 1600) (n := 12) (app_all tt fun d hd => tt d (cutD_mem hd)) (by rw [List.length_append]; omega) (by rw [List.length_append]; omega)
      refine H7.app (by omega) (whole (nT.mono (Nat.le_refl _) (by decide)).bt) fun xs8 H8 => ⟨?_, (sp7.up hp ha).mono (by omega), of7.w nhS⟩
      obtain ⟨xs, e, l0, l, hx⟩ := H8
      exact ⟨xs, e, l0, by omega, hx⟩
end K05


namespace K05
open PySem L2 PyProof.Rows DL
def sp__law_by_hand : SpD := fun ds S Q _ => ds = [] ∧ ∀ xs : List D, xs.length ≤ 1000 → (∀ x ∈ xs, ∀ S, Bt S 12 60000 x) → Q (.fl xs) S
theorem ok__law_by_hand {P : Program} {w : World} {K : PySem.W.Frag} {mg : Str → Option Value} {base : Heap} (T : Txt K w mg) (C__law_odd_rows : Cal P w K mg base 1 "_law_odd_rows" s__law_odd_rows [] sp__law_odd_rows) {ff : Addr} {fd : FuncData} (F : Fun K "_law_by_hand" "_law_by_hand" s__law_by_hand ff fd) (mf : mg "_law_by_hand" = some (.ref ff)) : Cal P w K mg base 2 "_law_by_hand" s__law_by_hand [] sp__law_by_hand := by
  refine ⟨ff, fd, okD F sc__law_by_hand (fun ds S Q E h => ?len) (fun cdv A outer s H E ds S Q E' hcd hr h => ⟨_, (dss_cons (ds_par 0 1 rfl sc__law_by_hand.nd (da_cons (de_tup (da_cons (de_tup (da_cons de_str (da_cons (de_tup (da_cons de_str da_nil)) da_nil))) da_nil)) (da_cons (de_lst da_nil) da_nil)))
      (dss_cons (ds_for PassesOwn.never rfl (di_lf (de_c0 C__law_odd_rows hr)) (dg_name 2 sc__law_by_hand.nd) (dss_cons (ds_expr (de_m PySem.F.plainAttrs_list PySem.F.slot_list_append PySem.F.type_list_append md_append (de_var 1) (da_cons (de_tup (da_cons (de_var 0) (da_cons (de_tup da_nil) (da_cons (de_tup (da_cons (de_tup (da_cons de_str (da_cons (de_tup da_nil) (da_cons (de_tup (da_cons (de_tup (da_cons de_str (da_cons de_str da_nil))) (da_cons (de_var 2) da_nil))) da_nil)))) (da_cons (de_tup (da_cons de_str (da_cons (de_tup (da_cons de_str da_nil)) (da_cons (de_tup da_nil) da_nil)))) da_nil))) da_nil)))) da_nil)))
      (dss_cons (ds_set 3 sc__law_by_hand.nd (de_tup (da_cons de_str (da_cons (de_tup (da_cons de_str da_nil)) (da_cons (de_tup (da_cons (de_tup (da_cons de_str (da_cons de_str da_nil))) (da_cons (de_var 2) da_nil))) (da_cons de_str da_nil))))))
      (dss_one (ds_expr (de_m PySem.F.plainAttrs_list PySem.F.slot_list_append PySem.F.type_list_append md_append (de_var 1) (da_cons (de_tup (da_cons (de_var 0) (da_cons (de_tup (da_cons (de_var 3) da_nil)) (da_cons (de_tup (da_cons (de_tup (da_cons de_str (da_cons (de_tup da_nil) (da_cons (de_tup (da_cons (de_tup (da_cons de_str (da_cons de_str (da_cons de_str (da_cons (de_tup (da_cons de_str da_nil)) da_nil))))) da_nil)) da_nil)))) (da_cons (de_tup (da_cons de_str (da_cons (de_tup (da_cons de_str da_nil)) (da_cons (de_tup da_nil) da_nil)))) da_nil))) da_nil)))) da_nil)))))))
      (dss_cons (ds_set 4 sc__law_by_hand.nd (de_tup (da_cons de_str (da_cons (de_tup da_nil) (da_cons (de_tup da_nil) da_nil)))))
      (dss_cons (ds_for PassesOwn.never rfl (di_tup (de_tup (da_cons de_int (da_cons de_int (da_cons de_int (da_cons de_int (da_cons de_int (da_cons de_int da_nil)))))))) (dg_name 5 sc__law_by_hand.nd) (dss_cons (ds_set 6 sc__law_by_hand.nd (de_callTy cd_tuple (by rfl) T.nb_tuple (da_cons (de_lc [("k", 7)] rfl sc__law_by_hand.nd (di_range1 (by rfl) T.nb_range (da_cons (de_var 5) da_nil)) (blkOk_by (N := ["kinds", "found", "row", "template", "main", "many", "some", "k", "name", "none"]) (sc := defScope s__law_by_hand) (by decide +kernel)) (fun _ _ _ _ _ => (pg_name (i := 7) sc__law_by_hand.nd rfl (Or.inl rfl) (Or.inr rfl))) (fun N => (tg_name (vs := [7]) (i := 7) (by decide))) (fun _ _ _ _ _ => dts_nil) (fun _ _ _ _ _ => (de_tup (da_cons (de_fsi (de_var 7)) (da_cons (de_tup da_nil) da_nil))))) da_nil)))
      (dss_cons (ds_set 1 sc__law_by_hand.nd (de_op (od_add true) (de_var 1) (de_lf (da_cons (de_tup (da_cons (de_var 6) (da_cons (de_tup da_nil) (da_cons (de_tup (da_cons (de_var 4) da_nil)) da_nil)))) (da_cons (de_tup (da_cons (de_tup (da_cons (de_tup (da_cons de_str (da_cons (de_callTy cd_tuple (by rfl) T.nb_tuple (da_cons (de_lc [("name", 8), ("none", 9)] rfl sc__law_by_hand.nd (di_tup (de_var 6)) (blkOk_by (N := ["kinds", "found", "row", "template", "main", "many", "some", "k", "name", "none"]) (sc := defScope s__law_by_hand) (by decide +kernel)) (fun _ _ _ _ _ => (pg_tup (n := 2) rfl (pgs_cons (pg_name (i := 8) sc__law_by_hand.nd rfl (Or.inl rfl) (Or.inr rfl)) (pgs_cons (pg_name (i := 9) sc__law_by_hand.nd rfl (Or.inl rfl) (Or.inr rfl)) pgs_nil)))) (fun N => (tg_tup (vs := [8, 9]) (n := 2) (tgs_cons (vs := [8, 9]) (i := 8) (by decide) (tgs_cons (vs := [8, 9]) (i := 9) (by decide) (tgs_nil (vs := [8, 9])))))) (fun _ _ _ _ _ => dts_nil) (fun _ _ _ _ _ => (de_var 8))) da_nil)) da_nil))) da_nil)) (da_cons (de_tup da_nil) (da_cons (de_tup (da_cons (de_var 4) da_nil)) da_nil)))) da_nil)))))
      (dss_cons (ds_expr (de_m PySem.F.plainAttrs_list PySem.F.slot_list_append PySem.F.type_list_append md_append (de_var 1) (da_cons (de_tup (da_cons (de_tup da_nil) (da_cons (de_tup da_nil) (da_cons (de_op (od_add false) (de_tup (da_cons (de_var 4) da_nil)) (de_callTy cd_tuple (by rfl) T.nb_tuple (da_cons (de_lc [("name", 8), ("none", 9)] rfl sc__law_by_hand.nd (di_tup (de_var 6)) (blkOk_by (N := ["kinds", "found", "row", "template", "main", "many", "some", "k", "name", "none"]) (sc := defScope s__law_by_hand) (by decide +kernel)) (fun _ _ _ _ _ => (pg_tup (n := 2) rfl (pgs_cons (pg_name (i := 8) sc__law_by_hand.nd rfl (Or.inl rfl) (Or.inr rfl)) (pgs_cons (pg_name (i := 9) sc__law_by_hand.nd rfl (Or.inl rfl) (Or.inr rfl)) pgs_nil)))) (fun N => (tg_tup (vs := [8, 9]) (n := 2) (tgs_cons (vs := [8, 9]) (i := 8) (by decide) (tgs_cons (vs := [8, 9]) (i := 9) (by decide) (tgs_nil (vs := [8, 9])))))) (fun _ _ _ _ _ => dts_nil) (fun _ _ _ _ _ => (de_tup (da_cons (de_var 8) (da_cons (de_tup da_nil) (da_cons (de_tup da_nil) da_nil)))))) da_nil))) da_nil)))) da_nil)))
      (dss_one (ds_expr (de_m PySem.F.plainAttrs_list PySem.F.slot_list_append PySem.F.type_list_append md_append (de_var 1) (da_cons (de_tup (da_cons (de_tup da_nil) (da_cons (de_callTy cd_tuple (by rfl) T.nb_tuple (da_cons (de_lc [("name", 8), ("none", 9)] rfl sc__law_by_hand.nd (di_tup (de_var 6)) (blkOk_by (N := ["kinds", "found", "row", "template", "main", "many", "some", "k", "name", "none"]) (sc := defScope s__law_by_hand) (by decide +kernel)) (fun _ _ _ _ _ => (pg_tup (n := 2) rfl (pgs_cons (pg_name (i := 8) sc__law_by_hand.nd rfl (Or.inl rfl) (Or.inr rfl)) (pgs_cons (pg_name (i := 9) sc__law_by_hand.nd rfl (Or.inl rfl) (Or.inr rfl)) pgs_nil)))) (fun N => (tg_tup (vs := [8, 9]) (n := 2) (tgs_cons (vs := [8, 9]) (i := 8) (by decide) (tgs_cons (vs := [8, 9]) (i := 9) (by decide) (tgs_nil (vs := [8, 9])))))) (fun _ _ _ _ _ => dts_nil) (fun _ _ _ _ _ => (de_tup (da_cons (de_var 8) (da_cons (de_tup da_nil) (da_cons (de_tup da_nil) (da_cons de_str da_nil))))))) da_nil)) (da_cons (de_tup (da_cons (de_var 4) da_nil)) da_nil)))) da_nil))))))))
      (dss_one (ds_ret (de_var 1))))))), ?run⟩), F.binds (ps := []) fun _ _ _ _ _ _ us hl => match us, hl with | [], _ => rfl, mf, F⟩
  case len => obtain ⟨rfl, _⟩ := h; rfl
  case run =>
    obtain ⟨rfl, q⟩ := h
    simp only [dVar, dC, dOp, dUn, dChain, dTr, dB, dAnd, dOr, dNot, dIf, dAndV, dOrV, dNotV, dNil, dCons, dTup, dLst, dLf, dNext, dSeq, dBreak, dCont, dDrop, dRet, dRetN, dIfS, gdName, gdNil, gdCons, gdTup, gdSub, dAsg, dPar, dCall, dCallK, dCB, dM0, dM, dGet1, dGet2, dDk, dDt, dPart, dNoPart, dSlice, dAug, dYes, dSort2, revD, iTupD, iLstD, iLf, iLw, iRange1, iRange2, iRange3, iEnumD, iZipD, iZipMD, iStrD, dGix, dDc, dIsi, dSortSet, dLenSet, dDlit, gdLst, dFor, dWhile, dLc, dLcM, dFld, dFldSet, dFldAdd, dMeth, dMake, dPar3, dDisp, dPrs, dFsi, dGget, dKgt, dKgtL, dCut, dTcut, wipeD, bodyE, startD, List.map_cons, List.map_nil, List.length_cons, List.length_nil, List.replicate_succ, List.replicate_zero, List.cons_append, List.nil_append, Nat.reduceAdd, Nat.reduceSub, Nat.zero_add, List.getElem?_cons_zero, List.getElem?_cons_succ, List.set_cons_zero, List.set_cons_succ, Option.some.injEq, exists_eq_left', exists_eq_left, if_true, sizeLine_eq, Nat.reduceLeDiff, Nat.reduceLT, Nat.zero_le, true_and, and_true, Bool.false_eq_true, if_false]
    intro h nh
    refine ⟨_, _, rfl, rfl, fun xs xl xc => ⟨_, rfl, ?_⟩⟩
    have s4 : ∀ z ∈ (["main", "tell", "p", "u", "a", "k", "f", "s", "b", "use"] : List Str), PyData.strOk z = true ∧ z.length ≤ 4 := by decide +kernel
    have sT : ∀ {k : Nat} {z : Str}, z ∈ (["main", "tell", "p", "u", "a", "k", "f", "s", "b", "use"] : List Str) → Tp k 4 (.str z) := fun hz => .str (s4 _ hz).1 (s4 _ hz).2 (by have := (s4 _ hz).2; omega)
    have t1 : ∀ {k : Nat} {z : Str}, z ∈ (["main", "tell", "p", "u", "a", "k", "f", "s", "b", "use"] : List Str) → Tp (k + 1) 5 (.tup [.str z]) := fun hz => Tp.tup (k := _) (w := 4) (n := 1) (fun d hd => by rw [List.mem_singleton.mp hd]; exact sT hz) (by simp) (by simp)
    refine fr_seq (fun i δ S' => ∃ r2 r3, δ = [some (.tup [.tup [.str "k", .tup [.str "f"]]]), some (.ref h), r2, r3, none, none, none, none, none, none] ∧ i ≤ xs.length ∧ DL.Sub S S' ∧ ∃ ys, S' h = some (.lst ys) ∧ ys.length ≤ 2 * i ∧ ∀ y ∈ ys, ∀ S, Bt S 12 60000 y) ⟨none, none, rfl, Nat.zero_le _, DL.Sub.refl.un nh, [], up_same, Nat.zero_le _, fun y hy => (nomatch hy)⟩ ?_ ?_
    · rintro i x δ S5 hx ⟨r2, r3, rfl, _, sub5, ys, e5, l5, hy⟩
      have i2 : i < xs.length := (List.getElem?_eq_some_iff.mp hx).1
      have hxc := xc x (List.mem_of_getElem? hx)
      simp only [dVar, dC, dOp, dUn, dChain, dTr, dB, dAnd, dOr, dNot, dIf, dAndV, dOrV, dNotV, dNil, dCons, dTup, dLst, dLf, dNext, dSeq, dBreak, dCont, dDrop, dRet, dRetN, dIfS, gdName, gdNil, gdCons, gdTup, gdSub, dAsg, dPar, dCall, dCallK, dCB, dM0, dM, dGet1, dGet2, dDk, dDt, dPart, dNoPart, dSlice, dAug, dYes, dSort2, revD, iTupD, iLstD, iLf, iLw, iRange1, iRange2, iRange3, iEnumD, iZipD, iZipMD, iStrD, dGix, dDc, dIsi, dSortSet, dLenSet, dDlit, gdLst, dFor, dWhile, dLc, dLcM, dFld, dFldSet, dFldAdd, dMeth, dMake, dPar3, dDisp, dPrs, dFsi, dGget, dKgt, dKgtL, dCut, dTcut, wipeD, bodyE, startD, List.map_cons, List.map_nil, List.length_cons, List.length_nil, List.replicate_succ, List.replicate_zero, List.cons_append, List.nil_append, Nat.reduceAdd, Nat.reduceSub, Nat.zero_add, List.getElem?_cons_zero, List.getElem?_cons_succ, List.set_cons_zero, List.set_cons_succ, Option.some.injEq, exists_eq_left', exists_eq_left, if_true, sizeLine_eq, Nat.reduceLeDiff, Nat.reduceLT, Nat.zero_le, true_and, and_true, Bool.false_eq_true, if_false]
      have b0 : ∀ S, Bt S 3 100 x := fun S => bt_of hxc
      have tT : Tp 1 10 (.tup [.str "tell", .str "a"]) := (Tp.pair (k := 0) (sT (by simp)) (sT (by simp))).mono (by decide) (by decide)
      have b1 : ∀ S, Bt S 4 200 (.tup [.tup [.str "tell", .str "a"], x]) := fun S => (Bt.ins (xs := [.tup [.str "tell", .str "a"]]) (ys := []) (k := 3) (w := 11) ((Tl.one tT).mono (by decide) (Nat.le_refl _)) (by simp) (b0 S)).mono (by decide) (by decide)
      have b2 : ∀ S, Bt S 5 300 (.tup [.str "main", .tup [], .tup [.tup [.str "tell", .str "a"], x]]) := fun S => (Bt.ins (xs := [.str "main", .tup []]) (ys := []) (k := 4) (w := 6) ((Tl.one (sT (by simp))).app (.one (w := 0) tp_nil)) (by simp) (b1 S)).mono (by decide) (by decide)
      have pT : Tp 5 20 (.tup [.str "p", .tup [.str "u"], .tup []]) := (Tp.triple (k := 1) (w2 := 5) (w3 := 0) (sT (by simp)) (t1 (by simp)) tp_nil).mono (by decide) (by decide)
      have b3 : ∀ S, Bt S 6 400 (.tup [.tup [.str "main", .tup [], .tup [.tup [.str "tell", .str "a"], x]], .tup [.str "p", .tup [.str "u"], .tup []]]) := fun S => (Bt.ins (xs := []) (ys := [.tup [.str "p", .tup [.str "u"], .tup []]]) (k := 5) (w := 21) (Tl.one pT) (by simp) (b2 S)).mono (by decide) (by decide)
      have kT : Tp 6 20 (.tup [.tup [.str "k", .tup [.str "f"]]]) := (Tp.tup (k := 2) (w := 11) (n := 1) (fun d hd => by
        rw [List.mem_singleton.mp hd]
        exact (Tp.pair (k := 1) (w2 := 5) (sT (by simp)) (t1 (by simp)))) (by simp) (by simp)).mono (by decide) (by decide)
      have bA : ∀ S, Bt S 12 60000 (.tup [.tup [.tup [.str "k", .tup [.str "f"]]], .tup [], .tup [.tup [.str "main", .tup [], .tup [.tup [.str "tell", .str "a"], x]], .tup [.str "p", .tup [.str "u"], .tup []]]]) := fun S => (Bt.ins (xs := [.tup [.tup [.str "k", .tup [.str "f"]]], .tup []]) (ys := []) (k := 6) (w := 21 + 1) ((Tl.one kT).app (.one (w := 0) tp_nil)) (by simp) (b3 S)).mono (by decide) (by decide)
      have c2 : ∀ S, Bt S 6 400 (.tup [.str "s", .tup [.str "b"], .tup [.tup [.str "tell", .str "a"], x], .str "a"]) := fun S => (Bt.ins (xs := [.str "s", .tup [.str "b"]]) (ys := [.str "a"]) (k := 4) (w := 5 + 6 + 5) (((Tl.one (sT (by simp))).app (.one (t1 (by simp)))).app (.one (sT (by simp)))) (by simp) (b1 S)).mono (by decide) (by decide)
      have c3 : ∀ S, Bt S 7 500 (.tup [.tup [.str "s", .tup [.str "b"], .tup [.tup [.str "tell", .str "a"], x], .str "a"]]) := fun S => (Bt.ins (xs := []) (ys := []) (k := 6) (w := 0) Tl.nil (by simp) (c2 S)).mono (by decide) (by decide)
      have uT : Tp 2 30 (.tup [.str "use", .str "a", .str "s", .tup [.str "a"]]) := (Tp.four (k := 1) (sT (by simp)) (sT (by simp)) (sT (by simp)) (t1 (by simp))).mono (by decide) (by decide)
      have mT : Tp 7 100 (.tup [.tup [.str "main", .tup [], .tup [.tup [.str "use", .str "a", .str "s", .tup [.str "a"]]]], .tup [.str "p", .tup [.str "u"], .tup []]]) := (Tp.pair (k := 5) (w1 := 50) ((Tp.triple (k := 3) (w2 := 0) (sT (by simp)) tp_nil (Tp.tup (k := 2) (w := 30) (n := 1) (fun d hd => by rw [List.mem_singleton.mp hd]; exact uT) (by simp) (by simp))).mono (by decide) (by decide)) pT).mono (by decide) (by decide)
      have bB : ∀ S, Bt S 12 60000 (.tup [.tup [.tup [.str "k", .tup [.str "f"]]], .tup [.tup [.str "s", .tup [.str "b"], .tup [.tup [.str "tell", .str "a"], x], .str "a"]], .tup [.tup [.str "main", .tup [], .tup [.tup [.str "use", .str "a", .str "s", .tup [.str "a"]]]], .tup [.str "p", .tup [.str "u"], .tup []]]]) := fun S =>
        (Bt.ins (xs := [.tup [.tup [.str "k", .tup [.str "f"]]]]) (ys := [.tup [.tup [.str "main", .tup [], .tup [.tup [.str "use", .str "a", .str "s", .tup [.str "a"]]]], .tup [.str "p", .tup [.str "u"], .tup []]]]) (k := 7) (w := 21 + 101) ((Tl.one (kT.mono (by decide) (Nat.le_refl _))).app (.one mT)) (by simp) (c3 S)).mono (by decide) (by decide)
      refine ⟨ty_l e5, app_of e5 (by rw [sizeLine_eq]; omega) ⟨ty_l up_same, app_of up_same (by rw [sizeLine_eq, List.length_append, List.length_singleton]; omega) ?_⟩⟩
      rw [up_up]
      refine ⟨_, _, rfl, i2, sub5.u nh, _, up_same, by rw [List.length_append, List.length_append, List.length_singleton, List.length_singleton]; omega, ?_⟩
      exact app_all (app_all hy fun d hd => by rw [List.mem_singleton.mp hd]; exact bA) fun d hd => by rw [List.mem_singleton.mp hd]; exact bB
    rintro i δ S5 hi ⟨r2, r3, rfl, i3, sub5, ys, e5, l5, hy⟩
    simp only [dVar, dC, dOp, dUn, dChain, dTr, dB, dAnd, dOr, dNot, dIf, dAndV, dOrV, dNotV, dNil, dCons, dTup, dLst, dLf, dNext, dSeq, dBreak, dCont, dDrop, dRet, dRetN, dIfS, gdName, gdNil, gdCons, gdTup, gdSub, dAsg, dPar, dCall, dCallK, dCB, dM0, dM, dGet1, dGet2, dDk, dDt, dPart, dNoPart, dSlice, dAug, dYes, dSort2, revD, iTupD, iLstD, iLf, iLw, iRange1, iRange2, iRange3, iEnumD, iZipD, iZipMD, iStrD, dGix, dDc, dIsi, dSortSet, dLenSet, dDlit, gdLst, dFor, dWhile, dLc, dLcM, dFld, dFldSet, dFldAdd, dMeth, dMake, dPar3, dDisp, dPrs, dFsi, dGget, dKgt, dKgtL, dCut, dTcut, wipeD, bodyE, startD, List.map_cons, List.map_nil, List.length_cons, List.length_nil, List.replicate_succ, List.replicate_zero, List.cons_append, List.nil_append, Nat.reduceAdd, Nat.reduceSub, Nat.zero_add, List.getElem?_cons_zero, List.getElem?_cons_succ, List.set_cons_zero, List.set_cons_succ, Option.some.injEq, exists_eq_left', exists_eq_left, if_true, sizeLine_eq, Nat.reduceLeDiff, Nat.reduceLT, Nat.zero_le, true_and, and_true, Bool.false_eq_true, if_false]
    have mT : Tp 3 10 (.tup [.str "main", .tup [], .tup []]) := (Tp.triple (k := 1) (w2 := 0) (w3 := 0) (sT (by simp)) tp_nil tp_nil).mono (by decide) (by decide)
    refine ⟨_, .inl rfl, fr_seq (fun i δ S' => ∃ h r5 r6 r7 r8 r9, δ = [some (.tup [.tup [.str "k", .tup [.str "f"]]]), some (.ref h), r2, r3, some (.tup [.str "main", .tup [], .tup []]), r5, r6, r7, r8, r9] ∧ i ≤ 6 ∧ S h = none ∧ DL.Sub S S' ∧ ∃ ys, S' h = some (.lst ys) ∧ ys.length ≤ 200 + 4 * i ∧ ∀ y ∈ ys, ∀ S, Bt S 12 60000 y) ⟨h, none, none, none, none, none, rfl, Nat.zero_le _, nh, sub5, ys, e5, by omega, hy⟩ ?_ ?_⟩
    · clear l5 hy e5 sub5 nh
      rintro i x δ S6 hx ⟨h, r5, r6, r7, r8, r9, rfl, _, nh, sub6, ys, e6, l6, hy⟩
      have i2 : i < 6 := (List.getElem?_eq_some_iff.mp hx).1
      obtain ⟨many, m0, m1, rfl⟩ : ∃ m : Nat, 1 ≤ m ∧ m ≤ 9 ∧ x = .int (m : Nat) := by
        have hx := List.mem_of_getElem? hx
        simp only [List.mem_cons, List.not_mem_nil, or_false] at hx
        rcases hx with rfl | rfl | rfl | rfl | rfl | rfl
        · exact ⟨4, by decide, by decide, rfl⟩
        · exact ⟨5, by decide, by decide, rfl⟩
        · exact ⟨6, by decide, by decide, rfl⟩
        · exact ⟨7, by decide, by decide, rfl⟩
        · exact ⟨8, by decide, by decide, rfl⟩
        · exact ⟨9, by decide, by decide, rfl⟩
      simp only [dVar, dC, dOp, dUn, dChain, dTr, dB, dAnd, dOr, dNot, dIf, dAndV, dOrV, dNotV, dNil, dCons, dTup, dLst, dLf, dNext, dSeq, dBreak, dCont, dDrop, dRet, dRetN, dIfS, gdName, gdNil, gdCons, gdTup, gdSub, dAsg, dPar, dCall, dCallK, dCB, dM0, dM, dGet1, dGet2, dDk, dDt, dPart, dNoPart, dSlice, dAug, dYes, dSort2, revD, iTupD, iLstD, iLf, iLw, iRange1, iRange2, iRange3, iEnumD, iZipD, iZipMD, iStrD, dGix, dDc, dIsi, dSortSet, dLenSet, dDlit, gdLst, dFor, dWhile, dLc, dLcM, dFld, dFldSet, dFldAdd, dMeth, dMake, dPar3, dDisp, dPrs, dFsi, dGget, dKgt, dKgtL, dCut, dTcut, wipeD, bodyE, startD, List.map_cons, List.map_nil, List.length_cons, List.length_nil, List.replicate_succ, List.replicate_zero, List.cons_append, List.nil_append, Nat.reduceAdd, Nat.reduceSub, Nat.zero_add, List.getElem?_cons_zero, List.getElem?_cons_succ, List.set_cons_zero, List.set_cons_succ, Option.some.injEq, exists_eq_left', exists_eq_left, if_true, sizeLine_eq, Nat.reduceLeDiff, Nat.reduceLT, Nat.zero_le, true_and, and_true, Bool.false_eq_true, if_false]
      refine ⟨_, rfl, by omega, by omega, ?_⟩
      rw [Int.toNat_natCast]
      refine lc_rng (fun i acc S' => S' = S6 ∧ acc.length = i ∧ i ≤ many ∧ ∀ d ∈ acc, ∃ z : Str, d = .tup [.str z, .tup []] ∧ ∀ k, Tp k 8 (.str z)) ⟨rfl, rfl, Nat.zero_le _, fun d hd => (nomatch hd)⟩ ?_ ?_
      · rintro i acc S' hi ⟨rfl, al, _, ha⟩
        refine ⟨by rw [sizeLine_eq]; omega, by decide +kernel, _, rfl, log_of (by omega), fs_len (by decide +kernel) (by omega), rfl, by rw [List.length_append, List.length_singleton, al], hi, fun d hd => ?_⟩
        rcases List.mem_append.mp hd with h | h
        · exact ha d h
        · rw [List.mem_singleton.mp h]
          exact ⟨_, rfl, fun k => fs_nm (by decide +kernel) (by omega)⟩
      rintro j so S' hj ⟨rfl, sl, sN, hs⟩
      refine tpl_l rfl ?_
      have l9 : so.length ≤ 9 := by omega
      have soT : Tp 5 200 (.tup so) := (Tp.tup (k := 2) (w := 20) (n := 9) (fun d hd => by
        obtain ⟨z, rfl, hz⟩ := hs d hd
        exact (Tp.pair (k := 1) (w1 := 8) (w2 := 0) (hz _) tp_nil).mono (by decide) (by decide)) l9 (by omega)).mono (by decide) (by decide)
      have nmT : ∀ {d : D} {k : Nat}, d ∈ so → Tp k 8 (ix0 d) := fun {d k} hd => by
        obtain ⟨z, rfl, hz⟩ := hs d hd
        exact hz k
      have mm : Tp 5 20 (.tup [.tup [.str "main", .tup [], .tup []]]) := (Tp.tup (k := 3) (w := 10) (n := 1) (fun d hd => by rw [List.mem_singleton.mp hd]; exact mT) (by simp) (by simp)).mono (by decide) (by decide)
      have mapT : ∀ {f : D → D} {w : Nat}, (∀ d ∈ so, Tp 3 w (f d)) → ∀ d ∈ so.map f, Tp 3 w d := fun hf d hd => by
        obtain ⟨y, hy, rfl⟩ := List.mem_map.mp hd
        exact hf y hy
      have fT : Tp 5 200 (.tup [.tup [.str "k", .tup (so.map ix0)]]) := (Tp.tup (k := 4) (w := 100) (n := 1) (fun d hd => by
        rw [List.mem_singleton.mp hd]
        exact (Tp.pair (k := 3) (w1 := 4) (sT (by simp)) ((Tp.tup (k := 0) (w := 8) (n := 9) (fun d hd => by
          obtain ⟨y, hy, rfl⟩ := List.mem_map.mp hd
          exact nmT hy) (by rw [List.length_map]; exact l9) (by rw [List.length_map]; omega)).mono (by decide) (Nat.le_refl _))).mono (by decide) (by decide)) (by simp) (by simp)).mono (by decide) (by decide)
      have p1 : ∀ d ∈ so.map (fun d => D.tup [ix0 d, .tup [], .tup []]), Tp 3 20 d := mapT fun d hd => (Tp.triple (k := 1) (w2 := 0) (w3 := 0) (nmT hd) tp_nil tp_nil).mono (by decide) (by decide)
      have p2 : ∀ d ∈ so.map (fun d => D.tup [ix0 d, .tup [], .tup [], .str "a"]), Tp 3 20 d := mapT fun d hd => (Tp.four (k := 1) (w2 := 0) (w3 := 0) (nmT hd) tp_nil tp_nil (sT (by simp))).mono (by decide) (by decide)
      have z1T : Tp 5 220 (.tup ([.tup [.str "main", .tup [], .tup []]] ++ so.map (fun d => D.tup [ix0 d, .tup [], .tup []]))) := (Tp.tup (k := 3) (w := 20) (n := 10) (app_all (fun d hd => by rw [List.mem_singleton.mp hd]; exact mT.mono (Nat.le_refl _) (by decide)) p1) (by rw [List.length_append, List.length_map, List.length_singleton]; omega) (by rw [List.length_append, List.length_map, List.length_singleton]; omega)).mono (by decide) (by decide)
      have z2T : Tp 5 220 (.tup (so.map (fun d => D.tup [ix0 d, .tup [], .tup [], .str "a"]))) := (Tp.tup (k := 3) (w := 20) (n := 9) p2 (by rw [List.length_map]; omega) (by rw [List.length_map]; omega)).mono (by decide) (by decide)
      have bt : ∀ {d : D}, Tp 6 1000 d → ∀ S, Bt S 12 60000 d := fun h S => (h.mono (by decide) (by decide)).bt
      refine ⟨so, .inl rfl, lc_mp ix0 (by omega) (fun W i x acc hx w => ?_) (tpl_l rfl (add_l (ls_l e6) rfl (by rw [sizeLine_eq]; simp; omega) fun h2 n2 => ?_))⟩
      · obtain ⟨z, rfl, _⟩ := hs x (List.mem_of_getElem? hx)
        exact ⟨_, rfl, rfl, _, _, rfl, _, _, rfl, rfl, w⟩
      refine ⟨ty_l up_same, so, .inl rfl, lc_mp (fun d => .tup [ix0 d, .tup [], .tup []]) (by omega) (fun W i x acc hx w => ?_) (tpl_l rfl (add_t (by rw [sizeLine_eq, List.length_map, List.length_singleton]; omega) (app_of up_same (by rw [sizeLine_eq]; simp; omega) ?_)))⟩
      · obtain ⟨z, rfl, _⟩ := hs x (List.mem_of_getElem? hx)
        exact ⟨_, rfl, rfl, _, _, rfl, _, _, rfl, rfl, w⟩
      rw [up_up]
      refine ⟨ty_l up_same, so, .inl rfl, lc_mp (fun d => .tup [ix0 d, .tup [], .tup [], .str "a"]) (by omega) (fun W i x acc hx w => ?_) (tpl_l rfl (app_of up_same (by rw [sizeLine_eq]; simp; omega) ?_))⟩
      · obtain ⟨z, rfl, _⟩ := hs x (List.mem_of_getElem? hx)
        exact ⟨_, rfl, rfl, _, _, rfl, _, _, rfl, rfl, w⟩
      rw [up_up]
      have nh2 : S h2 = none := by
        cases hh : S h2 with
        | none => rfl
        | some o => rw [sub6 h2 o hh] at n2; cases n2
      refine ⟨h2, _, _, _, _, _, rfl, by omega, nh2, sub6.u nh2, _, up_same, by simp only [List.length_append, List.length_cons, List.length_nil]; omega, ?_⟩
      refine app_all (app_all (app_all hy fun d hd => ?_) fun d hd => ?_) fun d hd => ?_
      · simp only [List.mem_cons, List.not_mem_nil, or_false] at hd
        rcases hd with rfl | rfl
        · exact bt ((Tp.triple (k := 5) (w2 := 0) soT tp_nil mm).mono (Nat.le_refl _) (by decide))
        · exact bt ((Tp.triple (k := 5) (w2 := 0) fT tp_nil mm).mono (Nat.le_refl _) (by decide))
      · rw [List.mem_singleton.mp hd]
        exact bt ((Tp.triple (k := 5) (w1 := 0) (w2 := 0) tp_nil tp_nil z1T).mono (Nat.le_refl _) (by decide))
      · rw [List.mem_singleton.mp hd]
        exact bt ((Tp.triple (k := 5) (w1 := 0) tp_nil z2T mm).mono (Nat.le_refl _) (by decide))
    · rintro i δ S6 hi ⟨h, r5, r6, r7, r8, r9, rfl, i6, nh, sub6, ys, e6, l6, hy⟩
      simp only [dVar, dC, dOp, dUn, dChain, dTr, dB, dAnd, dOr, dNot, dIf, dAndV, dOrV, dNotV, dNil, dCons, dTup, dLst, dLf, dNext, dSeq, dBreak, dCont, dDrop, dRet, dRetN, dIfS, gdName, gdNil, gdCons, gdTup, gdSub, dAsg, dPar, dCall, dCallK, dCB, dM0, dM, dGet1, dGet2, dDk, dDt, dPart, dNoPart, dSlice, dAug, dYes, dSort2, revD, iTupD, iLstD, iLf, iLw, iRange1, iRange2, iRange3, iEnumD, iZipD, iZipMD, iStrD, dGix, dDc, dIsi, dSortSet, dLenSet, dDlit, gdLst, dFor, dWhile, dLc, dLcM, dFld, dFldSet, dFldAdd, dMeth, dMake, dPar3, dDisp, dPrs, dFsi, dGget, dKgt, dKgtL, dCut, dTcut, wipeD, bodyE, startD, List.map_cons, List.map_nil, List.length_cons, List.length_nil, List.replicate_succ, List.replicate_zero, List.cons_append, List.nil_append, Nat.reduceAdd, Nat.reduceSub, Nat.zero_add, List.getElem?_cons_zero, List.getElem?_cons_succ, List.set_cons_zero, List.set_cons_succ, Option.some.injEq, exists_eq_left', exists_eq_left, if_true, sizeLine_eq, Nat.reduceLeDiff, Nat.reduceLT, Nat.zero_le, true_and, and_true, Bool.false_eq_true, if_false]
      exact ⟨_, S, .fz sub6 e6 nh, q ys (by omega) hy⟩
end K05


namespace K05
open PySem L2 PyProof.Rows DL
def sp_law : SpD := fun ds S Q _ => ∃ ns : List Int, ds = [.fl (ns.map D.int)] ∧ ns.length ≤ 63 ∧ ∀ S', Q (.bl true) S'
theorem ok_law {P : Program} {w : World} {K : PySem.W.Frag} {mg : Str → Option Value} {base : Heap} (T : Txt K w mg) (C__law_spring : Cal P w K mg base 1 "_law_spring" s__law_spring ["script"] sp__law_spring) (C__law_by_hand : Cal P w K mg base 2 "_law_by_hand" s__law_by_hand [] sp__law_by_hand) (C__law_source : Cal P w K mg base 5 "_law_source" s__law_source ["spring"] sp__law_source) (C__law_draw : Cal P w K mg base 1 "_law_draw" s__law_draw ["spring", "many"] sp__law_draw) (C__law_is_source : Cal P w K mg base 6 "_law_is_source" s__law_is_source ["it"] sp__law_is_source) (C__law_longer : Cal P w K mg base 4 "_law_longer" s__law_longer ["spring", "source"] sp__law_longer) (C__law_bent : Cal P w K mg base 10 "_law_bent" s__law_bent ["spring", "it", "deep"] (sp__law_bent 6)) (C__law_right : Cal P w K mg base 8 "_law_right" s__law_right ["it"] sp__law_right) {ff : Addr} {fd : FuncData} (F : Fun K "law" "law" s_law ff fd) (mf : mg "law" = some (.ref ff)) : Cal P w K mg base 11 "law" s_law ["script"] sp_law := by
  refine ⟨ff, fd, okD F sc_law (fun ds S Q E h => ?len) (fun cdv A outer s H E ds S Q E' hcd hr h => ⟨_, (dss_cons (ds_set 1 sc_law.nd (de_c C__law_spring hr (da_cons (de_var 0) da_nil)))
      (dss_cons (ds_set 2 sc_law.nd (de_lf (da_cons de_non (da_cons de_bl (da_cons de_int (da_cons de_str (da_cons de_str (da_cons (de_tup da_nil) (da_cons (de_tup (da_cons (de_tup da_nil) (da_cons (de_tup da_nil) (da_cons (de_tup da_nil) da_nil)))) (da_cons de_dk da_nil))))))))))
      (dss_cons (ds_set 2 sc_law.nd (de_op (od_add false) (de_var 2) (de_lf (da_cons (de_tup (da_cons (de_tup da_nil) (da_cons (de_tup da_nil) (da_cons (de_tup (da_cons (de_tup (da_cons de_str (da_cons (de_tup da_nil) (da_cons (de_tup da_nil) da_nil)))) da_nil)) da_nil)))) (da_cons (de_tup (da_cons (de_tup da_nil) (da_cons (de_tup (da_cons (de_tup (da_cons de_str (da_cons (de_tup da_nil) (da_cons (de_tup da_nil) da_nil)))) da_nil)) da_nil))) da_nil)))))
      (dss_cons (ds_set 3 sc_law.nd (de_op od_mulT1 (de_tup (da_cons (de_tup (da_cons de_str (da_cons de_str da_nil))) da_nil)) (de_op (od_add false) de_int (de_c C__law_draw hr (da_cons (de_var 1) (da_cons de_int da_nil))))))
      (dss_cons (ds_set 2 sc_law.nd (de_op (od_add false) (de_var 2) (de_lf (da_cons (de_tup (da_cons (de_tup da_nil) (da_cons (de_tup (da_cons (de_tup (da_cons de_str (da_cons (de_tup (da_cons de_str da_nil)) (da_cons (de_var 3) (da_cons de_str da_nil))))) da_nil)) (da_cons (de_tup (da_cons (de_tup (da_cons de_str (da_cons (de_tup da_nil) (da_cons (de_tup da_nil) da_nil)))) da_nil)) da_nil)))) (da_cons (de_tup (da_cons (de_tup da_nil) (da_cons (de_tup da_nil) (da_cons (de_tup (da_cons (de_tup (da_cons de_str (da_cons (de_tup da_nil) (da_cons (de_var 3) da_nil)))) da_nil)) da_nil)))) da_nil)))))
      (dss_cons (ds_set 2 sc_law.nd (de_op (od_add false) (de_var 2) (de_c0 C__law_by_hand hr)))
      (dss_cons (ds_for PassesOwn.never rfl (di_range1 (by rfl) T.nb_range (da_cons de_int da_nil)) (dg_name 4 sc_law.nd) (dss_cons (ds_set 5 sc_law.nd (de_c C__law_source hr (da_cons (de_var 1) da_nil)))
      (dss_cons (ds_if (dt_not (dt_tr td_tru (de_c C__law_is_source hr (da_cons (de_var 5) da_nil)))) (dss_one (ds_ret de_bl)) dss_nil)
      (dss_cons (ds_set 2 sc_law.nd (de_op (od_add false) (de_var 2) (de_lf (da_cons (de_var 5) (da_cons (de_callTy (cd_list false) (by rfl) T.nb_list (da_cons (de_var 5) da_nil)) da_nil)))))
      (dss_cons (ds_set 2 sc_law.nd (de_op (od_add false) (de_var 2) (de_lf (da_cons (de_c C__law_longer hr (da_cons (de_var 1) (da_cons (de_var 5) da_nil))) (da_cons (de_c C__law_longer hr (da_cons (de_var 1) (da_cons (de_var 5) da_nil))) da_nil)))))
      (dss_one (ds_set 2 sc_law.nd (de_op (od_add false) (de_var 2) (de_lc [("k", 6)] rfl sc_law.nd (di_range1 (by rfl) T.nb_range (da_cons de_int da_nil)) (blkOk_by (N := ["script", "spring", "some", "long", "turn", "source", "k", "it"]) (sc := defScope s_law) (by decide +kernel)) (fun _ _ _ _ _ => (pg_name (i := 6) sc_law.nd rfl (Or.inl rfl) (Or.inr rfl))) (fun N => (tg_name (vs := [6]) (i := 6) (by decide))) (fun _ _ _ _ _ => dts_nil) (fun _ _ _ _ _ => (de_c C__law_bent hr (da_cons (de_var 1) (da_cons (de_var 5) (da_cons de_int da_nil))))))))))))))
      (dss_one (ds_ret (de_cmp (od_eq0 hr) (de_lc [("it", 7)] rfl sc_law.nd (di_lf (de_var 2)) (blkOk_by (N := ["script", "spring", "some", "long", "turn", "source", "k", "it"]) (sc := defScope s_law) (by decide +kernel)) (fun _ _ _ _ _ => (pg_name (i := 7) sc_law.nd rfl (Or.inl rfl) (Or.inr rfl))) (fun N => (tg_name (vs := [7]) (i := 7) (by decide))) (fun _ _ _ _ _ => pts_one (dt_not (dt_tr td_tru (de_c C__law_right hr (da_cons (de_var 7) da_nil))))) (fun _ _ _ _ _ => (de_var 7))) (de_lf da_nil))))))))))), ?run⟩), F.binds (ps := ["script"]) fun _ _ _ _ _ _ us hl => match us, hl with | [_], _ => rfl, mf, F⟩
  case len => obtain ⟨ns, rfl, _⟩ := h; rfl
  case run =>
    obtain ⟨ns, rfl, hl, q⟩ := h
    simp only [dVar, dC, dOp, dUn, dChain, dTr, dB, dAnd, dOr, dNot, dIf, dAndV, dOrV, dNotV, dNil, dCons, dTup, dLst, dLf, dNext, dSeq, dBreak, dCont, dDrop, dRet, dRetN, dIfS, gdName, gdNil, gdCons, gdTup, gdSub, dAsg, dPar, dCall, dCallK, dCB, dM0, dM, dGet1, dGet2, dDk, dDt, dPart, dNoPart, dSlice, dAug, dYes, dSort2, revD, iTupD, iLstD, iLf, iLw, iRange1, iRange2, iRange3, iEnumD, iZipD, iZipMD, iStrD, dGix, dDc, dIsi, dSortSet, dLenSet, dDlit, gdLst, dFor, dWhile, dLc, dLcM, dFld, dFldSet, dFldAdd, dMeth, dMake, dPar3, dDisp, dPrs, dFsi, dGget, dKgt, dKgtL, dCut, dTcut, wipeD, bodyE, startD, List.map_cons, List.map_nil, List.length_cons, List.length_nil, List.replicate_succ, List.replicate_zero, List.cons_append, List.nil_append, Nat.reduceAdd, Nat.reduceSub, Nat.zero_add, List.getElem?_cons_zero, List.getElem?_cons_succ, List.set_cons_zero, List.set_cons_succ, Option.some.injEq, exists_eq_left', exists_eq_left, if_true, sizeLine_eq, Nat.reduceLeDiff, Nat.reduceLT, Nat.zero_le, true_and, and_true, Bool.false_eq_true, if_false]
    refine ⟨ns, rfl, hl, fun p a S1 sp1 _ _ of1 => ?_⟩
    intro d0 nd
    obtain ⟨dp, da⟩ := sp1.ne nd
    refine add_f rfl rfl (by rw [sizeLine_eq]; exact Nat.le_of_ble_eq_true rfl) ?_
    refine ⟨p, a, 100000, 30, rfl, by decide, by decide, (sp1.mono (by decide)).up dp da, fun i3 S3 i30 i31 sp3 of3 => add_i (mul_rows (by omega) (by omega) fun ys yl yh => ?_)⟩
    have hd0 : S3 d0 = some (.dk []) := by rw [of3 d0 dp da, up_same]
    refine add_f rfl rfl (by rw [sizeLine_eq]; exact Nat.le_of_ble_eq_true rfl) ⟨rfl, fun xs xl xb => add_f rfl rfl (by rw [sizeLine_eq]; simp; omega) ⟨_, rfl, by decide, by decide, ?_⟩⟩
    have s4 : ∀ z ∈ (["main", "tell", "v", "s"] : List Str), PyData.strOk z = true ∧ z.length ≤ 4 := by decide +kernel
    have sT : ∀ {k : Nat} {z : Str}, z ∈ (["main", "tell", "v", "s"] : List Str) → Tp k 4 (.str z) := fun hz => .str (s4 _ hz).1 (s4 _ hz).2 (by have := (s4 _ hz).2; omega)
    have tT : Tp 1 10 (.tup [.str "tell", .str "v"]) := (Tp.pair (k := 0) (sT (by simp)) (sT (by simp))).mono (by decide) (by decide)
    have yT : Tp 2 1661 (.tup ys) := Tp.tup (k := 1) (w := 10) (n := 151) (fun d hd => by rw [yh d hd]; exact tT) (by omega) (by omega)
    have mT : Tp 3 20 (.tup [.tup [.str "main", .tup [], .tup []]]) := (Tp.tup (k := 2) (w := 10) (n := 1) (fun d hd => by
      rw [List.mem_singleton.mp hd]
      exact (Tp.triple (k := 1) (w2 := 0) (w3 := 0) (sT (by simp)) tp_nil tp_nil).mono (by decide) (by decide)) (by simp) (by simp)).mono (by decide) (by decide)
    have v1 : Tp 2 5 (.tup [.str "v"]) := Tp.tup (k := 1) (w := 4) (n := 1) (fun d hd => by rw [List.mem_singleton.mp hd]; exact sT (by simp)) (by simp) (by simp)
    have x1 : Tp 5 2000 (.tup [.tup [], .tup [.tup [.str "s", .tup [.str "v"], .tup ys, .str "v"]], .tup [.tup [.str "main", .tup [], .tup []]]]) :=
      (Tp.triple (k := 4) (w1 := 0) (w2 := 1690) (w3 := 20) tp_nil ((Tp.tup (k := 3) (w := 1680) (n := 1) (fun d hd => by
        rw [List.mem_singleton.mp hd]
        exact (Tp.four (k := 2) (sT (by simp)) v1 yT (sT (by simp))).mono (by decide) (by decide)) (by simp) (by simp)).mono (by decide) (by decide)) (mT.mono (by decide) (by decide))).mono (by decide) (by decide)
    have x2 : Tp 5 2000 (.tup [.tup [], .tup [], .tup [.tup [.str "main", .tup [], .tup ys]]]) :=
      (Tp.triple (k := 4) (w1 := 0) (w2 := 0) (w3 := 1690) tp_nil tp_nil ((Tp.tup (k := 3) (w := 1680) (n := 1) (fun d hd => by
        rw [List.mem_singleton.mp hd]
        exact (Tp.triple (k := 2) (w2 := 0) (sT (by simp)) tp_nil yT).mono (by decide) (by decide)) (by simp) (by simp)).mono (by decide) (by decide))).mono (by decide) (by decide)
    refine fr_rng (fun i δ S' => ∃ zs r4 r5 r6 r7, δ = [some (.fl (ns.map D.int)), some (.ref p), some (.fl zs), some (.tup ys), r4, r5, r6, r7] ∧ i ≤ 6 ∧ Spr S' p a (100000 - 15000 * i) ∧ zs.length ≤ 1100 + 20 * i ∧ ∀ z ∈ zs, Bt S' 60 300000 z) ⟨_, _, _, _, _, rfl, Nat.zero_le _, sp3, by simp only [List.length_append, List.length_cons, List.length_nil]; omega, ?_⟩ ?_ ?_
    · refine app_all (app_all (app_all ?_ ?_) ?_) ?_
      · intro x hx
        simp only [List.mem_cons, List.not_mem_nil, or_false] at hx
        rcases hx with rfl | rfl | rfl | rfl | rfl | rfl | rfl | rfl
        all_goals first
          | exact (bt_of (k := 60) (w := 300000) (by decide +kernel))
          | exact (bt_dk (.inl hd0)).mono (by decide) (by decide)
      · intro x hx
        simp only [List.mem_cons, List.not_mem_nil, or_false] at hx
        rcases hx with rfl | rfl <;> exact (bt_of (k := 60) (w := 300000) (by decide +kernel))
      · intro x hx
        simp only [List.mem_cons, List.not_mem_nil, or_false] at hx
        rcases hx with rfl | rfl
        · exact (x1.mono (by decide) (by decide)).bt
        · exact (x2.mono (by decide) (by decide)).bt
      · exact fun x hx => (xb x hx S3).mono (by decide) (by decide)
    · rintro i δ S5 hi ⟨zs, r4, r5, r6, r7, rfl, _, sp5, zl, hz⟩
      simp only [dVar, dC, dOp, dUn, dChain, dTr, dB, dAnd, dOr, dNot, dIf, dAndV, dOrV, dNotV, dNil, dCons, dTup, dLst, dLf, dNext, dSeq, dBreak, dCont, dDrop, dRet, dRetN, dIfS, gdName, gdNil, gdCons, gdTup, gdSub, dAsg, dPar, dCall, dCallK, dCB, dM0, dM, dGet1, dGet2, dDk, dDt, dPart, dNoPart, dSlice, dAug, dYes, dSort2, revD, iTupD, iLstD, iLf, iLw, iRange1, iRange2, iRange3, iEnumD, iZipD, iZipMD, iStrD, dGix, dDc, dIsi, dSortSet, dLenSet, dDlit, gdLst, dFor, dWhile, dLc, dLcM, dFld, dFldSet, dFldAdd, dMeth, dMake, dPar3, dDisp, dPrs, dFsi, dGget, dKgt, dKgtL, dCut, dTcut, wipeD, bodyE, startD, List.map_cons, List.map_nil, List.length_cons, List.length_nil, List.replicate_succ, List.replicate_zero, List.cons_append, List.nil_append, Nat.reduceAdd, Nat.reduceSub, Nat.zero_add, List.getElem?_cons_zero, List.getElem?_cons_succ, List.set_cons_zero, List.set_cons_succ, Option.some.injEq, exists_eq_left', exists_eq_left, if_true, sizeLine_eq, Nat.reduceLeDiff, Nat.reduceLT, Nat.zero_le, true_and, and_true, Bool.false_eq_true, if_false]
      have hi : i < 6 := hi
      refine ⟨p, a, 100000 - 15000 * i - 9000, rfl, sp5.mono (by omega), fun ks ts ps S6 g sp6 of6 => ⟨_, rfl, vk_tp (srG_tp g), ?_⟩⟩
      have hz6 : ∀ z ∈ zs, Bt S6 60 300000 z := fun z h => (hz z h).ex (of6.x.ex sp5)
      have pt : ∀ S, Bt S 60 300000 (srD ks ts ps) := fun S => ((srG_tp g).mono (by decide) (by decide)).bt
      obtain ⟨k0, e, tl, _⟩ := (srG_tp g).tl
      refine tru_b (brF (by rw [srG_ok g]; rfl) ⟨_, _, rfl, rfl, brF rfl ?_⟩)
      refine add_f rfl rfl (by rw [sizeLine_eq]; simp; omega) ?_
      refine ⟨p, a, 100000 - 15000 * i - 9060, ks, ts, ps, rfl, g, sp6.mono (by omega), fun d1 S7 hd1 sp7 of7 => ?_⟩
      refine ⟨p, a, 100000 - 15000 * i - 9120, ks, ts, ps, rfl, g, sp7.mono (by omega), fun d2 S8 hd2 sp8 of8 => ?_⟩
      refine add_f rfl rfl (by rw [sizeLine_eq]; simp; omega) ⟨_, rfl, by decide, by decide, ?_⟩
      have all8 : ∀ z ∈ (zs ++ [srD ks ts ps, .fl [.tup (ks.map hdD), .tup (ts.map tdD), .tup (ps.map pcD)]]) ++ [d1, d2], Bt S8 60 300000 z := by
        refine app_all (app_all (fun z h => ((hz6 z h).ex (of7.ex sp6)).ex (of8.ex sp7)) ?_) ?_
        · intro z h
          simp only [List.mem_cons, List.not_mem_nil, or_false] at h
          rcases h with rfl | rfl
          · exact pt _
          · exact (bt_list tl).mono (by omega) (by decide)
        · intro z h
          simp only [List.mem_cons, List.not_mem_nil, or_false] at h
          rcases h with rfl | rfl
          · exact (hd1.mono (by decide) (by decide)).ex (of8.ex sp7)
          · exact hd2.mono (by decide) (by decide)
      have l8 : ((zs ++ [srD ks ts ps, .fl [.tup (ks.map hdD), .tup (ts.map tdD), .tup (ps.map pcD)]]) ++ [d1, d2]).length ≤ 1104 + 20 * i := by simp only [List.length_append, List.length_cons, List.length_nil]; omega
      generalize (zs ++ [srD ks ts ps, .fl [.tup (ks.map hdD), .tup (ts.map tdD), .tup (ps.map pcD)]]) ++ [d1, d2] = zs8 at all8 l8 ⊢
      refine lc_rng (fun j acc S' => acc.length = j ∧ j ≤ 5 ∧ (∀ d ∈ acc, Bt S' 60 300000 d) ∧ (∀ d ∈ zs8, Bt S' 60 300000 d) ∧ Spr S' p a (100000 - 15000 * i - 9120 - 100 * j)) ⟨rfl, Nat.zero_le _, fun d hd => (nomatch hd), all8, sp8⟩ ?_ ?_
      · rintro j acc S10 hj ⟨al, _, hb, hz10, sp10⟩
        have hj : j < 5 := hj
        refine ⟨by rw [sizeLine_eq]; omega, p, a, 100000 - 15000 * i - 9120 - 100 * (j + 1), _, 5, 6, 20419, rfl, by decide, srG_tp g, sp10.mono (by omega), fun d S11 hd sp11 of11 => ⟨by rw [List.length_append, List.length_singleton, al], hj, app_all (fun y hy => (hb y hy).ex (of11.ex sp10)) fun y hy => ?_, fun y hy => (hz10 y hy).ex (of11.ex sp10), sp11⟩⟩
        rw [List.mem_singleton.mp hy]
        exact hd.mono (by decide) (by decide)
      rintro j acc S10 hj ⟨al, hj5, hb, hz10, sp10⟩
      exact add_f rfl rfl (by rw [sizeLine_eq]; omega) ⟨_, _, _, _, _, rfl, by omega, sp10.mono (by omega), by rw [List.length_append]; omega, app_all hz10 hb⟩
    · rintro i δ S5 hi ⟨zs, r4, r5, r6, r7, rfl, i6, sp5, zl, hz⟩
      simp only [dVar, dC, dOp, dUn, dChain, dTr, dB, dAnd, dOr, dNot, dIf, dAndV, dOrV, dNotV, dNil, dCons, dTup, dLst, dLf, dNext, dSeq, dBreak, dCont, dDrop, dRet, dRetN, dIfS, gdName, gdNil, gdCons, gdTup, gdSub, dAsg, dPar, dCall, dCallK, dCB, dM0, dM, dGet1, dGet2, dDk, dDt, dPart, dNoPart, dSlice, dAug, dYes, dSort2, revD, iTupD, iLstD, iLf, iLw, iRange1, iRange2, iRange3, iEnumD, iZipD, iZipMD, iStrD, dGix, dDc, dIsi, dSortSet, dLenSet, dDlit, gdLst, dFor, dWhile, dLc, dLcM, dFld, dFldSet, dFldAdd, dMeth, dMake, dPar3, dDisp, dPrs, dFsi, dGget, dKgt, dKgtL, dCut, dTcut, wipeD, bodyE, startD, List.map_cons, List.map_nil, List.length_cons, List.length_nil, List.replicate_succ, List.replicate_zero, List.cons_append, List.nil_append, Nat.reduceAdd, Nat.reduceSub, Nat.zero_add, List.getElem?_cons_zero, List.getElem?_cons_succ, List.set_cons_zero, List.set_cons_succ, Option.some.injEq, exists_eq_left', exists_eq_left, if_true, sizeLine_eq, Nat.reduceLeDiff, Nat.reduceLT, Nat.zero_le, true_and, and_true, Bool.false_eq_true, if_false]
      refine ⟨_, rfl, lc_seq (fun _ acc S' => S' = S5 ∧ acc = []) ⟨rfl, rfl⟩ ?_ ?_⟩
      · rintro i x acc S' hx ⟨rfl, rfl⟩
        exact ⟨by rw [sizeLine_eq]; simp, x, rfl, hz x (List.mem_of_getElem? hx), tru_b (brF rfl ⟨rfl, rfl⟩)⟩
      · rintro i acc S' hi ⟨rfl, rfl⟩
        exact e0_f ⟨_, _, .refl _ _, q _⟩
theorem law_ok : ∀ ns : List Int, ns.length ≤ 63 → (∀ z ∈ ns, Builtin.Int.intBits z ≤ 1048576) → sp_law [.fl (ns.map D.int)] (fun _ => none) (fun d _ => d = .bl true) X0 := fun ns h _ => ⟨ns, rfl, h, fun _ => rfl⟩
end K05

namespace K05
open PySem L2 PyProof.Rows DL
theorem all_mk {P : Program} {w : World} {K : PySem.W.Frag} {h : Heap} {mg : Str → Option Value} {fa : Addr} (X : K.In h) (G : h.Ns mainGlobals mg) (hfa : mg "law" = some (.ref fa))
    {f_is_integer f_is_number f_is_name f_are_names f_are_distinct f_is_kind f_are_kinds f_has_head f_have_heads f_are_procedures f_sizes_of f_is_part f_is_row f_are_rows f_used_by f_is_template f_is_source f__law_spring f__law_draw f__law_one_of f__law_names f__law_row f__law_rows f__law_source f__law_value f__law_bent f__law_longer f__law_odd_rows f__law_by_hand f__law_is_name f__law_are_names f__law_is_count f__law_fits f__law_is_row f__law_are_heads f__law_is_in_ring f__law_are_rows f__law_is_source f__law_right f_law fg_BARRED_KINDS fg_SHAPES : Addr} {od_is_integer od_is_number od_is_name od_are_names od_are_distinct od_is_kind od_are_kinds od_has_head od_have_heads od_are_procedures od_sizes_of od_is_part od_is_row od_are_rows od_used_by od_is_template od_is_source od__law_spring od__law_draw od__law_one_of od__law_names od__law_row od__law_rows od__law_source od__law_value od__law_bent od__law_longer od__law_odd_rows od__law_by_hand od__law_is_name od__law_are_names od__law_is_count od__law_fits od__law_is_row od__law_are_heads od__law_is_in_ring od__law_are_rows od__law_is_source od__law_right od_law an_is_integer an_is_number an_is_name an_are_names an_are_distinct an_is_kind an_are_kinds an_has_head an_have_heads an_are_procedures an_sizes_of an_is_part an_is_row an_are_rows an_used_by an_is_template an_is_source an__law_spring an__law_draw an__law_one_of an__law_names an__law_row an__law_rows an__law_source an__law_value an__law_bent an__law_longer an__law_odd_rows an__law_by_hand an__law_is_name an__law_are_names an__law_is_count an__law_fits an__law_is_row an__law_are_heads an__law_is_in_ring an__law_are_rows an__law_is_source an__law_right an_law od_BARRED_KINDS : Option Addr} {sl_is_integer sl_is_number sl_is_name sl_are_names sl_are_distinct sl_is_kind sl_are_kinds sl_has_head sl_have_heads sl_are_procedures sl_sizes_of sl_is_part sl_is_row sl_are_rows sl_used_by sl_is_template sl_is_source sl__law_spring sl__law_draw sl__law_one_of sl__law_names sl__law_row sl__law_rows sl__law_source sl__law_value sl__law_bent sl__law_longer sl__law_odd_rows sl__law_by_hand sl__law_is_name sl__law_are_names sl__law_is_count sl__law_fits sl__law_is_row sl__law_are_heads sl__law_is_in_ring sl__law_are_rows sl__law_is_source sl__law_right sl_law sl_BARRED_KINDS : Array (Option Value)} {oc_is_integer kV_is_integer dc_is_integer pm_is_integer cd_is_integer ct_is_integer oc_is_number kV_is_number dc_is_number pm_is_number cd_is_number ct_is_number oc_is_name kV_is_name dc_is_name pm_is_name cd_is_name ct_is_name oc_are_names kV_are_names dc_are_names pm_are_names cd_are_names ct_are_names oc_are_distinct kV_are_distinct dc_are_distinct pm_are_distinct cd_are_distinct ct_are_distinct oc_is_kind kV_is_kind dc_is_kind pm_is_kind cd_is_kind ct_is_kind oc_are_kinds kV_are_kinds dc_are_kinds pm_are_kinds cd_are_kinds ct_are_kinds oc_has_head kV_has_head dc_has_head pm_has_head cd_has_head ct_has_head oc_have_heads kV_have_heads dc_have_heads pm_have_heads cd_have_heads ct_have_heads oc_are_procedures kV_are_procedures dc_are_procedures pm_are_procedures cd_are_procedures ct_are_procedures oc_sizes_of kV_sizes_of dc_sizes_of pm_sizes_of cd_sizes_of ct_sizes_of oc_is_part kV_is_part dc_is_part pm_is_part cd_is_part ct_is_part oc_is_row kV_is_row dc_is_row pm_is_row cd_is_row ct_is_row oc_are_rows kV_are_rows dc_are_rows pm_are_rows cd_are_rows ct_are_rows oc_used_by kV_used_by dc_used_by pm_used_by cd_used_by ct_used_by oc_is_template kV_is_template dc_is_template pm_is_template cd_is_template ct_is_template oc_is_source kV_is_source dc_is_source pm_is_source cd_is_source ct_is_source oc__law_spring kV__law_spring dc__law_spring pm__law_spring cd__law_spring ct__law_spring oc__law_draw kV__law_draw dc__law_draw pm__law_draw cd__law_draw ct__law_draw oc__law_one_of kV__law_one_of dc__law_one_of pm__law_one_of cd__law_one_of ct__law_one_of oc__law_names kV__law_names dc__law_names pm__law_names cd__law_names ct__law_names oc__law_row kV__law_row dc__law_row pm__law_row cd__law_row ct__law_row oc__law_rows kV__law_rows dc__law_rows pm__law_rows cd__law_rows ct__law_rows oc__law_source kV__law_source dc__law_source pm__law_source cd__law_source ct__law_source oc__law_value kV__law_value dc__law_value pm__law_value cd__law_value ct__law_value oc__law_bent kV__law_bent dc__law_bent pm__law_bent cd__law_bent ct__law_bent oc__law_longer kV__law_longer dc__law_longer pm__law_longer cd__law_longer ct__law_longer oc__law_odd_rows kV__law_odd_rows dc__law_odd_rows pm__law_odd_rows cd__law_odd_rows ct__law_odd_rows oc__law_by_hand kV__law_by_hand dc__law_by_hand pm__law_by_hand cd__law_by_hand ct__law_by_hand oc__law_is_name kV__law_is_name dc__law_is_name pm__law_is_name cd__law_is_name ct__law_is_name oc__law_are_names kV__law_are_names dc__law_are_names pm__law_are_names cd__law_are_names ct__law_are_names oc__law_is_count kV__law_is_count dc__law_is_count pm__law_is_count cd__law_is_count ct__law_is_count oc__law_fits kV__law_fits dc__law_fits pm__law_fits cd__law_fits ct__law_fits oc__law_is_row kV__law_is_row dc__law_is_row pm__law_is_row cd__law_is_row ct__law_is_row oc__law_are_heads kV__law_are_heads dc__law_are_heads pm__law_are_heads cd__law_are_heads ct__law_are_heads oc__law_is_in_ring kV__law_is_in_ring dc__law_is_in_ring pm__law_is_in_ring cd__law_is_in_ring ct__law_is_in_ring oc__law_are_rows kV__law_are_rows dc__law_are_rows pm__law_are_rows cd__law_are_rows ct__law_are_rows oc__law_is_source kV__law_is_source dc__law_is_source pm__law_is_source cd__law_is_source ct__law_is_source oc__law_right kV__law_right dc__law_right pm__law_right cd__law_right ct__law_right oc_law kV_law dc_law pm_law cd_law ct_law : Value} {n_BARRED_KINDS n_SHAPES : Nat} {es_SHAPES : Array DictEntry}
    (a_is_integer : PySem.W.nsIn K mainGlobals "is_integer" = some (some (.ref f_is_integer))) (l_is_integer : K.lookup f_is_integer = some ⟨oc_is_integer, od_is_integer, .func (PySem.W.fnOf "is_integer" "is_integer" (defArgs s_is_integer) (defBody s_is_integer) (defScope s_is_integer) .none kV_is_integer dc_is_integer pm_is_integer an_is_integer cd_is_integer ct_is_integer), sl_is_integer⟩) (c_is_integer : PySem.W.codeIn K cd_is_integer "is_integer" = true) (k_is_integer : PySem.W.keepIn K (.ref f_is_integer) = true)
    (a_is_number : PySem.W.nsIn K mainGlobals "is_number" = some (some (.ref f_is_number))) (l_is_number : K.lookup f_is_number = some ⟨oc_is_number, od_is_number, .func (PySem.W.fnOf "is_number" "is_number" (defArgs s_is_number) (defBody s_is_number) (defScope s_is_number) .none kV_is_number dc_is_number pm_is_number an_is_number cd_is_number ct_is_number), sl_is_number⟩) (c_is_number : PySem.W.codeIn K cd_is_number "is_number" = true) (k_is_number : PySem.W.keepIn K (.ref f_is_number) = true)
    (a_is_name : PySem.W.nsIn K mainGlobals "is_name" = some (some (.ref f_is_name))) (l_is_name : K.lookup f_is_name = some ⟨oc_is_name, od_is_name, .func (PySem.W.fnOf "is_name" "is_name" (defArgs s_is_name) (defBody s_is_name) (defScope s_is_name) .none kV_is_name dc_is_name pm_is_name an_is_name cd_is_name ct_is_name), sl_is_name⟩) (c_is_name : PySem.W.codeIn K cd_is_name "is_name" = true) (k_is_name : PySem.W.keepIn K (.ref f_is_name) = true)
    (a_are_names : PySem.W.nsIn K mainGlobals "are_names" = some (some (.ref f_are_names))) (l_are_names : K.lookup f_are_names = some ⟨oc_are_names, od_are_names, .func (PySem.W.fnOf "are_names" "are_names" (defArgs s_are_names) (defBody s_are_names) (defScope s_are_names) .none kV_are_names dc_are_names pm_are_names an_are_names cd_are_names ct_are_names), sl_are_names⟩) (c_are_names : PySem.W.codeIn K cd_are_names "are_names" = true) (k_are_names : PySem.W.keepIn K (.ref f_are_names) = true)
    (a_are_distinct : PySem.W.nsIn K mainGlobals "are_distinct" = some (some (.ref f_are_distinct))) (l_are_distinct : K.lookup f_are_distinct = some ⟨oc_are_distinct, od_are_distinct, .func (PySem.W.fnOf "are_distinct" "are_distinct" (defArgs s_are_distinct) (defBody s_are_distinct) (defScope s_are_distinct) .none kV_are_distinct dc_are_distinct pm_are_distinct an_are_distinct cd_are_distinct ct_are_distinct), sl_are_distinct⟩) (c_are_distinct : PySem.W.codeIn K cd_are_distinct "are_distinct" = true) (k_are_distinct : PySem.W.keepIn K (.ref f_are_distinct) = true)
    (a_is_kind : PySem.W.nsIn K mainGlobals "is_kind" = some (some (.ref f_is_kind))) (l_is_kind : K.lookup f_is_kind = some ⟨oc_is_kind, od_is_kind, .func (PySem.W.fnOf "is_kind" "is_kind" (defArgs s_is_kind) (defBody s_is_kind) (defScope s_is_kind) .none kV_is_kind dc_is_kind pm_is_kind an_is_kind cd_is_kind ct_is_kind), sl_is_kind⟩) (c_is_kind : PySem.W.codeIn K cd_is_kind "is_kind" = true) (k_is_kind : PySem.W.keepIn K (.ref f_is_kind) = true)
    (a_are_kinds : PySem.W.nsIn K mainGlobals "are_kinds" = some (some (.ref f_are_kinds))) (l_are_kinds : K.lookup f_are_kinds = some ⟨oc_are_kinds, od_are_kinds, .func (PySem.W.fnOf "are_kinds" "are_kinds" (defArgs s_are_kinds) (defBody s_are_kinds) (defScope s_are_kinds) .none kV_are_kinds dc_are_kinds pm_are_kinds an_are_kinds cd_are_kinds ct_are_kinds), sl_are_kinds⟩) (c_are_kinds : PySem.W.codeIn K cd_are_kinds "are_kinds" = true) (k_are_kinds : PySem.W.keepIn K (.ref f_are_kinds) = true)
    (a_has_head : PySem.W.nsIn K mainGlobals "has_head" = some (some (.ref f_has_head))) (l_has_head : K.lookup f_has_head = some ⟨oc_has_head, od_has_head, .func (PySem.W.fnOf "has_head" "has_head" (defArgs s_has_head) (defBody s_has_head) (defScope s_has_head) .none kV_has_head dc_has_head pm_has_head an_has_head cd_has_head ct_has_head), sl_has_head⟩) (c_has_head : PySem.W.codeIn K cd_has_head "has_head" = true) (k_has_head : PySem.W.keepIn K (.ref f_has_head) = true)
    (a_have_heads : PySem.W.nsIn K mainGlobals "have_heads" = some (some (.ref f_have_heads))) (l_have_heads : K.lookup f_have_heads = some ⟨oc_have_heads, od_have_heads, .func (PySem.W.fnOf "have_heads" "have_heads" (defArgs s_have_heads) (defBody s_have_heads) (defScope s_have_heads) .none kV_have_heads dc_have_heads pm_have_heads an_have_heads cd_have_heads ct_have_heads), sl_have_heads⟩) (c_have_heads : PySem.W.codeIn K cd_have_heads "have_heads" = true) (k_have_heads : PySem.W.keepIn K (.ref f_have_heads) = true)
    (a_are_procedures : PySem.W.nsIn K mainGlobals "are_procedures" = some (some (.ref f_are_procedures))) (l_are_procedures : K.lookup f_are_procedures = some ⟨oc_are_procedures, od_are_procedures, .func (PySem.W.fnOf "are_procedures" "are_procedures" (defArgs s_are_procedures) (defBody s_are_procedures) (defScope s_are_procedures) .none kV_are_procedures dc_are_procedures pm_are_procedures an_are_procedures cd_are_procedures ct_are_procedures), sl_are_procedures⟩) (c_are_procedures : PySem.W.codeIn K cd_are_procedures "are_procedures" = true) (k_are_procedures : PySem.W.keepIn K (.ref f_are_procedures) = true)
    (a_sizes_of : PySem.W.nsIn K mainGlobals "sizes_of" = some (some (.ref f_sizes_of))) (l_sizes_of : K.lookup f_sizes_of = some ⟨oc_sizes_of, od_sizes_of, .func (PySem.W.fnOf "sizes_of" "sizes_of" (defArgs s_sizes_of) (defBody s_sizes_of) (defScope s_sizes_of) .none kV_sizes_of dc_sizes_of pm_sizes_of an_sizes_of cd_sizes_of ct_sizes_of), sl_sizes_of⟩) (c_sizes_of : PySem.W.codeIn K cd_sizes_of "sizes_of" = true) (k_sizes_of : PySem.W.keepIn K (.ref f_sizes_of) = true)
    (a_is_part : PySem.W.nsIn K mainGlobals "is_part" = some (some (.ref f_is_part))) (l_is_part : K.lookup f_is_part = some ⟨oc_is_part, od_is_part, .func (PySem.W.fnOf "is_part" "is_part" (defArgs s_is_part) (defBody s_is_part) (defScope s_is_part) .none kV_is_part dc_is_part pm_is_part an_is_part cd_is_part ct_is_part), sl_is_part⟩) (c_is_part : PySem.W.codeIn K cd_is_part "is_part" = true) (k_is_part : PySem.W.keepIn K (.ref f_is_part) = true)
    (a_is_row : PySem.W.nsIn K mainGlobals "is_row" = some (some (.ref f_is_row))) (l_is_row : K.lookup f_is_row = some ⟨oc_is_row, od_is_row, .func (PySem.W.fnOf "is_row" "is_row" (defArgs s_is_row) (defBody s_is_row) (defScope s_is_row) .none kV_is_row dc_is_row pm_is_row an_is_row cd_is_row ct_is_row), sl_is_row⟩) (c_is_row : PySem.W.codeIn K cd_is_row "is_row" = true) (k_is_row : PySem.W.keepIn K (.ref f_is_row) = true)
    (a_are_rows : PySem.W.nsIn K mainGlobals "are_rows" = some (some (.ref f_are_rows))) (l_are_rows : K.lookup f_are_rows = some ⟨oc_are_rows, od_are_rows, .func (PySem.W.fnOf "are_rows" "are_rows" (defArgs s_are_rows) (defBody s_are_rows) (defScope s_are_rows) .none kV_are_rows dc_are_rows pm_are_rows an_are_rows cd_are_rows ct_are_rows), sl_are_rows⟩) (c_are_rows : PySem.W.codeIn K cd_are_rows "are_rows" = true) (k_are_rows : PySem.W.keepIn K (.ref f_are_rows) = true)
    (a_used_by : PySem.W.nsIn K mainGlobals "used_by" = some (some (.ref f_used_by))) (l_used_by : K.lookup f_used_by = some ⟨oc_used_by, od_used_by, .func (PySem.W.fnOf "used_by" "used_by" (defArgs s_used_by) (defBody s_used_by) (defScope s_used_by) .none kV_used_by dc_used_by pm_used_by an_used_by cd_used_by ct_used_by), sl_used_by⟩) (c_used_by : PySem.W.codeIn K cd_used_by "used_by" = true) (k_used_by : PySem.W.keepIn K (.ref f_used_by) = true)
    (a_is_template : PySem.W.nsIn K mainGlobals "is_template" = some (some (.ref f_is_template))) (l_is_template : K.lookup f_is_template = some ⟨oc_is_template, od_is_template, .func (PySem.W.fnOf "is_template" "is_template" (defArgs s_is_template) (defBody s_is_template) (defScope s_is_template) .none kV_is_template dc_is_template pm_is_template an_is_template cd_is_template ct_is_template), sl_is_template⟩) (c_is_template : PySem.W.codeIn K cd_is_template "is_template" = true) (k_is_template : PySem.W.keepIn K (.ref f_is_template) = true)
    (a_is_source : PySem.W.nsIn K mainGlobals "is_source" = some (some (.ref f_is_source))) (l_is_source : K.lookup f_is_source = some ⟨oc_is_source, od_is_source, .func (PySem.W.fnOf "is_source" "is_source" (defArgs s_is_source) (defBody s_is_source) (defScope s_is_source) .none kV_is_source dc_is_source pm_is_source an_is_source cd_is_source ct_is_source), sl_is_source⟩) (c_is_source : PySem.W.codeIn K cd_is_source "is_source" = true) (k_is_source : PySem.W.keepIn K (.ref f_is_source) = true)
    (a__law_spring : PySem.W.nsIn K mainGlobals "_law_spring" = some (some (.ref f__law_spring))) (l__law_spring : K.lookup f__law_spring = some ⟨oc__law_spring, od__law_spring, .func (PySem.W.fnOf "_law_spring" "_law_spring" (defArgs s__law_spring) (defBody s__law_spring) (defScope s__law_spring) .none kV__law_spring dc__law_spring pm__law_spring an__law_spring cd__law_spring ct__law_spring), sl__law_spring⟩) (c__law_spring : PySem.W.codeIn K cd__law_spring "_law_spring" = true) (k__law_spring : PySem.W.keepIn K (.ref f__law_spring) = true)
    (a__law_draw : PySem.W.nsIn K mainGlobals "_law_draw" = some (some (.ref f__law_draw))) (l__law_draw : K.lookup f__law_draw = some ⟨oc__law_draw, od__law_draw, .func (PySem.W.fnOf "_law_draw" "_law_draw" (defArgs s__law_draw) (defBody s__law_draw) (defScope s__law_draw) .none kV__law_draw dc__law_draw pm__law_draw an__law_draw cd__law_draw ct__law_draw), sl__law_draw⟩) (c__law_draw : PySem.W.codeIn K cd__law_draw "_law_draw" = true) (k__law_draw : PySem.W.keepIn K (.ref f__law_draw) = true)
    (a__law_one_of : PySem.W.nsIn K mainGlobals "_law_one_of" = some (some (.ref f__law_one_of))) (l__law_one_of : K.lookup f__law_one_of = some ⟨oc__law_one_of, od__law_one_of, .func (PySem.W.fnOf "_law_one_of" "_law_one_of" (defArgs s__law_one_of) (defBody s__law_one_of) (defScope s__law_one_of) .none kV__law_one_of dc__law_one_of pm__law_one_of an__law_one_of cd__law_one_of ct__law_one_of), sl__law_one_of⟩) (c__law_one_of : PySem.W.codeIn K cd__law_one_of "_law_one_of" = true) (k__law_one_of : PySem.W.keepIn K (.ref f__law_one_of) = true)
    (a__law_names : PySem.W.nsIn K mainGlobals "_law_names" = some (some (.ref f__law_names))) (l__law_names : K.lookup f__law_names = some ⟨oc__law_names, od__law_names, .func (PySem.W.fnOf "_law_names" "_law_names" (defArgs s__law_names) (defBody s__law_names) (defScope s__law_names) .none kV__law_names dc__law_names pm__law_names an__law_names cd__law_names ct__law_names), sl__law_names⟩) (c__law_names : PySem.W.codeIn K cd__law_names "_law_names" = true) (k__law_names : PySem.W.keepIn K (.ref f__law_names) = true)
    (a__law_row : PySem.W.nsIn K mainGlobals "_law_row" = some (some (.ref f__law_row))) (l__law_row : K.lookup f__law_row = some ⟨oc__law_row, od__law_row, .func (PySem.W.fnOf "_law_row" "_law_row" (defArgs s__law_row) (defBody s__law_row) (defScope s__law_row) .none kV__law_row dc__law_row pm__law_row an__law_row cd__law_row ct__law_row), sl__law_row⟩) (c__law_row : PySem.W.codeIn K cd__law_row "_law_row" = true) (k__law_row : PySem.W.keepIn K (.ref f__law_row) = true)
    (a__law_rows : PySem.W.nsIn K mainGlobals "_law_rows" = some (some (.ref f__law_rows))) (l__law_rows : K.lookup f__law_rows = some ⟨oc__law_rows, od__law_rows, .func (PySem.W.fnOf "_law_rows" "_law_rows" (defArgs s__law_rows) (defBody s__law_rows) (defScope s__law_rows) .none kV__law_rows dc__law_rows pm__law_rows an__law_rows cd__law_rows ct__law_rows), sl__law_rows⟩) (c__law_rows : PySem.W.codeIn K cd__law_rows "_law_rows" = true) (k__law_rows : PySem.W.keepIn K (.ref f__law_rows) = true)
    (a__law_source : PySem.W.nsIn K mainGlobals "_law_source" = some (some (.ref f__law_source))) (l__law_source : K.lookup f__law_source = some ⟨oc__law_source, od__law_source, .func (PySem.W.fnOf "_law_source" "_law_source" (defArgs s__law_source) (defBody s__law_source) (defScope s__law_source) .none kV__law_source dc__law_source pm__law_source an__law_source cd__law_source ct__law_source), sl__law_source⟩) (c__law_source : PySem.W.codeIn K cd__law_source "_law_source" = true) (k__law_source : PySem.W.keepIn K (.ref f__law_source) = true)
    (a__law_value : PySem.W.nsIn K mainGlobals "_law_value" = some (some (.ref f__law_value))) (l__law_value : K.lookup f__law_value = some ⟨oc__law_value, od__law_value, .func (PySem.W.fnOf "_law_value" "_law_value" (defArgs s__law_value) (defBody s__law_value) (defScope s__law_value) .none kV__law_value dc__law_value pm__law_value an__law_value cd__law_value ct__law_value), sl__law_value⟩) (c__law_value : PySem.W.codeIn K cd__law_value "_law_value" = true) (k__law_value : PySem.W.keepIn K (.ref f__law_value) = true)
    (a__law_bent : PySem.W.nsIn K mainGlobals "_law_bent" = some (some (.ref f__law_bent))) (l__law_bent : K.lookup f__law_bent = some ⟨oc__law_bent, od__law_bent, .func (PySem.W.fnOf "_law_bent" "_law_bent" (defArgs s__law_bent) (defBody s__law_bent) (defScope s__law_bent) .none kV__law_bent dc__law_bent pm__law_bent an__law_bent cd__law_bent ct__law_bent), sl__law_bent⟩) (c__law_bent : PySem.W.codeIn K cd__law_bent "_law_bent" = true) (k__law_bent : PySem.W.keepIn K (.ref f__law_bent) = true)
    (a__law_longer : PySem.W.nsIn K mainGlobals "_law_longer" = some (some (.ref f__law_longer))) (l__law_longer : K.lookup f__law_longer = some ⟨oc__law_longer, od__law_longer, .func (PySem.W.fnOf "_law_longer" "_law_longer" (defArgs s__law_longer) (defBody s__law_longer) (defScope s__law_longer) .none kV__law_longer dc__law_longer pm__law_longer an__law_longer cd__law_longer ct__law_longer), sl__law_longer⟩) (c__law_longer : PySem.W.codeIn K cd__law_longer "_law_longer" = true) (k__law_longer : PySem.W.keepIn K (.ref f__law_longer) = true)
    (a__law_odd_rows : PySem.W.nsIn K mainGlobals "_law_odd_rows" = some (some (.ref f__law_odd_rows))) (l__law_odd_rows : K.lookup f__law_odd_rows = some ⟨oc__law_odd_rows, od__law_odd_rows, .func (PySem.W.fnOf "_law_odd_rows" "_law_odd_rows" (defArgs s__law_odd_rows) (defBody s__law_odd_rows) (defScope s__law_odd_rows) .none kV__law_odd_rows dc__law_odd_rows pm__law_odd_rows an__law_odd_rows cd__law_odd_rows ct__law_odd_rows), sl__law_odd_rows⟩) (c__law_odd_rows : PySem.W.codeIn K cd__law_odd_rows "_law_odd_rows" = true) (k__law_odd_rows : PySem.W.keepIn K (.ref f__law_odd_rows) = true)
    (a__law_by_hand : PySem.W.nsIn K mainGlobals "_law_by_hand" = some (some (.ref f__law_by_hand))) (l__law_by_hand : K.lookup f__law_by_hand = some ⟨oc__law_by_hand, od__law_by_hand, .func (PySem.W.fnOf "_law_by_hand" "_law_by_hand" (defArgs s__law_by_hand) (defBody s__law_by_hand) (defScope s__law_by_hand) .none kV__law_by_hand dc__law_by_hand pm__law_by_hand an__law_by_hand cd__law_by_hand ct__law_by_hand), sl__law_by_hand⟩) (c__law_by_hand : PySem.W.codeIn K cd__law_by_hand "_law_by_hand" = true) (k__law_by_hand : PySem.W.keepIn K (.ref f__law_by_hand) = true)
    (a__law_is_name : PySem.W.nsIn K mainGlobals "_law_is_name" = some (some (.ref f__law_is_name))) (l__law_is_name : K.lookup f__law_is_name = some ⟨oc__law_is_name, od__law_is_name, .func (PySem.W.fnOf "_law_is_name" "_law_is_name" (defArgs s__law_is_name) (defBody s__law_is_name) (defScope s__law_is_name) .none kV__law_is_name dc__law_is_name pm__law_is_name an__law_is_name cd__law_is_name ct__law_is_name), sl__law_is_name⟩) (c__law_is_name : PySem.W.codeIn K cd__law_is_name "_law_is_name" = true) (k__law_is_name : PySem.W.keepIn K (.ref f__law_is_name) = true)
    (a__law_are_names : PySem.W.nsIn K mainGlobals "_law_are_names" = some (some (.ref f__law_are_names))) (l__law_are_names : K.lookup f__law_are_names = some ⟨oc__law_are_names, od__law_are_names, .func (PySem.W.fnOf "_law_are_names" "_law_are_names" (defArgs s__law_are_names) (defBody s__law_are_names) (defScope s__law_are_names) .none kV__law_are_names dc__law_are_names pm__law_are_names an__law_are_names cd__law_are_names ct__law_are_names), sl__law_are_names⟩) (c__law_are_names : PySem.W.codeIn K cd__law_are_names "_law_are_names" = true) (k__law_are_names : PySem.W.keepIn K (.ref f__law_are_names) = true)
    (a__law_is_count : PySem.W.nsIn K mainGlobals "_law_is_count" = some (some (.ref f__law_is_count))) (l__law_is_count : K.lookup f__law_is_count = some ⟨oc__law_is_count, od__law_is_count, .func (PySem.W.fnOf "_law_is_count" "_law_is_count" (defArgs s__law_is_count) (defBody s__law_is_count) (defScope s__law_is_count) .none kV__law_is_count dc__law_is_count pm__law_is_count an__law_is_count cd__law_is_count ct__law_is_count), sl__law_is_count⟩) (c__law_is_count : PySem.W.codeIn K cd__law_is_count "_law_is_count" = true) (k__law_is_count : PySem.W.keepIn K (.ref f__law_is_count) = true)
    (a__law_fits : PySem.W.nsIn K mainGlobals "_law_fits" = some (some (.ref f__law_fits))) (l__law_fits : K.lookup f__law_fits = some ⟨oc__law_fits, od__law_fits, .func (PySem.W.fnOf "_law_fits" "_law_fits" (defArgs s__law_fits) (defBody s__law_fits) (defScope s__law_fits) .none kV__law_fits dc__law_fits pm__law_fits an__law_fits cd__law_fits ct__law_fits), sl__law_fits⟩) (c__law_fits : PySem.W.codeIn K cd__law_fits "_law_fits" = true) (k__law_fits : PySem.W.keepIn K (.ref f__law_fits) = true)
    (a__law_is_row : PySem.W.nsIn K mainGlobals "_law_is_row" = some (some (.ref f__law_is_row))) (l__law_is_row : K.lookup f__law_is_row = some ⟨oc__law_is_row, od__law_is_row, .func (PySem.W.fnOf "_law_is_row" "_law_is_row" (defArgs s__law_is_row) (defBody s__law_is_row) (defScope s__law_is_row) .none kV__law_is_row dc__law_is_row pm__law_is_row an__law_is_row cd__law_is_row ct__law_is_row), sl__law_is_row⟩) (c__law_is_row : PySem.W.codeIn K cd__law_is_row "_law_is_row" = true) (k__law_is_row : PySem.W.keepIn K (.ref f__law_is_row) = true)
    (a__law_are_heads : PySem.W.nsIn K mainGlobals "_law_are_heads" = some (some (.ref f__law_are_heads))) (l__law_are_heads : K.lookup f__law_are_heads = some ⟨oc__law_are_heads, od__law_are_heads, .func (PySem.W.fnOf "_law_are_heads" "_law_are_heads" (defArgs s__law_are_heads) (defBody s__law_are_heads) (defScope s__law_are_heads) .none kV__law_are_heads dc__law_are_heads pm__law_are_heads an__law_are_heads cd__law_are_heads ct__law_are_heads), sl__law_are_heads⟩) (c__law_are_heads : PySem.W.codeIn K cd__law_are_heads "_law_are_heads" = true) (k__law_are_heads : PySem.W.keepIn K (.ref f__law_are_heads) = true)
    (a__law_is_in_ring : PySem.W.nsIn K mainGlobals "_law_is_in_ring" = some (some (.ref f__law_is_in_ring))) (l__law_is_in_ring : K.lookup f__law_is_in_ring = some ⟨oc__law_is_in_ring, od__law_is_in_ring, .func (PySem.W.fnOf "_law_is_in_ring" "_law_is_in_ring" (defArgs s__law_is_in_ring) (defBody s__law_is_in_ring) (defScope s__law_is_in_ring) .none kV__law_is_in_ring dc__law_is_in_ring pm__law_is_in_ring an__law_is_in_ring cd__law_is_in_ring ct__law_is_in_ring), sl__law_is_in_ring⟩) (c__law_is_in_ring : PySem.W.codeIn K cd__law_is_in_ring "_law_is_in_ring" = true) (k__law_is_in_ring : PySem.W.keepIn K (.ref f__law_is_in_ring) = true)
    (a__law_are_rows : PySem.W.nsIn K mainGlobals "_law_are_rows" = some (some (.ref f__law_are_rows))) (l__law_are_rows : K.lookup f__law_are_rows = some ⟨oc__law_are_rows, od__law_are_rows, .func (PySem.W.fnOf "_law_are_rows" "_law_are_rows" (defArgs s__law_are_rows) (defBody s__law_are_rows) (defScope s__law_are_rows) .none kV__law_are_rows dc__law_are_rows pm__law_are_rows an__law_are_rows cd__law_are_rows ct__law_are_rows), sl__law_are_rows⟩) (c__law_are_rows : PySem.W.codeIn K cd__law_are_rows "_law_are_rows" = true) (k__law_are_rows : PySem.W.keepIn K (.ref f__law_are_rows) = true)
    (a__law_is_source : PySem.W.nsIn K mainGlobals "_law_is_source" = some (some (.ref f__law_is_source))) (l__law_is_source : K.lookup f__law_is_source = some ⟨oc__law_is_source, od__law_is_source, .func (PySem.W.fnOf "_law_is_source" "_law_is_source" (defArgs s__law_is_source) (defBody s__law_is_source) (defScope s__law_is_source) .none kV__law_is_source dc__law_is_source pm__law_is_source an__law_is_source cd__law_is_source ct__law_is_source), sl__law_is_source⟩) (c__law_is_source : PySem.W.codeIn K cd__law_is_source "_law_is_source" = true) (k__law_is_source : PySem.W.keepIn K (.ref f__law_is_source) = true)
    (a__law_right : PySem.W.nsIn K mainGlobals "_law_right" = some (some (.ref f__law_right))) (l__law_right : K.lookup f__law_right = some ⟨oc__law_right, od__law_right, .func (PySem.W.fnOf "_law_right" "_law_right" (defArgs s__law_right) (defBody s__law_right) (defScope s__law_right) .none kV__law_right dc__law_right pm__law_right an__law_right cd__law_right ct__law_right), sl__law_right⟩) (c__law_right : PySem.W.codeIn K cd__law_right "_law_right" = true) (k__law_right : PySem.W.keepIn K (.ref f__law_right) = true)
    (a_law : PySem.W.nsIn K mainGlobals "law" = some (some (.ref f_law))) (l_law : K.lookup f_law = some ⟨oc_law, od_law, .func (PySem.W.fnOf "law" "law" (defArgs s_law) (defBody s_law) (defScope s_law) .none kV_law dc_law pm_law an_law cd_law ct_law), sl_law⟩) (c_law : PySem.W.codeIn K cd_law "law" = true) (k_law : PySem.W.keepIn K (.ref f_law) = true)
    (z_all : PySem.W.nsIn K mainGlobals "all" = some none)
    (z_any : PySem.W.nsIn K mainGlobals "any" = some none)
    (z_bool : PySem.W.nsIn K mainGlobals "bool" = some none)
    (z_dict : PySem.W.nsIn K mainGlobals "dict" = some none)
    (z_enumerate : PySem.W.nsIn K mainGlobals "enumerate" = some none)
    (z_int : PySem.W.nsIn K mainGlobals "int" = some none)
    (z_isinstance : PySem.W.nsIn K mainGlobals "isinstance" = some none)
    (z_len : PySem.W.nsIn K mainGlobals "len" = some none)
    (z_list : PySem.W.nsIn K mainGlobals "list" = some none)
    (z_range : PySem.W.nsIn K mainGlobals "range" = some none)
    (z_repr : PySem.W.nsIn K mainGlobals "repr" = some none)
    (z_set : PySem.W.nsIn K mainGlobals "set" = some none)
    (z_sorted : PySem.W.nsIn K mainGlobals "sorted" = some none)
    (z_str : PySem.W.nsIn K mainGlobals "str" = some none)
    (z_tuple : PySem.W.nsIn K mainGlobals "tuple" = some none)
    (z_zip : PySem.W.nsIn K mainGlobals "zip" = some none)
    {t_SHAPES_0 t_SHAPES_1 t_SHAPES_2 t_SHAPES_3 t_SHAPES_4 t_SHAPES_5 t_SHAPES_6 t_SHAPES_7 t_SHAPES_8 t_SHAPES_9 t_SHAPES_10 t_SHAPES_11 t_SHAPES_12 t_SHAPES_13 t_SHAPES_14 t_SHAPES_15 t_SHAPES_16 : Tok} (g_SHAPES : PySem.W.nsIn K mainGlobals "SHAPES" = some (some (.ref fg_SHAPES))) (h_SHAPES : K.lookup fg_SHAPES = some ⟨.type "dict", none, .dict es_SHAPES n_SHAPES, #[]⟩) (y_SHAPES : PySem.W.KeysLit w.params es_SHAPES.toList) (x_SHAPES_0 : PySem.W.nsIn K fg_SHAPES "copy" = some (some (.str "xy" t_SHAPES_0))) (x_SHAPES_1 : PySem.W.nsIn K fg_SHAPES "none" = some (some (.str "x" t_SHAPES_1))) (x_SHAPES_2 : PySem.W.nsIn K fg_SHAPES "number" = some (some (.str "xn" t_SHAPES_2))) (x_SHAPES_3 : PySem.W.nsIn K fg_SHAPES "plus" = some (some (.str "xyy" t_SHAPES_3))) (x_SHAPES_4 : PySem.W.nsIn K fg_SHAPES "minus" = some (some (.str "xyy" t_SHAPES_4))) (x_SHAPES_5 : PySem.W.nsIn K fg_SHAPES "times" = some (some (.str "xyy" t_SHAPES_5))) (x_SHAPES_6 : PySem.W.nsIn K fg_SHAPES "make" = some (some (.str "xkY" t_SHAPES_6))) (x_SHAPES_7 : PySem.W.nsIn K fg_SHAPES "read" = some (some (.str "xyf" t_SHAPES_7))) (x_SHAPES_8 : PySem.W.nsIn K fg_SHAPES "input" = some (some (.str "o" t_SHAPES_8))) (x_SHAPES_9 : PySem.W.nsIn K fg_SHAPES "tell" = some (some (.str "y" t_SHAPES_9))) (x_SHAPES_10 : PySem.W.nsIn K fg_SHAPES "call" = some (some (.str "opY" t_SHAPES_10))) (x_SHAPES_11 : PySem.W.nsIn K fg_SHAPES "return" = some (some (.str "y" t_SHAPES_11))) (x_SHAPES_12 : PySem.W.nsIn K fg_SHAPES "jump" = some (some (.str "r" t_SHAPES_12))) (x_SHAPES_13 : PySem.W.nsIn K fg_SHAPES "less" = some (some (.str "yyr" t_SHAPES_13))) (x_SHAPES_14 : PySem.W.nsIn K fg_SHAPES "same" = some (some (.str "yyr" t_SHAPES_14))) (x_SHAPES_15 : PySem.W.nsIn K fg_SHAPES "is" = some (some (.str "ywr" t_SHAPES_15))) (x_SHAPES_16 : PySem.W.nsIn K fg_SHAPES "use" = some (some (.str "xtY" t_SHAPES_16)))
    (v_SHAPES : EntsS es_SHAPES.toList [("copy", "xy"), ("none", "x"), ("number", "xn"), ("plus", "xyy"), ("minus", "xyy"), ("times", "xyy"), ("make", "xkY"), ("read", "xyf"), ("input", "o"), ("tell", "y"), ("call", "opY"), ("return", "y"), ("jump", "r"), ("less", "yyr"), ("same", "yyr"), ("is", "ywr"), ("use", "xtY")]) (lo_SHAPES : (fg_SHAPES == sysModules) = false)
    {t_BARRED_KINDS_0 t_BARRED_KINDS_1 : Tok} (g_BARRED_KINDS : PySem.W.nsIn K mainGlobals "BARRED_KINDS" = some (some (.ref fg_BARRED_KINDS))) (h_BARRED_KINDS : K.lookup fg_BARRED_KINDS = some ⟨.type "tuple", od_BARRED_KINDS, .seq #[.str "none" t_BARRED_KINDS_0, .str "number" t_BARRED_KINDS_1] n_BARRED_KINDS, sl_BARRED_KINDS⟩)
    {t_DIGITS : Tok} (g_DIGITS : PySem.W.nsIn K mainGlobals "DIGITS" = some (some (.str "0123456789" t_DIGITS)))
    {t_LETTERS : Tok} (g_LETTERS : PySem.W.nsIn K mainGlobals "LETTERS" = some (some (.str "abcdefghijklmnopqrstuvwxyz" t_LETTERS)))
    {t_LONGEST_NAME : Tok} (g_LONGEST_NAME : PySem.W.nsIn K mainGlobals "LONGEST_NAME" = some (some (.int 8 t_LONGEST_NAME)))
    {t_MODULUS : Tok} (g_MODULUS : PySem.W.nsIn K mainGlobals "MODULUS" = some (some (.int 1000003 t_MODULUS)))
    {t_MOST_FIELDS : Tok} (g_MOST_FIELDS : PySem.W.nsIn K mainGlobals "MOST_FIELDS" = some (some (.int 4 t_MOST_FIELDS)))
    {t_MOST_KINDS : Tok} (g_MOST_KINDS : PySem.W.nsIn K mainGlobals "MOST_KINDS" = some (some (.int 8 t_MOST_KINDS)))
    {t_MOST_PROCEDURES : Tok} (g_MOST_PROCEDURES : PySem.W.nsIn K mainGlobals "MOST_PROCEDURES" = some (some (.int 6 t_MOST_PROCEDURES)))
    {t_MOST_TEMPLATES : Tok} (g_MOST_TEMPLATES : PySem.W.nsIn K mainGlobals "MOST_TEMPLATES" = some (some (.int 6 t_MOST_TEMPLATES))) :
    ∃ fd : FuncData, (∀ (s : Shared) (v : Value), BindsTo s fd ⟨[v], []⟩ [("script", v)]) ∧ ∀ base : Heap, K.In base → base.Ns mainGlobals mg → FnD P w K mg base CX0 11 fa fd ["script"] sp_law := by
  have e := hfa.symm.trans (PySem.W.mg_of X G a_law)
  cases e
  have T : Txt K w mg := ⟨PySem.W.mg_none_of X G z_all, PySem.W.mg_none_of X G z_any, PySem.W.mg_none_of X G z_bool, PySem.W.mg_none_of X G z_dict, PySem.W.mg_none_of X G z_enumerate, PySem.W.mg_none_of X G z_int, PySem.W.mg_none_of X G z_isinstance, PySem.W.mg_none_of X G z_len, PySem.W.mg_none_of X G z_list, PySem.W.mg_none_of X G z_range, PySem.W.mg_none_of X G z_repr, PySem.W.mg_none_of X G z_set, PySem.W.mg_none_of X G z_sorted, PySem.W.mg_none_of X G z_str, PySem.W.mg_none_of X G z_tuple, PySem.W.mg_none_of X G z_zip, ⟨fg_SHAPES, _, _, PySem.W.mg_of X G g_SHAPES, h_SHAPES, y_SHAPES, v_SHAPES, lo_SHAPES⟩, ⟨fg_BARRED_KINDS, [V.str "none", V.str "number"], PySem.W.mg_of X G g_BARRED_KINDS, ⟨_, _, _, h_BARRED_KINDS, rfl, rfl, by show 2 ≤ sizeLine; decide, (.cons ⟨_, rfl⟩ (.cons ⟨_, rfl⟩ .nil))⟩, fun N H S => RDs.of_atoms [V.str "none", V.str "number"]⟩, ⟨t_DIGITS, PySem.W.mg_of X G g_DIGITS⟩, ⟨t_LETTERS, PySem.W.mg_of X G g_LETTERS⟩, ⟨t_LONGEST_NAME, PySem.W.mg_of X G g_LONGEST_NAME⟩, ⟨t_MODULUS, PySem.W.mg_of X G g_MODULUS⟩, ⟨t_MOST_FIELDS, PySem.W.mg_of X G g_MOST_FIELDS⟩, ⟨t_MOST_KINDS, PySem.W.mg_of X G g_MOST_KINDS⟩, ⟨t_MOST_PROCEDURES, PySem.W.mg_of X G g_MOST_PROCEDURES⟩, ⟨t_MOST_TEMPLATES, PySem.W.mg_of X G g_MOST_TEMPLATES⟩⟩
  have F_is_integer := fun_mk (st := s_is_integer) l_is_integer c_is_integer k_is_integer
  have F_is_number := fun_mk (st := s_is_number) l_is_number c_is_number k_is_number
  have F_is_name := fun_mk (st := s_is_name) l_is_name c_is_name k_is_name
  have F_are_names := fun_mk (st := s_are_names) l_are_names c_are_names k_are_names
  have F_are_distinct := fun_mk (st := s_are_distinct) l_are_distinct c_are_distinct k_are_distinct
  have F_is_kind := fun_mk (st := s_is_kind) l_is_kind c_is_kind k_is_kind
  have F_are_kinds := fun_mk (st := s_are_kinds) l_are_kinds c_are_kinds k_are_kinds
  have F_has_head := fun_mk (st := s_has_head) l_has_head c_has_head k_has_head
  have F_have_heads := fun_mk (st := s_have_heads) l_have_heads c_have_heads k_have_heads
  have F_are_procedures := fun_mk (st := s_are_procedures) l_are_procedures c_are_procedures k_are_procedures
  have F_sizes_of := fun_mk (st := s_sizes_of) l_sizes_of c_sizes_of k_sizes_of
  have F_is_part := fun_mk (st := s_is_part) l_is_part c_is_part k_is_part
  have F_is_row := fun_mk (st := s_is_row) l_is_row c_is_row k_is_row
  have F_are_rows := fun_mk (st := s_are_rows) l_are_rows c_are_rows k_are_rows
  have F_used_by := fun_mk (st := s_used_by) l_used_by c_used_by k_used_by
  have F_is_template := fun_mk (st := s_is_template) l_is_template c_is_template k_is_template
  have F_is_source := fun_mk (st := s_is_source) l_is_source c_is_source k_is_source
  have F__law_spring := fun_mk (st := s__law_spring) l__law_spring c__law_spring k__law_spring
  have F__law_draw := fun_mk (st := s__law_draw) l__law_draw c__law_draw k__law_draw
  have F__law_one_of := fun_mk (st := s__law_one_of) l__law_one_of c__law_one_of k__law_one_of
  have F__law_names := fun_mk (st := s__law_names) l__law_names c__law_names k__law_names
  have F__law_row := fun_mk (st := s__law_row) l__law_row c__law_row k__law_row
  have F__law_rows := fun_mk (st := s__law_rows) l__law_rows c__law_rows k__law_rows
  have F__law_source := fun_mk (st := s__law_source) l__law_source c__law_source k__law_source
  have F__law_value := fun_mk (st := s__law_value) l__law_value c__law_value k__law_value
  have F__law_bent := fun_mk (st := s__law_bent) l__law_bent c__law_bent k__law_bent
  have F__law_longer := fun_mk (st := s__law_longer) l__law_longer c__law_longer k__law_longer
  have F__law_odd_rows := fun_mk (st := s__law_odd_rows) l__law_odd_rows c__law_odd_rows k__law_odd_rows
  have F__law_by_hand := fun_mk (st := s__law_by_hand) l__law_by_hand c__law_by_hand k__law_by_hand
  have F__law_is_name := fun_mk (st := s__law_is_name) l__law_is_name c__law_is_name k__law_is_name
  have F__law_are_names := fun_mk (st := s__law_are_names) l__law_are_names c__law_are_names k__law_are_names
  have F__law_is_count := fun_mk (st := s__law_is_count) l__law_is_count c__law_is_count k__law_is_count
  have F__law_fits := fun_mk (st := s__law_fits) l__law_fits c__law_fits k__law_fits
  have F__law_is_row := fun_mk (st := s__law_is_row) l__law_is_row c__law_is_row k__law_is_row
  have F__law_are_heads := fun_mk (st := s__law_are_heads) l__law_are_heads c__law_are_heads k__law_are_heads
  have F__law_is_in_ring := fun_mk (st := s__law_is_in_ring) l__law_is_in_ring c__law_is_in_ring k__law_is_in_ring
  have F__law_are_rows := fun_mk (st := s__law_are_rows) l__law_are_rows c__law_are_rows k__law_are_rows
  have F__law_is_source := fun_mk (st := s__law_is_source) l__law_is_source c__law_is_source k__law_is_source
  have F__law_right := fun_mk (st := s__law_right) l__law_right c__law_right k__law_right
  have F_law := fun_mk (st := s_law) l_law c_law k_law
  refine ⟨PySem.W.fnOf "law" "law" (defArgs s_law) (defBody s_law) (defScope s_law) .none kV_law dc_law pm_law an_law cd_law ct_law, fun s v => .of_eq rfl, fun base _ _ => ?_⟩
  have C_is_integer := ok_is_integer (P := P) (w := w) (base := base) T   F_is_integer (PySem.W.mg_of X G a_is_integer)
  have C_is_number := ok_is_number (P := P) (w := w) (base := base) T  C_is_integer F_is_number (PySem.W.mg_of X G a_is_number)
  have C_is_name := ok_is_name (P := P) (w := w) (base := base) T   F_is_name (PySem.W.mg_of X G a_is_name)
  have C_are_names := ok_are_names (P := P) (w := w) (base := base) T  C_is_name F_are_names (PySem.W.mg_of X G a_are_names)
  have C_are_distinct := ok_are_distinct (P := P) (w := w) (base := base) T   F_are_distinct (PySem.W.mg_of X G a_are_distinct)
  have C_is_kind := ok_is_kind (P := P) (w := w) (base := base) T  C_are_names C_are_distinct C_is_name F_is_kind (PySem.W.mg_of X G a_is_kind)
  have C_are_kinds := ok_are_kinds (P := P) (w := w) (base := base) T  C_are_distinct C_is_kind F_are_kinds (PySem.W.mg_of X G a_are_kinds)
  have C_has_head := ok_has_head (P := P) (w := w) (base := base) T  C_are_distinct C_is_name C_are_names F_has_head (PySem.W.mg_of X G a_has_head)
  have C_have_heads := ok_have_heads (P := P) (w := w) (base := base) T  C_are_distinct C_has_head F_have_heads (PySem.W.mg_of X G a_have_heads)
  have C_are_procedures := ok_are_procedures (P := P) (w := w) (base := base) T  C_have_heads F_are_procedures (PySem.W.mg_of X G a_are_procedures)
  have C_sizes_of := ok_sizes_of (P := P) (w := w) (base := base) T   F_sizes_of (PySem.W.mg_of X G a_sizes_of)
  have C_is_part := ok_is_part (P := P) (w := w) (base := base) T  C_are_names C_is_number C_is_name C_is_integer F_is_part (PySem.W.mg_of X G a_is_part)
  have C_is_row := ok_is_row (P := P) (w := w) (base := base) T  C_is_part F_is_row (PySem.W.mg_of X G a_is_row)
  have C_are_rows := ok_are_rows (P := P) (w := w) (base := base) T  C_is_row F_are_rows (PySem.W.mg_of X G a_are_rows)
  have C_used_by := ok_used_by (P := P) (w := w) (base := base) T   F_used_by (PySem.W.mg_of X G a_used_by)
  have C_is_template := ok_is_template (P := P) (w := w) (base := base) T  C_is_name C_are_rows F_is_template (PySem.W.mg_of X G a_is_template)
  have C_is_source := ok_is_source (P := P) (w := w) (base := base) T  C_sizes_of C_have_heads C_are_kinds C_are_procedures C_are_rows C_is_template C_used_by F_is_source (PySem.W.mg_of X G a_is_source)
  have C__law_spring := ok__law_spring (P := P) (w := w) (base := base) T   F__law_spring (PySem.W.mg_of X G a__law_spring)
  have C__law_draw := ok__law_draw (P := P) (w := w) (base := base) T   F__law_draw (PySem.W.mg_of X G a__law_draw)
  have C__law_one_of := ok__law_one_of (P := P) (w := w) (base := base) T  C__law_draw F__law_one_of (PySem.W.mg_of X G a__law_one_of)
  have C__law_names := ok__law_names (P := P) (w := w) (base := base) T  C__law_draw C__law_one_of F__law_names (PySem.W.mg_of X G a__law_names)
  have C__law_row := ok__law_row (P := P) (w := w) (base := base) T  C__law_one_of C__law_draw F__law_row (PySem.W.mg_of X G a__law_row)
  have C__law_rows := ok__law_rows (P := P) (w := w) (base := base) T  C__law_one_of C__law_names C__law_row C__law_draw F__law_rows (PySem.W.mg_of X G a__law_rows)
  have C__law_source := ok__law_source (P := P) (w := w) (base := base) T  C__law_draw C__law_names C__law_rows C__law_one_of F__law_source (PySem.W.mg_of X G a__law_source)
  have C__law_value := ok__law_value (P := P) (w := w) (base := base) T  C__law_one_of F__law_value (PySem.W.mg_of X G a__law_value)
  have C__law_bent := ok__law_bent (P := P) (w := w) (base := base) T  C__law_value C__law_draw F__law_bent (PySem.W.mg_of X G a__law_bent) 6
  have C__law_longer := ok__law_longer (P := P) (w := w) (base := base) T  C__law_one_of C__law_draw C__law_value F__law_longer (PySem.W.mg_of X G a__law_longer)
  have C__law_odd_rows := ok__law_odd_rows (P := P) (w := w) (base := base) T   F__law_odd_rows (PySem.W.mg_of X G a__law_odd_rows)
  have C__law_by_hand := ok__law_by_hand (P := P) (w := w) (base := base) T  C__law_odd_rows F__law_by_hand (PySem.W.mg_of X G a__law_by_hand)
  have C__law_is_name := ok__law_is_name (P := P) (w := w) (base := base) T   F__law_is_name (PySem.W.mg_of X G a__law_is_name)
  have C__law_are_names := ok__law_are_names (P := P) (w := w) (base := base) T  C__law_is_name F__law_are_names (PySem.W.mg_of X G a__law_are_names)
  have C__law_is_count := ok__law_is_count (P := P) (w := w) (base := base) T   F__law_is_count (PySem.W.mg_of X G a__law_is_count)
  have C__law_fits := ok__law_fits (P := P) (w := w) (base := base) T  C__law_is_name C__law_are_names F__law_fits (PySem.W.mg_of X G a__law_fits)
  have C__law_is_row := ok__law_is_row (P := P) (w := w) (base := base) T  C__law_is_count C__law_fits C__law_is_name F__law_is_row (PySem.W.mg_of X G a__law_is_row)
  have C__law_are_heads := ok__law_are_heads (P := P) (w := w) (base := base) T  C__law_is_name C__law_are_names F__law_are_heads (PySem.W.mg_of X G a__law_are_heads)
  have C__law_is_in_ring := ok__law_is_in_ring (P := P) (w := w) (base := base) T   F__law_is_in_ring (PySem.W.mg_of X G a__law_is_in_ring)
  have C__law_are_rows := ok__law_are_rows (P := P) (w := w) (base := base) T  C__law_is_row F__law_are_rows (PySem.W.mg_of X G a__law_are_rows)
  have C__law_is_source := ok__law_is_source (P := P) (w := w) (base := base) T  C__law_are_heads C__law_are_rows C__law_is_name C__law_is_in_ring F__law_is_source (PySem.W.mg_of X G a__law_is_source)
  have C__law_right := ok__law_right (P := P) (w := w) (base := base) T  C__law_is_source C_is_source F__law_right (PySem.W.mg_of X G a__law_right)
  have C_law := ok_law (P := P) (w := w) (base := base) T  C__law_spring C__law_by_hand C__law_source C__law_draw C__law_is_source C__law_longer C__law_bent C__law_right F_law (PySem.W.mg_of X G a_law)
  obtain ⟨f0, fd0, r0, _, m0, fn0⟩ := C_law
  have e0 := (PySem.W.mg_of X G a_law).symm.trans m0
  cases e0
  obtain ⟨oc0, od0, kV0, dc0, pm0, an0, cd0, ct0, sl0, ef, lk, _⟩ := fn0.ex
  have el := l_law.symm.trans lk
  subst ef
  cases el
  exact r0
end K05
open PySem PySem.W PyProof.Rows
set_option maxRecDepth 100000 in
set_option maxHeartbeats 0 in
theorem PySem.Challenge.cw_reinways_k05_sources_of_any_values_holds : PySem.Challenge.rw_reinways_k05_sources_of_any_values.Holds := by
  w_on; o_law; k_head; (case hw => w_witness2)
  k_fill
  refine DL.walkD (l := PySem.Challenge.rw_reinways_k05_sources_of_any_values) (n := 63) (k := 11) (x := "script") (sp := K05.sp_law) rfl (by decide) rfl ⟨rfl, by decide, by decide⟩ (fun w h Y => PySem.W.kIn_of Y) ?F K05.law_ok
  case F =>
    intro w mg fa h KX G hmg
    refine' K05.all_mk KX G hmg ?a_is_integer ?l_is_integer ?c_is_integer ?k_is_integer ?a_is_number ?l_is_number ?c_is_number ?k_is_number ?a_is_name ?l_is_name ?c_is_name ?k_is_name ?a_are_names ?l_are_names ?c_are_names ?k_are_names ?a_are_distinct ?l_are_distinct ?c_are_distinct ?k_are_distinct ?a_is_kind ?l_is_kind ?c_is_kind ?k_is_kind ?a_are_kinds ?l_are_kinds ?c_are_kinds ?k_are_kinds ?a_has_head ?l_has_head ?c_has_head ?k_has_head ?a_have_heads ?l_have_heads ?c_have_heads ?k_have_heads ?a_are_procedures ?l_are_procedures ?c_are_procedures ?k_are_procedures ?a_sizes_of ?l_sizes_of ?c_sizes_of ?k_sizes_of ?a_is_part ?l_is_part ?c_is_part ?k_is_part ?a_is_row ?l_is_row ?c_is_row ?k_is_row ?a_are_rows ?l_are_rows ?c_are_rows ?k_are_rows ?a_used_by ?l_used_by ?c_used_by ?k_used_by ?a_is_template ?l_is_template ?c_is_template ?k_is_template ?a_is_source ?l_is_source ?c_is_source ?k_is_source ?a__law_spring ?l__law_spring ?c__law_spring ?k__law_spring ?a__law_draw ?l__law_draw ?c__law_draw ?k__law_draw ?a__law_one_of ?l__law_one_of ?c__law_one_of ?k__law_one_of ?a__law_names ?l__law_names ?c__law_names ?k__law_names ?a__law_row ?l__law_row ?c__law_row ?k__law_row ?a__law_rows ?l__law_rows ?c__law_rows ?k__law_rows ?a__law_source ?l__law_source ?c__law_source ?k__law_source ?a__law_value ?l__law_value ?c__law_value ?k__law_value ?a__law_bent ?l__law_bent ?c__law_bent ?k__law_bent ?a__law_longer ?l__law_longer ?c__law_longer ?k__law_longer ?a__law_odd_rows ?l__law_odd_rows ?c__law_odd_rows ?k__law_odd_rows ?a__law_by_hand ?l__law_by_hand ?c__law_by_hand ?k__law_by_hand ?a__law_is_name ?l__law_is_name ?c__law_is_name ?k__law_is_name ?a__law_are_names ?l__law_are_names ?c__law_are_names ?k__law_are_names ?a__law_is_count ?l__law_is_count ?c__law_is_count ?k__law_is_count ?a__law_fits ?l__law_fits ?c__law_fits ?k__law_fits ?a__law_is_row ?l__law_is_row ?c__law_is_row ?k__law_is_row ?a__law_are_heads ?l__law_are_heads ?c__law_are_heads ?k__law_are_heads ?a__law_is_in_ring ?l__law_is_in_ring ?c__law_is_in_ring ?k__law_is_in_ring ?a__law_are_rows ?l__law_are_rows ?c__law_are_rows ?k__law_are_rows ?a__law_is_source ?l__law_is_source ?c__law_is_source ?k__law_is_source ?a__law_right ?l__law_right ?c__law_right ?k__law_right ?a_law ?l_law ?c_law ?k_law ?z_all ?z_any ?z_bool ?z_dict ?z_enumerate ?z_int ?z_isinstance ?z_len ?z_list ?z_range ?z_repr ?z_set ?z_sorted ?z_str ?z_tuple ?z_zip ?g_SHAPES ?h_SHAPES ?y_SHAPES ?x_SHAPES_0 ?x_SHAPES_1 ?x_SHAPES_2 ?x_SHAPES_3 ?x_SHAPES_4 ?x_SHAPES_5 ?x_SHAPES_6 ?x_SHAPES_7 ?x_SHAPES_8 ?x_SHAPES_9 ?x_SHAPES_10 ?x_SHAPES_11 ?x_SHAPES_12 ?x_SHAPES_13 ?x_SHAPES_14 ?x_SHAPES_15 ?x_SHAPES_16 ?v_SHAPES ?lo_SHAPES ?g_BARRED_KINDS ?h_BARRED_KINDS ?g_DIGITS ?g_LETTERS ?g_LONGEST_NAME ?g_MODULUS ?g_MOST_FIELDS ?g_MOST_KINDS ?g_MOST_PROCEDURES ?g_MOST_TEMPLATES
    (case a_is_integer => k_is)
    (case l_is_integer => k_is)
    (case c_is_integer => k_is)
    (case k_is_integer => k_is)
    (case a_is_number => k_is)
    (case l_is_number => k_is)
    (case c_is_number => k_is)
    (case k_is_number => k_is)
    (case a_is_name => k_is)
    (case l_is_name => k_is)
    (case c_is_name => k_is)
    (case k_is_name => k_is)
    (case a_are_names => k_is)
    (case l_are_names => k_is)
    (case c_are_names => k_is)
    (case k_are_names => k_is)
    (case a_are_distinct => k_is)
    (case l_are_distinct => k_is)
    (case c_are_distinct => k_is)
    (case k_are_distinct => k_is)
    (case a_is_kind => k_is)
    (case l_is_kind => k_is)
    (case c_is_kind => k_is)
    (case k_is_kind => k_is)
    (case a_are_kinds => k_is)
    (case l_are_kinds => k_is)
    (case c_are_kinds => k_is)
    (case k_are_kinds => k_is)
    (case a_has_head => k_is)
    (case l_has_head => k_is)
    (case c_has_head => k_is)
    (case k_has_head => k_is)
    (case a_have_heads => k_is)
    (case l_have_heads => k_is)
    (case c_have_heads => k_is)
    (case k_have_heads => k_is)
    (case a_are_procedures => k_is)
    (case l_are_procedures => k_is)
    (case c_are_procedures => k_is)
    (case k_are_procedures => k_is)
    (case a_sizes_of => k_is)
    (case l_sizes_of => k_is)
    (case c_sizes_of => k_is)
    (case k_sizes_of => k_is)
    (case a_is_part => k_is)
    (case l_is_part => k_is)
    (case c_is_part => k_is)
    (case k_is_part => k_is)
    (case a_is_row => k_is)
    (case l_is_row => k_is)
    (case c_is_row => k_is)
    (case k_is_row => k_is)
    (case a_are_rows => k_is)
    (case l_are_rows => k_is)
    (case c_are_rows => k_is)
    (case k_are_rows => k_is)
    (case a_used_by => k_is)
    (case l_used_by => k_is)
    (case c_used_by => k_is)
    (case k_used_by => k_is)
    (case a_is_template => k_is)
    (case l_is_template => k_is)
    (case c_is_template => k_is)
    (case k_is_template => k_is)
    (case a_is_source => k_is)
    (case l_is_source => k_is)
    (case c_is_source => k_is)
    (case k_is_source => k_is)
    (case a__law_spring => k_is)
    (case l__law_spring => k_is)
    (case c__law_spring => k_is)
    (case k__law_spring => k_is)
    (case a__law_draw => k_is)
    (case l__law_draw => k_is)
    (case c__law_draw => k_is)
    (case k__law_draw => k_is)
    (case a__law_one_of => k_is)
    (case l__law_one_of => k_is)
    (case c__law_one_of => k_is)
    (case k__law_one_of => k_is)
    (case a__law_names => k_is)
    (case l__law_names => k_is)
    (case c__law_names => k_is)
    (case k__law_names => k_is)
    (case a__law_row => k_is)
    (case l__law_row => k_is)
    (case c__law_row => k_is)
    (case k__law_row => k_is)
    (case a__law_rows => k_is)
    (case l__law_rows => k_is)
    (case c__law_rows => k_is)
    (case k__law_rows => k_is)
    (case a__law_source => k_is)
    (case l__law_source => k_is)
    (case c__law_source => k_is)
    (case k__law_source => k_is)
    (case a__law_value => k_is)
    (case l__law_value => k_is)
    (case c__law_value => k_is)
    (case k__law_value => k_is)
    (case a__law_bent => k_is)
    (case l__law_bent => k_is)
    (case c__law_bent => k_is)
    (case k__law_bent => k_is)
    (case a__law_longer => k_is)
    (case l__law_longer => k_is)
    (case c__law_longer => k_is)
    (case k__law_longer => k_is)
    (case a__law_odd_rows => k_is)
    (case l__law_odd_rows => k_is)
    (case c__law_odd_rows => k_is)
    (case k__law_odd_rows => k_is)
    (case a__law_by_hand => k_is)
    (case l__law_by_hand => k_is)
    (case c__law_by_hand => k_is)
    (case k__law_by_hand => k_is)
    (case a__law_is_name => k_is)
    (case l__law_is_name => k_is)
    (case c__law_is_name => k_is)
    (case k__law_is_name => k_is)
    (case a__law_are_names => k_is)
    (case l__law_are_names => k_is)
    (case c__law_are_names => k_is)
    (case k__law_are_names => k_is)
    (case a__law_is_count => k_is)
    (case l__law_is_count => k_is)
    (case c__law_is_count => k_is)
    (case k__law_is_count => k_is)
    (case a__law_fits => k_is)
    (case l__law_fits => k_is)
    (case c__law_fits => k_is)
    (case k__law_fits => k_is)
    (case a__law_is_row => k_is)
    (case l__law_is_row => k_is)
    (case c__law_is_row => k_is)
    (case k__law_is_row => k_is)
    (case a__law_are_heads => k_is)
    (case l__law_are_heads => k_is)
    (case c__law_are_heads => k_is)
    (case k__law_are_heads => k_is)
    (case a__law_is_in_ring => k_is)
    (case l__law_is_in_ring => k_is)
    (case c__law_is_in_ring => k_is)
    (case k__law_is_in_ring => k_is)
    (case a__law_are_rows => k_is)
    (case l__law_are_rows => k_is)
    (case c__law_are_rows => k_is)
    (case k__law_are_rows => k_is)
    (case a__law_is_source => k_is)
    (case l__law_is_source => k_is)
    (case c__law_is_source => k_is)
    (case k__law_is_source => k_is)
    (case a__law_right => k_is)
    (case l__law_right => k_is)
    (case c__law_right => k_is)
    (case k__law_right => k_is)
    (case a_law => k_is)
    (case l_law => k_is)
    (case c_law => k_is)
    (case k_law => k_is)
    (case z_all => k_is)
    (case z_any => k_is)
    (case z_bool => k_is)
    (case z_dict => k_is)
    (case z_enumerate => k_is)
    (case z_int => k_is)
    (case z_isinstance => k_is)
    (case z_len => k_is)
    (case z_list => k_is)
    (case z_range => k_is)
    (case z_repr => k_is)
    (case z_set => k_is)
    (case z_sorted => k_is)
    (case z_str => k_is)
    (case z_tuple => k_is)
    (case z_zip => k_is)
    (case g_SHAPES => k_is)
    (case h_SHAPES => k_is)
    (case y_SHAPES => repeat first | exact True.intro | refine ⟨⟨_, _, rfl, rfl⟩, ?_⟩)
    (case x_SHAPES_0 => k_is)
    (case x_SHAPES_1 => k_is)
    (case x_SHAPES_2 => k_is)
    (case x_SHAPES_3 => k_is)
    (case x_SHAPES_4 => k_is)
    (case x_SHAPES_5 => k_is)
    (case x_SHAPES_6 => k_is)
    (case x_SHAPES_7 => k_is)
    (case x_SHAPES_8 => k_is)
    (case x_SHAPES_9 => k_is)
    (case x_SHAPES_10 => k_is)
    (case x_SHAPES_11 => k_is)
    (case x_SHAPES_12 => k_is)
    (case x_SHAPES_13 => k_is)
    (case x_SHAPES_14 => k_is)
    (case x_SHAPES_15 => k_is)
    (case x_SHAPES_16 => k_is)
    (case v_SHAPES => repeat first | exact True.intro | refine ⟨⟨_, rfl⟩, ⟨_, rfl⟩, ?_⟩)
    (case lo_SHAPES => first | rfl | decide | k_is)
    (case g_BARRED_KINDS => k_is)
    (case h_BARRED_KINDS => k_is)
    (case g_DIGITS => k_is)
    (case g_LETTERS => k_is)
    (case g_LONGEST_NAME => k_is)
    (case g_MODULUS => k_is)
    (case g_MOST_FIELDS => k_is)
    (case g_MOST_KINDS => k_is)
    (case g_MOST_PROCEDURES => k_is)
    (case g_MOST_TEMPLATES => k_is)
#print axioms PySem.Challenge.cw_reinways_k05_sources_of_any_values_holds
