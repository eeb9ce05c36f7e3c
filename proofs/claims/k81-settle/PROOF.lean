import PyProof.Rows.All
import Wide.All
import OpenK.AllK
import Wide.FinOn
import PyProof.EqAt
import PyProof.EqKinds
import PyProof.TupleCall
import KE.KStateDown
import HandS.ForMost
import HandS.ForExc
import HandS.Wide
import HandS.Defaults
import HandS.Style
import HandS.ExcInit
import HandS.ExcField
import HandS.ExcIs
import HandS.IsInst
import HandS.Conv
import HandS.More
import HandS.TupSets
import HandS.Walk
import HandS.Codes
import HandS.NoneIn
import HandS.TupAny
import HandS.SortOrd
import HandS.SortRule
import HandS.TupMul
import HandS.SortKw
import KE.DataMinMax
import KE.GoesMore
import KE.GoesEnum
import HandS.TupLe
import KE.KExcIs
import HandS.SetFor
import HandS.MakeKwOnly
import HandS.Ends
import HandS.Head0
import HandS.Head1
import HandS.Head2
import HandS.HeadEnd
import HandS.HeadHook1
import HandS.HeadHook2
import PySem.Challenge.RW_twosweeps_k81_settle

set_option Elab.async false
set_option linter.all false
set_option maxRecDepth 100000
set_option maxHeartbeats 4000000
/-! # Twosweeps, the common part: values as trees, heaps that are kept, calls by name -/
namespace TW
open PySem PySem.Spec PyProof.Rows L2
/-! ### values as trees -/
inductive T where
  | non | bl (b : Bool) | int (i : Int) | str (s : Str) | tup (ts : List T)
mutual
/-- v stands for the tree t -/
inductive Im (K : PySem.W.Frag) (H : Hp) : V → T → Prop
  | non : Im K H .non .non
  | bl (b : Bool) : Im K H (.bl b) (.bl b)
  | int (i : Int) : Im K H (.int i) (.int i)
  | str (x : Str) : Im K H (.str x) (.str x)
  | tup {a : Addr} {vs : List V} {ts : List T} : SqT K H a vs → Ims K H vs ts → Im K H (.ref a) (.tup ts)
inductive Ims (K : PySem.W.Frag) (H : Hp) : List V → List T → Prop
  | nil : Ims K H [] []
  | cons {v : V} {vs : List V} {t : T} {ts : List T} : Im K H v t → Ims K H vs ts → Ims K H (v :: vs) (t :: ts)
end
/-- the tuples stay -/
def Keep (H H' : Hp) : Prop := ∀ a xs, Rd H a (.tup xs) → Rd H' a (.tup xs)
theorem Keep.refl (H : Hp) : Keep H H := fun _ _ h => h
theorem Keep.trans {H H1 H2 : Hp} (a : Keep H H1) (b : Keep H1 H2) : Keep H H2 := fun x xs h => b x xs (a x xs h)
theorem _root_.L2.Same.keep {H H' : Hp} (s : Same H H') : Keep H H' := fun a xs h => by
  rcases h with h | ⟨o, h⟩
  · exact .inl (s _ _ h)
  · exact .inr ⟨o, s _ _ h⟩
theorem same_new {H : Hp} {p : Addr} {o : HO} (h : H p = none) : Same H (upd H p o) := fun b u e => by
  rw [upd_ne (ne_of_none e h)]
  exact e
theorem keep_new {H : Hp} {p : Addr} {o : HO} (h : H p = none) : Keep H (upd H p o) := L2.Same.keep (same_new h)
/-- what may be written is no tuple -/
theorem keep_mut {H : Hp} {p : Addr} {o : HO} (h : Mut (H p)) : Keep H (upd H p o) := fun a xs r => by
  rcases r with r | ⟨u, r⟩
  · have n : a ≠ p := fun e => by
      rw [e] at r
      rw [r] at h
      exact h
    exact .inl (by rw [upd_ne n]; exact r)
  · have n : a ≠ p := fun e => by
      rw [e] at r
      rw [r] at h
      exact h
    exact .inr ⟨u, by rw [upd_ne n]; exact r⟩
theorem keep_lst {H : Hp} {p : Addr} {xs : List V} {o : HO} (h : H p = some (.lst xs)) : Keep H (upd H p o) := keep_mut (by rw [h]; trivial)
/-- what was known ahead of the making of p stays as p changes -/
theorem same_mut {H H' : Hp} {p : Addr} {o : HO} (s : Same H H') (h : H p = none) : Same H (upd H' p o) := fun b u e => by
  rw [upd_ne (ne_of_none e h)]
  exact s _ _ e
section
variable {K : PySem.W.Frag} {H H' : Hp}
theorem Keep.sq {a : Addr} {xs : List V} (k : Keep H H') (h : SqT K H a xs) : SqT K H' a xs := by
  rcases h with h | h
  · exact .inl (k _ _ h)
  · exact .inr h
mutual
theorem Im.mono (k : Keep H H') : ∀ {v : V} {t : T}, Im K H v t → Im K H' v t
  | _, _, .non => .non
  | _, _, .bl b => .bl b
  | _, _, .int i => .int i
  | _, _, .str x => .str x
  | _, _, .tup q h => .tup (k.sq q) (Ims.mono k h)
theorem Ims.mono (k : Keep H H') : ∀ {vs : List V} {ts : List T}, Ims K H vs ts → Ims K H' vs ts
  | _, _, .nil => .nil
  | _, _, .cons h r => .cons (Im.mono k h) (Ims.mono k r)
end
theorem Ims.length : ∀ {vs : List V} {ts : List T}, Ims K H vs ts → vs.length = ts.length
  | _, _, .nil => rfl
  | _, _, .cons _ r => congrArg Nat.succ (Ims.length r)
theorem Ims.get : ∀ {vs : List V} {ts : List T} {i : Nat} {v : V}, Ims K H vs ts → vs[i]? = some v → ∃ t, ts[i]? = some t ∧ Im K H v t
  | _, _, _, _, .nil, e => by simp at e
  | _, _, 0, v, .cons h _, e => by
    have e : _ = v := Option.some.inj e
    subst e
    exact ⟨_, rfl, h⟩
  | _, _, i + 1, v, .cons _ r, e => Ims.get (i := i) r e
theorem Ims.get' : ∀ {vs : List V} {ts : List T} {i : Nat} {t : T}, Ims K H vs ts → ts[i]? = some t → ∃ v, vs[i]? = some v ∧ Im K H v t
  | _, _, _, _, .nil, e => by simp at e
  | _, _, 0, v, .cons h _, e => by
    have e : _ = v := Option.some.inj e
    subst e
    exact ⟨_, rfl, h⟩
  | _, _, i + 1, v, .cons _ r, e => Ims.get' (i := i) r e
theorem Ims.append : ∀ {vs ws : List V} {ts us : List T}, Ims K H vs ts → Ims K H ws us → Ims K H (vs ++ ws) (ts ++ us)
  | _, _, _, _, .nil, s => s
  | _, _, _, _, .cons h r, s => .cons h (Ims.append r s)
theorem Ims.snoc {vs : List V} {ts : List T} {v : V} {t : T} (h : Ims K H vs ts) (g : Im K H v t) : Ims K H (vs ++ [v]) (ts ++ [t]) := h.append (.cons g .nil)
theorem Ims.set : ∀ {vs : List V} {ts : List T} {i : Nat} {v : V} {t : T}, Ims K H vs ts → Im K H v t → Ims K H (vs.set i v) (ts.set i t)
  | _, _, _, _, _, .nil, _ => .nil
  | _, _, 0, _, _, .cons _ r, g => .cons g r
  | _, _, i + 1, _, _, .cons h r, g => .cons h (Ims.set (i := i) r g)
theorem Ims.take : ∀ {vs : List V} {ts : List T} (n : Nat), Ims K H vs ts → Ims K H (vs.take n) (ts.take n)
  | _, _, 0, _ => .nil
  | _, _, _ + 1, .nil => .nil
  | _, _, n + 1, .cons h r => .cons h (Ims.take n r)
theorem Ims.drop : ∀ {vs : List V} {ts : List T} (n : Nat), Ims K H vs ts → Ims K H (vs.drop n) (ts.drop n)
  | _, _, 0, h => h
  | _, _, _ + 1, .nil => .nil
  | _, _, n + 1, .cons _ r => Ims.drop n r
theorem Ims.reverse {vs : List V} {ts : List T} (h : Ims K H vs ts) : Ims K H vs.reverse ts.reverse := by
  have gen : ∀ {vs : List V} {ts : List T}, Ims K H vs ts → ∀ {ws : List V} {us : List T}, Ims K H ws us → Ims K H (vs.reverseAux ws) (ts.reverseAux us) := by
    intro vs
    induction vs with
    | nil =>
      intro ts h ws us g
      cases h
      exact g
    | cons v r ih =>
      intro ts h ws us g
      cases h with
      | cons h1 h2 => exact ih h2 (.cons h1 g)
  exact gen h .nil
/-- the items known one by one -/
theorem Ims.of_get : ∀ {vs : List V} {ts : List T}, vs.length = ts.length → (∀ (i : Nat) v t, vs[i]? = some v → ts[i]? = some t → Im K H v t) → Ims K H vs ts
  | [], [], _, _ => .nil
  | [], _ :: _, h, _ => by simp at h
  | _ :: _, [], h, _ => by simp at h
  | v :: vs, t :: ts, hl, h => .cons (h 0 v t rfl rfl) (Ims.of_get (by simpa using hl) fun i v t e1 e2 => h (i + 1) v t (by simpa using e1) (by simpa using e2))
/-- the items of a list, some of them again -/
theorem Ims.perm_of {vs ws : List V} {ts : List T} (h : Ims K H vs ts) (p : ws.Perm vs) : ∃ us, us.Perm ts ∧ Ims K H ws us := by
  induction p generalizing ts with
  | nil =>
    cases h
    exact ⟨[], .nil, .nil⟩
  | cons x _ ih =>
    cases h with
    | cons h1 h2 =>
      obtain ⟨us, p, q⟩ := ih h2
      exact ⟨_ :: us, p.cons _, .cons h1 q⟩
  | swap x y l =>
    cases h with
    | cons h1 h2 =>
      cases h2 with
      | cons h3 h4 => exact ⟨_, .swap _ _ _, .cons h3 (.cons h1 h4)⟩
  | trans _ _ ih1 ih2 =>
    obtain ⟨us, p, q⟩ := ih2 h
    obtain ⟨us2, p2, q2⟩ := ih1 q
    exact ⟨us2, p2.trans p, q2⟩
theorem Ims.ints : ∀ (ns : List Int), Ims K H (ns.map V.int) (ns.map T.int)
  | [] => .nil
  | n :: r => .cons (.int n) (Ims.ints r)
theorem Im.int_inv {v : V} {i : Int} (h : Im K H v (.int i)) : v = .int i := by cases h; rfl
theorem Im.str_inv {v : V} {x : Str} (h : Im K H v (.str x)) : v = .str x := by cases h; rfl
theorem Im.non_inv {v : V} (h : Im K H v .non) : v = .non := by cases h; rfl
theorem Im.bl_inv {v : V} {b : Bool} (h : Im K H v (.bl b)) : v = .bl b := by cases h; rfl
theorem Im.tup_inv {v : V} {ts : List T} (h : Im K H v (.tup ts)) : ∃ a vs, v = .ref a ∧ SqT K H a vs ∧ Ims K H vs ts := by
  cases h with
  | tup q h => exact ⟨_, _, rfl, q, h⟩
theorem Ims.nil_inv {vs : List V} (h : Ims K H vs []) : vs = [] := by cases h; rfl
theorem Ims.cons_inv {vs : List V} {t : T} {ts : List T} (h : Ims K H vs (t :: ts)) : ∃ v ws, vs = v :: ws ∧ Im K H v t ∧ Ims K H ws ts := by
  cases h with
  | cons h r => exact ⟨_, _, rfl, h, r⟩
theorem Ims.one_inv {vs : List V} {t : T} (h : Ims K H vs [t]) : ∃ v, vs = [v] ∧ Im K H v t := by
  obtain ⟨v, ws, rfl, h1, h2⟩ := h.cons_inv
  cases h2
  exact ⟨v, rfl, h1⟩
theorem Ims.two_inv {vs : List V} {t u : T} (h : Ims K H vs [t, u]) : ∃ v w, vs = [v, w] ∧ Im K H v t ∧ Im K H w u := by
  obtain ⟨v, ws, rfl, h1, h2⟩ := h.cons_inv
  obtain ⟨w, rfl, h3⟩ := h2.one_inv
  exact ⟨v, w, rfl, h1, h3⟩
theorem Ims.three_inv {vs : List V} {t u x : T} (h : Ims K H vs [t, u, x]) : ∃ v w y, vs = [v, w, y] ∧ Im K H v t ∧ Im K H w u ∧ Im K H y x := by
  obtain ⟨v, ws, rfl, h1, h2⟩ := h.cons_inv
  obtain ⟨w, y, rfl, h3, h4⟩ := h2.two_inv
  exact ⟨v, w, y, rfl, h1, h3, h4⟩
/-- a new tuple -/
theorem Im.new {p : Addr} {vs : List V} {ts : List T} (hp : H p = none) (h : Ims K H vs ts) : Im K (upd H p (.tup vs)) (.ref p) (.tup ts) :=
  .tup (.inl (.inl upd_same)) (h.mono (keep_new hp))
/-- a list at a value -/
def Ls (K : PySem.W.Frag) (H : Hp) (v : V) (ts : List T) : Prop := ∃ a vs, v = .ref a ∧ SqL K H a vs ∧ Ims K H vs ts
/-- a list or a tuple -/
def Sq (K : PySem.W.Frag) (H : Hp) (v : V) (ts : List T) : Prop := ∃ a vs, v = .ref a ∧ (SqL K H a vs ∨ SqT K H a vs) ∧ Ims K H vs ts
theorem Ls.sq {v : V} {ts : List T} (h : Ls K H v ts) : Sq K H v ts := by
  obtain ⟨a, vs, e, q, i⟩ := h
  exact ⟨a, vs, e, .inl q, i⟩
theorem Im.sq {v : V} {ts : List T} (h : Im K H v (.tup ts)) : Sq K H v ts := by
  obtain ⟨a, vs, e, q, i⟩ := h.tup_inv
  exact ⟨a, vs, e, .inr q, i⟩
theorem _root_.L2.Same.sqL {a : Addr} {xs : List V} (s : Same H H') (h : SqL K H a xs) : SqL K H' a xs := L2.Same.seq s h
theorem _root_.L2.Same.sqT {a : Addr} {xs : List V} (s : Same H H') (h : SqT K H a xs) : SqT K H' a xs := s.keep.sq h
theorem _root_.L2.Same.im {v : V} {t : T} (s : Same H H') (h : Im K H v t) : Im K H' v t := h.mono s.keep
theorem _root_.L2.Same.ims {vs : List V} {ts : List T} (s : Same H H') (h : Ims K H vs ts) : Ims K H' vs ts := h.mono s.keep
theorem _root_.L2.Same.ls {v : V} {ts : List T} (s : Same H H') (h : Ls K H v ts) : Ls K H' v ts := by
  obtain ⟨a, vs, e, q, i⟩ := h
  exact ⟨a, vs, e, L2.Same.sqL s q, L2.Same.ims s i⟩
theorem _root_.L2.Same.sq {v : V} {ts : List T} (s : Same H H') (h : Sq K H v ts) : Sq K H' v ts := by
  obtain ⟨a, vs, e, q, i⟩ := h
  exact ⟨a, vs, e, q.imp (L2.Same.sqL s) (L2.Same.sqT s), L2.Same.ims s i⟩
end
/-! ### a def by its name -/
structure Gf (P : Program) (w : World) (K : PySem.W.Frag) (mg : Str → Option Value) (base : Heap) (x : Str) (k : Nat) (sp : Sp) : Prop where
  ex : ∃ (f : Addr) (fd : FuncData) (ps : List Str), FnOk P w K mg base (L2.CX P w) k f fd ps sp ∧ mg x = some (.ref f) ∧ PySem.W.keepIn K (.ref f) = true ∧ Binds K fd ps []
section
variable {X : Cx} {x : Str} {k : Nat} {sp : Sp} {p pos : Pos} {e : Expr} {es : List Expr} {t : TA} {W : WX}
theorem pe_g (G : Gf X.prog X.w X.K X.mg X.base x k sp) (hr : Room k X.A) (tk : Takes X W) (ha : PA X (e :: es) t) (hg : Gl X x := by rfl)
    (hdb : (x == ("__debug__" : Str)) = false := by decide) (he : starEach (e :: es) X.env = (false, eval e X.env) :: starEach es X.env := by rfl) (hpl : (backTo pos (starEach es X.env)).any (·.1) = false := by rfl) :
    PE X (.Call (.Name x p) (e :: es) [] pos) (tCallS sp (WE W) t) := by
  obtain ⟨f, fd, ps, F, hm, hk, hb⟩ := G.ex
  exact pe_callS F hr hg hm hk hb (fun σ => passAt tk σ) ha hdb he hpl
theorem pe_g0 (G : Gf X.prog X.w X.K X.mg X.base x k sp) (hr : Room k X.A) (hx : Passes (L2.CX X.prog X.w) X E0) (hg : Gl X x := by rfl)
    (hdb : (x == ("__debug__" : Str)) = false := by decide) :
    PE X (.Call (.Name x p) [] [] pos) (tCallS sp (fun _ => E0) tNil) := by
  obtain ⟨f, fd, ps, F, hm, hk, hb⟩ := G.ex
  exact pe_call0 F hr hg hm hk hb .nil hx hdb
end
end TW

set_option Elab.async false
set_option linter.all false
set_option maxRecDepth 100000
set_option maxHeartbeats 4000000
namespace TW
open PySem PySem.Spec PyProof.Rows L2
/-! ### trees as data, equality -/
def T.isN : T → Bool
  | .non => true
  | _ => false
mutual
def T.d : T → PyData
  | .non => .none
  | .bl b => .bool b
  | .int i => .int i
  | .str s => .str s
  | .tup ts => .tuple (T.ds ts)
def T.ds : List T → List PyData
  | [] => []
  | t :: r => T.d t :: T.ds r
end
mutual
theorem Im.dp {K : PySem.W.Frag} {H : Hp} : ∀ {v : V} {t : T}, Im K H v t → Dp K H v t.d
  | _, _, .non => .non
  | _, _, .bl b => .bl b
  | _, _, .int i => .int i
  | _, _, .str x => .str x
  | _, _, .tup q h => .tup q (Ims.dp h)
theorem Ims.dp {K : PySem.W.Frag} {H : Hp} : ∀ {vs : List V} {ts : List T}, Ims K H vs ts → DpAll K H vs (T.ds ts)
  | _, _, .nil => .nil
  | _, _, .cons h r => .cons (Im.dp h) (Ims.dp r)
end
/- no truth values within -/
mutual
def T.pure : T → Bool
  | .bl _ => false
  | .tup ts => T.pures ts
  | _ => true
def T.pures : List T → Bool
  | [] => true
  | t :: r => T.pure t && T.pures r
end
mutual
theorem T.eqv_iff : ∀ (t u : T), t.pure = true → u.pure = true → (PyData.eqv t.d u.d = true ↔ t = u)
  | .non, .non, _, _ => by simp [T.d, PyData.eqv]
  | .non, .int _, _, _ => by simp [T.d, PyData.eqv]
  | .non, .str _, _, _ => by simp [T.d, PyData.eqv]
  | .non, .tup _, _, _ => by simp [T.d, PyData.eqv]
  | .int _, .non, _, _ => by simp [T.d, PyData.eqv]
  | .int i, .int j, _, _ => by simp [T.d, PyData.eqv]
  | .int _, .str _, _, _ => by simp [T.d, PyData.eqv]
  | .int _, .tup _, _, _ => by simp [T.d, PyData.eqv]
  | .str _, .non, _, _ => by simp [T.d, PyData.eqv]
  | .str _, .int _, _, _ => by simp [T.d, PyData.eqv]
  | .str x, .str y, _, _ => by simp [T.d, PyData.eqv]
  | .str _, .tup _, _, _ => by simp [T.d, PyData.eqv]
  | .tup _, .non, _, _ => by simp [T.d, PyData.eqv]
  | .tup _, .int _, _, _ => by simp [T.d, PyData.eqv]
  | .tup _, .str _, _, _ => by simp [T.d, PyData.eqv]
  | .tup ts, .tup us, h, g => by
    have := T.eqvs_iff ts us h g
    simp only [T.d, PyData.eqv, T.tup.injEq]
    exact this
  | .bl _, _, h, _ => by simp [T.pure] at h
  | .non, .bl _, _, h => by simp [T.pure] at h
  | .int _, .bl _, _, h => by simp [T.pure] at h
  | .str _, .bl _, _, h => by simp [T.pure] at h
  | .tup _, .bl _, _, h => by simp [T.pure] at h
theorem T.eqvs_iff : ∀ (ts us : List T), T.pures ts = true → T.pures us = true → (PyData.eqvAll (T.ds ts) (T.ds us) = true ↔ ts = us)
  | [], [], _, _ => by simp [T.ds, PyData.eqvAll]
  | [], _ :: _, _, _ => by simp [T.ds, PyData.eqvAll]
  | _ :: _, [], _, _ => by simp [T.ds, PyData.eqvAll]
  | t :: ts, u :: us, h, g => by
    have h1 : t.pure = true ∧ T.pures ts = true := Bool.and_eq_true_iff.mp h
    have g1 : u.pure = true ∧ T.pures us = true := Bool.and_eq_true_iff.mp g
    have a := T.eqv_iff t u h1.1 g1.1
    have b := T.eqvs_iff ts us h1.2 g1.2
    simp only [T.ds, PyData.eqvAll, Bool.and_eq_true, List.cons.injEq]
    exact and_congr a b
end
/-! ### what a value is -/
inductive D where
  | im (t : T)
  | ls (ts : List T)
  | sq (ts : List T)
  | fl (C : Addr) (rows cells : List T) (h w : Int)
/-- a Floor stands at a -/
structure FloorAt (K : PySem.W.Frag) (C : Addr) (H : Hp) (a : Addr) (rows cells : List T) (h w : Int) : Prop where
  ob : ∃ (dx : Addr) (r c : V), H a = some (.ins C dx [("rows", r), ("h", .int h), ("w", .int w), ("cells", c)]) ∧ Im K H r (.tup rows) ∧ Im K H c (.tup cells)
def Is (K : PySem.W.Frag) (H : Hp) (v : V) : D → Prop
  | .im t => Im K H v t
  | .ls ts => Ls K H v ts
  | .sq ts => Sq K H v ts
  | .fl C rows cells h w => ∃ a, v = .ref a ∧ FloorAt K C H a rows cells h w
inductive Iss (K : PySem.W.Frag) (H : Hp) : List V → List D → Prop
  | nil : Iss K H [] []
  | cons {v : V} {vs : List V} {d : D} {ds : List D} : Is K H v d → Iss K H vs ds → Iss K H (v :: vs) (d :: ds)
section
variable {K : PySem.W.Frag} {H H' : Hp}
theorem _root_.L2.Same.is (s : Same H H') : ∀ {d : D} {v : V}, Is K H v d → Is K H' v d
  | .im _, _, h => L2.Same.im s h
  | .ls _, _, h => L2.Same.ls s h
  | .sq _, _, h => L2.Same.sq s h
  | .fl _ _ _ _ _, _, ⟨a, e, ⟨dx, r, c, ho, h1, h2⟩⟩ => ⟨a, e, ⟨dx, r, c, s _ _ ho, L2.Same.im s h1, L2.Same.im s h2⟩⟩
theorem _root_.L2.Same.iss (s : Same H H') : ∀ {vs : List V} {ds : List D}, Iss K H vs ds → Iss K H' vs ds
  | _, _, .nil => .nil
  | _, _, .cons h r => .cons (L2.Same.is s h) (L2.Same.iss s r)
theorem Iss.nil_inv {vs : List V} (h : Iss K H vs []) : vs = [] := by cases h; rfl
theorem Iss.cons_inv {vs : List V} {t : D} {ts : List D} (h : Iss K H vs (t :: ts)) : ∃ v ws, vs = v :: ws ∧ Is K H v t ∧ Iss K H ws ts := by
  cases h with
  | cons h r => exact ⟨_, _, rfl, h, r⟩
theorem Iss.one_inv {vs : List V} {t : D} (h : Iss K H vs [t]) : ∃ v, vs = [v] ∧ Is K H v t := by
  obtain ⟨v, ws, rfl, h1, h2⟩ := h.cons_inv
  cases h2
  exact ⟨v, rfl, h1⟩
theorem Iss.two_inv {vs : List V} {t u : D} (h : Iss K H vs [t, u]) : ∃ v w, vs = [v, w] ∧ Is K H v t ∧ Is K H w u := by
  obtain ⟨v, ws, rfl, h1, h2⟩ := h.cons_inv
  obtain ⟨w, rfl, h3⟩ := h2.one_inv
  exact ⟨v, w, rfl, h1, h3⟩
theorem Iss.three_inv {vs : List V} {t u x : D} (h : Iss K H vs [t, u, x]) : ∃ v w y, vs = [v, w, y] ∧ Is K H v t ∧ Is K H w u ∧ Is K H y x := by
  obtain ⟨v, ws, rfl, h1, h2⟩ := h.cons_inv
  obtain ⟨w, y, rfl, h3, h4⟩ := h2.two_inv
  exact ⟨v, w, y, rfl, h1, h3, h4⟩
theorem Iss.four_inv {vs : List V} {t u x z : D} (h : Iss K H vs [t, u, x, z]) : ∃ v w y b, vs = [v, w, y, b] ∧ Is K H v t ∧ Is K H w u ∧ Is K H y x ∧ Is K H b z := by
  obtain ⟨v, ws, rfl, h1, h2⟩ := h.cons_inv
  obtain ⟨w, y, b, rfl, h3, h4, h5⟩ := h2.three_inv
  exact ⟨v, w, y, b, rfl, h1, h3, h4, h5⟩
theorem Iss.length : ∀ {vs : List V} {ds : List D}, Iss K H vs ds → vs.length = ds.length
  | _, _, .nil => rfl
  | _, _, .cons _ r => congrArg Nat.succ (Iss.length r)
theorem Is.iv {v : V} {i : Int} (h : Is K H v (.im (.int i))) : v = .int i := Im.int_inv h
theorem Is.sv {v : V} {i : Str} (h : Is K H v (.im (.str i))) : v = .str i := Im.str_inv h
theorem Is.bv {v : V} {i : Bool} (h : Is K H v (.im (.bl i))) : v = .bl i := Im.bl_inv h
theorem Is.nv {v : V} (h : Is K H v (.im .non)) : v = .non := Im.non_inv h
end
/-! ### what a pure expression evaluates to -/
def Ev (K : PySem.W.Frag) (te : TE) (σ : L2.St) (H : Hp) (d : D) : Prop := ∀ H1, Same H H1 → ∀ Q : VK, (∀ v H', Same H1 H' → Is K H' v d → Q v H') → te σ H1 Q
/-- a new list -/
def EvN (K : PySem.W.Frag) (te : TE) (σ : L2.St) (H : Hp) (ts : List T) : Prop := ∀ H1, Same H H1 → ∀ Q : VK, (∀ p vs H', H1 p = none → Same H1 H' → H' p = some (.lst vs) → Ims K H' vs ts → Q (.ref p) H') → te σ H1 Q
def EvT (K : PySem.W.Frag) (tt : TT) (σ : L2.St) (H : Hp) (b : Bool) : Prop := ∀ H1, Same H H1 → ∀ Q : Bool → Hp → Prop, (∀ H', Same H1 H' → Q b H') → tt σ H1 Q
def EvA (K : PySem.W.Frag) (ta : TA) (σ : L2.St) (H : Hp) (ds : List D) : Prop := ∀ H1, Same H H1 → ∀ Q : List V → Hp → Prop, (∀ vs H', Same H1 H' → Iss K H' vs ds → Q vs H') → ta σ H1 Q
section
variable {K : PySem.W.Frag} {σ : L2.St} {H H' : Hp} {te ta tb tc : TE} {tt tu : TT} {args : TA} {d : D} {ds : List D} {ts : List T} {t u : T} {i j : Int} {b c : Bool} {v : V}
theorem Ev.mono (s : Same H H') (h : Ev K te σ H d) : Ev K te σ H' d := fun H1 s1 => h H1 (s.trans s1)
theorem EvT.mono (s : Same H H') (h : EvT K tt σ H b) : EvT K tt σ H' b := fun H1 s1 => h H1 (s.trans s1)
theorem EvN.ev (h : EvN K te σ H ts) : Ev K te σ H (.ls ts) := fun H1 s Q q => h H1 s Q fun p vs H' _ s1 hp hi => q _ _ s1 ⟨p, vs, rfl, .inl (.inl hp), hi⟩
theorem Ev.sq_ls (h : Ev K te σ H (.ls ts)) : Ev K te σ H (.sq ts) := fun H1 s Q q => h H1 s Q fun v H' s1 hi => q _ _ s1 (Ls.sq hi)
theorem Ev.sq_im (h : Ev K te σ H (.im (.tup ts))) : Ev K te σ H (.sq ts) := fun H1 s Q q => h H1 s Q fun v H' s1 hi => q _ _ s1 (Im.sq hi)
theorem ev_eq {d d' : D} (h : Ev K te σ H d) (e : d = d') : Ev K te σ H d' := e ▸ h
theorem e_var {i : Nat} (h : σ[i]? = some (some v)) (hv : Is K H v d) : Ev K (tVar i) σ H d := fun H1 s Q q => ⟨v, h, q v H1 (Same.refl H1) (s.is hv)⟩
theorem e_vint {i : Nat} {n : Int} (h : σ[i]? = some (some (.int n))) : Ev K (tVar i) σ H (.im (.int n)) := e_var h (.int n)
theorem e_vstr {i : Nat} {n : Str} (h : σ[i]? = some (some (.str n))) : Ev K (tVar i) σ H (.im (.str n)) := e_var h (.str n)
theorem e_vbl {i : Nat} {n : Bool} (h : σ[i]? = some (some (.bl n))) : Ev K (tVar i) σ H (.im (.bl n)) := e_var h (.bl n)
theorem e_vnon {i : Nat} (h : σ[i]? = some (some .non)) : Ev K (tVar i) σ H (.im .non) := e_var h .non
theorem e_int : Ev K (tC (.int i)) σ H (.im (.int i)) := fun H1 _ _ q => q _ H1 (Same.refl H1) (.int i)
theorem e_bl : Ev K (tC (.bl b)) σ H (.im (.bl b)) := fun H1 _ _ q => q _ H1 (Same.refl H1) (Im.bl b)
theorem e_non : Ev K (tC .non) σ H (.im .non) := fun H1 _ _ q => q _ H1 (Same.refl H1) .non
theorem e_str {x : Str} : Ev K (tC (.str x)) σ H (.im (.str x)) := fun H1 _ _ q => q _ H1 (Same.refl H1) (.str x)
/-- a constant of the top: a tuple that is written -/
theorem e_top (h : ∀ H, Is K H v d) : Ev K (tC v) σ H d := fun H1 _ _ q => q _ H1 (Same.refl H1) (h H1)
/-- two values -/
theorem e_op {r : R2} {d1 d2 d : D} (ha : Ev K ta σ H d1) (hb : Ev K tb σ H d2) (hr : ∀ x y H1, Is K H1 x d1 → Is K H1 y d2 → ∀ Q : VK, (∀ v H', Same H1 H' → Is K H' v d → Q v H') → r x y H1 Q) : Ev K (tOp r ta tb) σ H d := fun H1 s Q q =>
  ha H1 s _ fun x H2 s2 hx => hb H2 (s.trans s2) _ fun y H3 s3 hy => hr x y H3 (s3.is hx) hy Q fun v H' s4 hv => q v H' ((s2.trans s3).trans s4) hv
theorem e_un {r : V → Hp → VK → Prop} {d1 d : D} (ha : Ev K ta σ H d1) (hr : ∀ x H1, Is K H1 x d1 → ∀ Q : VK, (∀ v H', Same H1 H' → Is K H' v d → Q v H') → r x H1 Q) : Ev K (tUn r ta) σ H d := fun H1 s Q q =>
  ha H1 s _ fun x H2 s2 hx => hr x H2 hx Q fun v H' s4 hv => q v H' (s2.trans s4) hv
theorem e_I0 {g : Int → Int → V} {d : D} (ha : Ev K ta σ H (.im (.int i))) (hb : Ev K tb σ H (.im (.int j))) (hg : ∀ H, Is K H (g i j) d) : Ev K (tOp (rI0 g) ta tb) σ H d :=
  e_op ha hb fun x y H1 hx hy Q q => ⟨i, j, hx.iv, hy.iv, q _ _ (Same.refl _) (hg _)⟩
theorem e_I {C : Int → Int → Prop} {g : Int → Int → V} {d : D} (ha : Ev K ta σ H (.im (.int i))) (hb : Ev K tb σ H (.im (.int j))) (hc : C i j) (hg : ∀ H, Is K H (g i j) d) : Ev K (tOp (rI C g) ta tb) σ H d :=
  e_op ha hb fun x y H1 hx hy Q q => ⟨i, j, hx.iv, hy.iv, hc, q _ _ (Same.refl _) (hg _)⟩
theorem e_intop {f : Int → Int → Int} (ha : Ev K ta σ H (.im (.int i))) (hb : Ev K tb σ H (.im (.int j))) : Ev K (tOp (rI0 fun i j => .int (f i j)) ta tb) σ H (.im (.int (f i j))) := e_I0 ha hb fun _ => .int _
theorem e_intopC {C : Int → Int → Prop} {f : Int → Int → Int} (ha : Ev K ta σ H (.im (.int i))) (hb : Ev K tb σ H (.im (.int j))) (hc : C i j) : Ev K (tOp (rI C fun i j => .int (f i j)) ta tb) σ H (.im (.int (f i j))) := e_I ha hb hc fun _ => .int _
theorem e_cmp {f : Int → Int → Bool} (ha : Ev K ta σ H (.im (.int i))) (hb : Ev K tb σ H (.im (.int j))) : Ev K (tOp (rI0 fun i j => .bl (f i j)) ta tb) σ H (.im (.bl (f i j))) := e_I0 ha hb fun _ => .bl _
theorem e_neg (ha : Ev K ta σ H (.im (.int i))) : Ev K (tUn (rU fun i => .int (-i)) ta) σ H (.im (.int (-i))) := e_un ha fun x H1 hx Q q => ⟨i, hx.iv, q _ _ (Same.refl _) (Im.int _)⟩
theorem e_isN (ha : Ev K ta σ H (.im t)) (hb : b = t.isN) : Ev K (tIsN ta) σ H (.im (.bl b)) := fun H1 s Q q =>
  ha H1 s _ fun x H2 s2 hx => q _ _ s2 (by
    have hx : Im K H2 x t := hx
    subst hb
    cases hx <;> exact Im.bl _)
theorem e_notN (ha : Ev K ta σ H (.im t)) (hb : b = !t.isN) : Ev K (tNotN ta) σ H (.im (.bl b)) := fun H1 s Q q =>
  ha H1 s _ fun x H2 s2 hx => q _ _ s2 (by
    have hx : Im K H2 x t := hx
    subst hb
    cases hx <;> exact Im.bl _)
theorem e_not (ha : Ev K ta σ H (.im (.bl b))) : Ev K (tNotV ta) σ H (.im (.bl (!b))) := fun H1 s Q q =>
  ha H1 s _ fun x H2 s2 hx => ⟨b, hx.bv, q _ _ s2 (Im.bl _)⟩
theorem e_and (ha : Ev K ta σ H (.im (.bl b))) (hb : b = true → Ev K tb σ H (.im (.bl c))) : Ev K (tAndV ta tb) σ H (.im (.bl (b && c))) := fun H1 s Q q =>
  ha H1 s _ fun x H2 s2 hx => ⟨b, hx.bv, by
    cases b with
    | true => exact iteT (hb rfl H2 (s.trans s2) Q fun v H' s3 hv => q v H' (s2.trans s3) hv)
    | false => exact iteF (q _ _ s2 (Im.bl _))⟩
theorem e_or (ha : Ev K ta σ H (.im (.bl b))) (hb : b = false → Ev K tb σ H (.im (.bl c))) : Ev K (tOrV ta tb) σ H (.im (.bl (b || c))) := fun H1 s Q q =>
  ha H1 s _ fun x H2 s2 hx => ⟨b, hx.bv, by
    cases b with
    | true => exact iteT (q _ _ s2 (Im.bl _))
    | false => exact iteF (hb rfl H2 (s.trans s2) Q fun v H' s3 hv => q v H' (s2.trans s3) hv)⟩
theorem e_if (h : EvT K tt σ H b) (h1 : b = true → Ev K ta σ H d) (h2 : b = false → Ev K tb σ H d) : Ev K (tIf tt ta tb) σ H d := fun H1 s Q q =>
  h H1 s _ fun H2 s2 => by
    cases b with
    | true => exact iteT (h1 rfl H2 (s.trans s2) Q fun v H' s3 hv => q v H' (s2.trans s3) hv)
    | false => exact iteF (h2 rfl H2 (s.trans s2) Q fun v H' s3 hv => q v H' (s2.trans s3) hv)
/- tests -/
theorem t_of (h : Ev K te σ H (.im (.bl b))) : EvT K (tTest te) σ H b := fun H1 s Q q => h H1 s _ fun x H2 s2 hx => ⟨b, hx.bv, q H2 s2⟩
theorem t_ofB (h : Ev K te σ H (.im (.bl b))) : EvT K (tB te) σ H b := fun H1 s Q q => h H1 s _ fun x H2 s2 hx => ⟨b, hx.bv, q H2 s2⟩
theorem t_and (h1 : EvT K tt σ H b) (h2 : b = true → EvT K tu σ H c) : EvT K (tAnd tt tu) σ H (b && c) := fun H1 s Q q => h1 H1 s _ fun H2 s2 => by
  cases b with
  | true => exact iteT (h2 rfl H2 (s.trans s2) Q fun H' s3 => q H' (s2.trans s3))
  | false => exact iteF (q H2 s2)
theorem t_or (h1 : EvT K tt σ H b) (h2 : b = false → EvT K tu σ H c) : EvT K (tOr tt tu) σ H (b || c) := fun H1 s Q q => h1 H1 s _ fun H2 s2 => by
  cases b with
  | true => exact iteT (q H2 s2)
  | false => exact iteF (h2 rfl H2 (s.trans s2) Q fun H' s3 => q H' (s2.trans s3))
theorem t_not (h1 : EvT K tt σ H b) : EvT K (tNot tt) σ H (!b) := fun H1 s Q q => h1 H1 s _ fun H2 s2 => q H2 s2
theorem t_eq {b b' : Bool} (h : EvT K tt σ H b) (e : b = b') : EvT K tt σ H b' := e ▸ h
/- arguments, displays -/
theorem a_nil : EvA K tNil σ H [] := fun H1 _ _ q => q [] H1 (Same.refl H1) .nil
theorem a_cons (h : Ev K te σ H d) (r : EvA K args σ H ds) : EvA K (tCons te args) σ H (d :: ds) := fun H1 s Q q =>
  h H1 s _ fun x H2 s2 hx => r H2 (s.trans s2) _ fun xs H3 s3 hxs => q (x :: xs) H3 (s2.trans s3) (.cons (s3.is hx) hxs)
theorem iss_im {vs : List V} : ∀ {vs : List V} {ts : List T}, Iss K H vs (ts.map D.im) → Ims K H vs ts
  | [], [], _ => .nil
  | _, _ :: _, .cons h r => .cons h (iss_im (vs := []) r)
theorem e_tup (h : EvA K args σ H ds) (e : ds = ts.map D.im) (hl : ts.length ≤ 1000) : Ev K (tTup args) σ H (.im (.tup ts)) := fun H1 s Q q =>
  h H1 s _ fun vs H2 s2 hv => by
    subst e
    have hi := iss_im (vs := []) hv
    exact ⟨by rw [hi.length]; exact Nat.le_of_lt (small1000 hl), fun p hp => q _ _ (s2.trans (same_new hp)) (Im.new hp hi)⟩
theorem n_lst (h : EvA K args σ H ds) (e : ds = ts.map D.im) (hl : ts.length ≤ 1000) : EvN K (tLst args) σ H ts := fun H1 s Q q =>
  h H1 s _ fun vs H2 s2 hv => by
    subst e
    have hi := iss_im (vs := []) hv
    exact ⟨by rw [hi.length]; exact Nat.le_of_lt (small1000 hl), fun p hp => q p vs _ (s2.free hp) (s2.trans (same_new hp)) upd_same (hi.mono (keep_new hp))⟩
end
/-! ### promises of pure defs -/
inductive O where
  | ok (d : D)
  | ex (x : Str) (fs : List (Str × T))
/-- how an outcome is handed on -/
def Out (K : PySem.W.Frag) (mg : Str → Option Value) (H : Hp) (Q : VK) (E : XK) : O → Prop
  | .ok d => ∀ v H', Same H H' → Is K H' v d → Q v H'
  | .ex x fs => ∀ C dd vs H', mg x = some (.ref C) → Same H H' → H dd = none → H' dd = some (.xd ((fs.map (·.1)).zip vs)) → Ims K H' vs (fs.map (·.2)) → E (.ref C) (some dd) H'
def spO (K : PySem.W.Frag) (mg : Str → Option Value) (R : List D → O → Prop) : Sp := fun vs H Q E => ∃ ds o, Iss K H vs ds ∧ R ds o ∧ Out K mg H Q E o
section
variable {K : PySem.W.Frag} {mg : Str → Option Value} {σ : L2.St} {H H' : Hp} {te : TE} {tt : TT} {args : TA} {d : D} {ds : List D} {b : Bool}
theorem e_call {R : List D → O → Prop} {E : L2.St → XK} (h : EvA K args σ H ds) (hr : R ds (.ok d)) : Ev K (tCallS (spO K mg R) E args) σ H d := fun H1 s Q q =>
  h H1 s _ fun vs H2 s2 hv => ⟨ds, .ok d, hv, hr, fun v H' s3 hd => q v H' (s2.trans s3) hd⟩
/- statements -/
variable {nx bk ct : L2.St → Hp → Prop} {rt : VK}
theorem s_ret (K : PySem.W.Frag) {d : D} (h : Ev K te σ H d) (q : ∀ v H', Same H H' → Is K H' v d → rt v H') : tRet te ⟨nx, rt, bk, ct⟩ σ H := h H (Same.refl H) _ q
theorem s_retN {ts : List T} (K : PySem.W.Frag) (h : EvN K te σ H ts) (q : ∀ p vs H', H p = none → Same H H' → H' p = some (.lst vs) → Ims K H' vs ts → rt (.ref p) H') : tRet te ⟨nx, rt, bk, ct⟩ σ H := h H (Same.refl H) _ q
theorem s_set (K : PySem.W.Frag) {d : D} {i : Nat} (h : Ev K te σ H d) (q : ∀ v H', Same H H' → Is K H' v d → nx (σ.set i (some v)) H') : tAsg te (gName i) ⟨nx, rt, bk, ct⟩ σ H := h H (Same.refl H) _ q
/-- a whole number is stored -/
theorem s_setI (K : PySem.W.Frag) {n : Int} {i : Nat} (h : Ev K te σ H (.im (.int n))) (q : ∀ H', Same H H' → nx (σ.set i (some (.int n))) H') : tAsg te (gName i) ⟨nx, rt, bk, ct⟩ σ H := h H (Same.refl H) _ fun v H' s hv => by
  rw [hv.iv]
  exact q H' s
theorem s_setS (K : PySem.W.Frag) {n : Str} {i : Nat} (h : Ev K te σ H (.im (.str n))) (q : ∀ H', Same H H' → nx (σ.set i (some (.str n))) H') : tAsg te (gName i) ⟨nx, rt, bk, ct⟩ σ H := h H (Same.refl H) _ fun v H' s hv => by
  rw [hv.sv]
  exact q H' s
theorem s_setB (K : PySem.W.Frag) {n : Bool} {i : Nat} (h : Ev K te σ H (.im (.bl n))) (q : ∀ H', Same H H' → nx (σ.set i (some (.bl n))) H') : tAsg te (gName i) ⟨nx, rt, bk, ct⟩ σ H := h H (Same.refl H) _ fun v H' s hv => by
  rw [hv.bv]
  exact q H' s
theorem s_setN (K : PySem.W.Frag) {ts : List T} {i : Nat} (h : EvN K te σ H ts) (q : ∀ p vs H', H p = none → Same H H' → H' p = some (.lst vs) → Ims K H' vs ts → nx (σ.set i (some (.ref p))) H') : tAsg te (gName i) ⟨nx, rt, bk, ct⟩ σ H := h H (Same.refl H) _ q
theorem s_if (K : PySem.W.Frag) {t u : TS} {b : Bool} (h : EvT K tt σ H b) (h1 : b = true → ∀ H', Same H H' → t ⟨nx, rt, bk, ct⟩ σ H') (h2 : b = false → ∀ H', Same H H' → u ⟨nx, rt, bk, ct⟩ σ H') : tIfS tt t u ⟨nx, rt, bk, ct⟩ σ H := h H (Same.refl H) _ fun H1 s => by
  cases b with
  | true => exact iteT (h1 rfl H1 s)
  | false => exact iteF (h2 rfl H1 s)
theorem s_seq {t u : TS} (h : t ⟨u ⟨nx, rt, bk, ct⟩, rt, bk, ct⟩ σ H) : tSeq t u ⟨nx, rt, bk, ct⟩ σ H := h
theorem s_next (h : nx σ H) : tNext ⟨nx, rt, bk, ct⟩ σ H := h
theorem s_break (h : bk σ H) : tBreak ⟨nx, rt, bk, ct⟩ σ H := h
theorem s_drop (K : PySem.W.Frag) {d : D} (h : Ev K te σ H d) (q : ∀ v H', Same H H' → Is K H' v d → nx σ H') : tDrop te ⟨nx, rt, bk, ct⟩ σ H := h H (Same.refl H) _ q
end
end TW

set_option Elab.async false
set_option linter.all false
set_option maxRecDepth 100000
set_option maxHeartbeats 4000000
namespace TW
open PySem PySem.Spec PyProof.Rows L2
/-! ### the built-in names are not the module's own -/
structure Bt (mg : Str → Option Value) : Prop where
  len : mg "len" = none
  any : mg "any" = none
  tuple : mg "tuple" = none
  list : mg "list" = none
  int : mg "int" = none
  abs : mg "abs" = none
  range : mg "range" = none
  isi : mg "isinstance" = none
  min : mg "min" = none
  max : mg "max" = none
  sorted : mg "sorted" = none
  enum : mg "enumerate" = none
  bool : mg "bool" = none
  str : mg "str" = none
  ve : mg "ValueError" = none
theorem bt_len : bootBuiltins "len" = some (.builtin "len") := by decide +kernel
theorem bt_any : bootBuiltins "any" = some (.builtin "any") := by decide +kernel
theorem bt_abs : bootBuiltins "abs" = some (.builtin "abs") := by decide +kernel
theorem bt_min : bootBuiltins "min" = some (.builtin "min") := by decide +kernel
theorem bt_max : bootBuiltins "max" = some (.builtin "max") := by decide +kernel
theorem bt_sorted : bootBuiltins "sorted" = some (.builtin "sorted") := by decide +kernel
theorem bt_isi : bootBuiltins "isinstance" = some (.builtin "isinstance") := by decide +kernel
theorem bt_tuple : bootBuiltins "tuple" = some (.type "tuple") := by decide +kernel
theorem bt_list : bootBuiltins "list" = some (.type "list") := by decide +kernel
theorem bt_int : bootBuiltins "int" = some (.type "int") := by decide +kernel
theorem bt_range : bootBuiltins "range" = some (.type "range") := by decide +kernel
theorem bt_bool : bootBuiltins "bool" = some (.type "bool") := by decide +kernel
theorem bt_str : bootBuiltins "str" = some (.type "str") := by decide +kernel
theorem bt_ve : bootBuiltins "ValueError" = some (.type "ValueError") := by decide +kernel
theorem bt_enum : bootBuiltins "enumerate" = some (.type "enumerate") := by decide +kernel
/-! ### calls of one or two arguments -/
def tB1 (r : V → Hp → VK → Prop) (te : TE) : TE := fun σ H Q => te σ H fun x H1 => r x H1 Q
def rLenQ (K : PySem.W.Frag) : V → Hp → VK → Prop := fun x H Q => ∃ p ys, x = .ref p ∧ (SqL K H p ys ∨ SqT K H p ys) ∧ Q (.int ys.length) H
def rListQ (K : PySem.W.Frag) : V → Hp → VK → Prop := fun x H Q => ∃ p ys, x = .ref p ∧ (SqL K H p ys ∨ SqT K H p ys) ∧ ∀ l, H l = none → Q (.ref l) (upd H l (.lst ys))
def rTupQ (K : PySem.W.Frag) : V → Hp → VK → Prop := fun x H Q => ∃ p ys, x = .ref p ∧ ((SqL K H p ys ∧ ∀ l, H l = none → Q (.ref l) (upd H l (.tup ys))) ∨ (SqT K H p ys ∧ Q (.ref p) H))
def rAbsQ : V → Hp → VK → Prop := fun x H Q => ∃ i, x = .int i ∧ Q (.int (if i < 0 then -i else i)) H
def rIntQ : V → Hp → VK → Prop := fun x H Q => ∃ i, x = .int i ∧ Q (.int i) H
def rAnyQ (K : PySem.W.Frag) : V → Hp → VK → Prop := fun x H Q => ∃ (a : Addr) (bs : List Bool), x = V.ref a ∧ SqL K H a (bs.map V.bl) ∧ Q (.bl (bs.any id)) H
section
variable {X : Cx} {e e2 : Expr} {te te2 : TE} {p pos : Pos}
theorem CallR.of1 {f : Value} {r : List V → Hp → VK → Prop} {r1 : V → Hp → VK → Prop} (h : CallR X f r) (i : ∀ x H Q, r1 x H Q → r [x] H Q) : CallR X f (fun vs H Q => ∃ x, vs = [x] ∧ r1 x H Q) := by
  intro pins s σ H xs us Q I rv q
  obtain ⟨x, rfl, q⟩ := q
  exact h pins s σ H [x] us Q I rv (i x H Q q)
theorem pe_b1 {x id : Str} {id' : String} {r1 : V → Hp → VK → Prop} (hc : CallR X (.builtin id') (fun vs H Q => ∃ x, vs = [x] ∧ r1 x H Q)) (hm : X.mg x = none) (hv : bootBuiltins x = some (.builtin id')) (he : PE X e te) (hg : Gl X x) (hn : x ≠ "__name__") (hdb : (x == ("__debug__" : Str)) = false)
    (hst : starEach (e :: []) X.env = (false, eval e X.env) :: starEach [] X.env := by rfl) (hpl : (backTo pos (starEach [] X.env)).any (·.1) = false := by rfl) : PE X (.Call (.Name x p) [e] [] pos) (tB1 r1 te) := by
  have h := pe_callB (p := p) (pos := pos) hc hg hm hv (pa_cons he pa_nil hst) hn hdb hst hpl
  refine ⟨fun pins s σ H Q I q => h.run pins s σ H Q I ?_⟩
  exact (show te σ H (fun x H1 => ∃ y, [x] = [y] ∧ r1 y H1 Q) from (by
    have q' : te σ H fun x H1 => r1 x H1 Q := q
    have e : (fun x H1 => r1 x H1 Q) = (fun x H1 => ∃ y, [x] = [y] ∧ r1 y H1 Q) := by
      funext x H1
      apply propext
      constructor
      · intro z
        exact ⟨x, rfl, z⟩
      · rintro ⟨y, ey, z⟩
        have : x = y := by injection ey
        rw [this]
        exact z
    rw [← e]
    exact q'))
theorem pe_t1 {x : Str} {T : String} {r1 : V → Hp → VK → Prop} (hc : CallR X (.type T) (fun vs H Q => ∃ x, vs = [x] ∧ r1 x H Q)) (hm : X.mg x = none) (hv : bootBuiltins x = some (.type T)) (he : PE X e te) (hg : Gl X x) (hn : x ≠ "__name__") (hdb : (x == ("__debug__" : Str)) = false)
    (hst : starEach (e :: []) X.env = (false, eval e X.env) :: starEach [] X.env := by rfl) (hpl : (backTo pos (starEach [] X.env)).any (·.1) = false := by rfl) : PE X (.Call (.Name x p) [e] [] pos) (tB1 r1 te) := by
  have h := pe_callTy (p := p) (pos := pos) hc hg hm hv (pa_cons he pa_nil hst) hn hdb hst hpl
  refine ⟨fun pins s σ H Q I q => h.run pins s σ H Q I ?_⟩
  exact (show te σ H (fun x H1 => ∃ y, [x] = [y] ∧ r1 y H1 Q) from (by
    have q' : te σ H fun x H1 => r1 x H1 Q := q
    have e : (fun x H1 => r1 x H1 Q) = (fun x H1 => ∃ y, [x] = [y] ∧ r1 y H1 Q) := by
      funext x H1
      apply propext
      constructor
      · intro z
        exact ⟨x, rfl, z⟩
      · rintro ⟨y, ey, z⟩
        have : x = y := by injection ey
        rw [this]
        exact z
    rw [← e]
    exact q'))
theorem pe_len (B : Bt X.mg) (he : PE X e te) (hg : Gl X "len" := by rfl) (hst : starEach (e :: []) X.env = (false, eval e X.env) :: starEach [] X.env := by rfl) (hpl : (backTo pos (starEach [] X.env)).any (·.1) = false := by rfl) : PE X (.Call (.Name "len" p) [e] [] pos) (tB1 (rLenQ X.K) te) :=
  pe_b1 (id := "len") (CallR.of1 call_len_seq fun x H Q ⟨p, ys, e, h, q⟩ => ⟨p, ys, by rw [e], h, q⟩) B.len bt_len he hg (by decide) (by decide) hst hpl
theorem pe_any (B : Bt X.mg) (hc : X.calm = true) (he : PE X e te) (hg : Gl X "any" := by rfl) (hst : starEach (e :: []) X.env = (false, eval e X.env) :: starEach [] X.env := by rfl) (hpl : (backTo pos (starEach [] X.env)).any (·.1) = false := by rfl) : PE X (.Call (.Name "any" p) [e] [] pos) (tB1 (rAnyQ X.K) te) :=
  pe_b1 (id := "any") (CallR.of1 (cr_any hc) fun x H Q ⟨p, ys, e, h, q⟩ => ⟨p, ys, by rw [e], h, q⟩) B.any bt_any he hg (by decide) (by decide) hst hpl
theorem pe_abs (B : Bt X.mg) (he : PE X e te) (hg : Gl X "abs" := by rfl) (hst : starEach (e :: []) X.env = (false, eval e X.env) :: starEach [] X.env := by rfl) (hpl : (backTo pos (starEach [] X.env)).any (·.1) = false := by rfl) : PE X (.Call (.Name "abs" p) [e] [] pos) (tB1 rAbsQ te) :=
  pe_b1 (id := "abs") (CallR.of1 call_abs fun x H Q ⟨i, e, q⟩ => ⟨i, by rw [e], q⟩) B.abs bt_abs he hg (by decide) (by decide) hst hpl
theorem pe_list (B : Bt X.mg) (he : PE X e te) (hg : Gl X "list" := by rfl) (hst : starEach (e :: []) X.env = (false, eval e X.env) :: starEach [] X.env := by rfl) (hpl : (backTo pos (starEach [] X.env)).any (·.1) = false := by rfl) : PE X (.Call (.Name "list" p) [e] [] pos) (tB1 (rListQ X.K) te) :=
  pe_t1 (CallR.of1 call_list_of fun x H Q ⟨p, ys, e, h, q⟩ => ⟨p, ys, by rw [e], h, q⟩) B.list bt_list he hg (by decide) (by decide) hst hpl
theorem pe_tuple (B : Bt X.mg) (he : PE X e te) (hg : Gl X "tuple" := by rfl) (hst : starEach (e :: []) X.env = (false, eval e X.env) :: starEach [] X.env := by rfl) (hpl : (backTo pos (starEach [] X.env)).any (·.1) = false := by rfl) : PE X (.Call (.Name "tuple" p) [e] [] pos) (tB1 (rTupQ X.K) te) :=
  pe_t1 (CallR.of1 call_tuple_of fun x H Q ⟨p, ys, e, h⟩ => ⟨p, ys, by rw [e], h⟩) B.tuple bt_tuple he hg (by decide) (by decide) hst hpl
theorem pe_intc (B : Bt X.mg) (he : PE X e te) (hg : Gl X "int" := by rfl) (hst : starEach (e :: []) X.env = (false, eval e X.env) :: starEach [] X.env := by rfl) (hpl : (backTo pos (starEach [] X.env)).any (·.1) = false := by rfl) : PE X (.Call (.Name "int" p) [e] [] pos) (tB1 rIntQ te) :=
  pe_t1 (CallR.of1 call_int1 fun x H Q ⟨i, e, q⟩ => .inl ⟨i, by rw [e], q⟩) B.int bt_int he hg (by decide) (by decide) hst hpl
/-- min(a, b), max(a, b) of whole numbers -/
def rMin2 : List V → Hp → VK → Prop := fun xs H Q => ∃ i j, xs = [.int i, .int j] ∧ Q (.int (if j < i then j else i)) H
def rMax2 : List V → Hp → VK → Prop := fun xs H Q => ∃ i j, xs = [.int i, .int j] ∧ Q (.int (if j > i then j else i)) H
theorem pe_min2 (B : Bt X.mg) (hc : X.calm = true) (ha : PE X e te) (hb : PE X e2 te2) (hg : Gl X "min" := by rfl) (hst : starEach (e :: [e2]) X.env = (false, eval e X.env) :: starEach [e2] X.env := by rfl) (hst2 : starEach (e2 :: []) X.env = (false, eval e2 X.env) :: starEach [] X.env := by rfl)
    (hpl : (backTo pos (starEach [e2] X.env)).any (·.1) = false := by rfl) : PE X (.Call (.Name "min" p) [e, e2] [] pos) (tCB rMin2 (tCons te (tCons te2 tNil))) :=
  pe_callB (call_min2 hc) hg B.min bt_min (pa_cons ha (pa_cons hb pa_nil hst2) hst) (by decide) (by decide) hst hpl
theorem pe_max2 (B : Bt X.mg) (hc : X.calm = true) (ha : PE X e te) (hb : PE X e2 te2) (hg : Gl X "max" := by rfl) (hst : starEach (e :: [e2]) X.env = (false, eval e X.env) :: starEach [e2] X.env := by rfl) (hst2 : starEach (e2 :: []) X.env = (false, eval e2 X.env) :: starEach [] X.env := by rfl)
    (hpl : (backTo pos (starEach [e2] X.env)).any (·.1) = false := by rfl) : PE X (.Call (.Name "max" p) [e, e2] [] pos) (tCB rMax2 (tCons te (tCons te2 tNil))) :=
  pe_callB (call_max2 hc) hg B.max bt_max (pa_cons ha (pa_cons hb pa_nil hst2) hst) (by decide) (by decide) hst hpl
/-! ### a list or a tuple is walked -/
def iSeq (K : PySem.W.Frag) (tl : TE) : TI := fun σ H R => tl σ H fun x H1 => ∃ a, x = .ref a ∧ (((∃ xs, SqL K H1 a xs) ∧ R (Itl K a) H1) ∨ ((∃ xs, SqT K H1 a xs) ∧ R (Itt K a) H1))
theorem pi_seq {tg l : Expr} {tl : TE} (hl : PE X l tl) : PI X tg l (iSeq X.K tl) := by
  refine ⟨fun pins s σ H R I h => ?_⟩
  refine thn (hl.run pins s σ H _ I h) fun v s1 ⟨x, H1, I1, r1, q1⟩ => ?_
  obtain ⟨a, e, q⟩ := q1
  subst e
  cases r1
  rcases q with ⟨⟨xs, hq⟩, q⟩ | ⟨⟨xs, hq⟩, q⟩
  · obtain ⟨its, rv, p, hz⟩ := I1.list hq
    refine wpAny_pyIter_list p.isList ?_
    refine ⟨s1.heap.objs.size, [s1.heap.objs.size], _, _, H1, rfl, I1.kept (t' := s1.toks) fun b o e => Heap.get?_push_of_some _ e, turn_list a _, ⟨_, Heap.get?_push_size _ rfl, rfl, rfl⟩, fun b hb => ?_, q⟩
    have e : b = s1.heap.objs.size := by simpa using hb
    subst e
    exact I1.fpOk (Nat.le_refl _) (I1.hok.fresh (Nat.le_refl _))
  · obtain ⟨its, rv, p, hz⟩ := I1.tuple hq
    refine wpAny_pyIter_tuple (show s1.heap.IsTuple a its.toArray from p) ?_
    refine ⟨s1.heap.objs.size, [s1.heap.objs.size], _, _, H1, rfl, I1.kept (t' := s1.toks) fun b o e => Heap.get?_push_of_some _ e, turn_tuple a _, ⟨_, Heap.get?_push_size _ rfl, rfl, rfl⟩, fun b hb => ?_, q⟩
    have e : b = s1.heap.objs.size := by simpa using hb
    subst e
    exact I1.fpOk (Nat.le_refl _) (I1.hok.fresh (Nat.le_refl _))
end
/-! ### their values -/
section
variable {K : PySem.W.Frag} {σ : L2.St} {H H' : Hp} {te ta tb tc : TE} {tt tu : TT} {args : TA} {d : D} {ds : List D} {ts : List T} {t u : T} {i j : Int} {b c : Bool} {v : V}
theorem e_len (h : Ev K te σ H (.sq ts)) : Ev K (tB1 (rLenQ K) te) σ H (.im (.int (ts.length : Nat))) := fun H1 s Q q => h H1 s _ fun x H2 s2 hx => by
  obtain ⟨a, vs, e, hq, hi⟩ := hx
  refine ⟨a, vs, e, hq, ?_⟩
  rw [hi.length]
  exact q _ _ s2 (Im.int _)
/-- a name that holds a list or a tuple -/
theorem e_sqv {i : Nat} (h : σ[i]? = some (some v)) (hv : Is K H v (.sq ts)) : Ev K (tVar i) σ H (.sq ts) := e_var h hv
/-- len of any list or tuple -/
theorem e_lenV {i : Nat} {p : Addr} {xs : List V} (hσ : σ[i]? = some (some (.ref p))) (hq : SqL K H p xs ∨ SqT K H p xs) : Ev K (tB1 (rLenQ K) (tVar i)) σ H (.im (.int (xs.length : Nat))) := fun H1 s Q q =>
  ⟨_, hσ, p, xs, rfl, hq.imp (L2.Same.sqL s) (L2.Same.sqT s), q _ _ (Same.refl _) (Im.int _)⟩
theorem n_list (h : Ev K te σ H (.sq ts)) : EvN K (tB1 (rListQ K) te) σ H ts := fun H1 s Q q => h H1 s _ fun x H2 s2 hx => by
  obtain ⟨a, vs, e, hq, hi⟩ := hx
  exact ⟨a, vs, e, hq, fun l hl => q l vs _ (s2.free hl) (s2.trans (same_new hl)) upd_same (hi.mono (keep_new hl))⟩
theorem e_tuple (h : Ev K te σ H (.sq ts)) : Ev K (tB1 (rTupQ K) te) σ H (.im (.tup ts)) := fun H1 s Q q => h H1 s _ fun x H2 s2 hx => by
  obtain ⟨a, vs, e, hq, hi⟩ := hx
  rcases hq with hq | hq
  · exact ⟨a, vs, e, .inl ⟨hq, fun l hl => q _ _ (s2.trans (same_new hl)) (Im.new hl hi)⟩⟩
  · exact ⟨a, vs, e, .inr ⟨hq, q _ _ s2 (Im.tup hq hi)⟩⟩
theorem e_abs (h : Ev K te σ H (.im (.int i))) : Ev K (tB1 rAbsQ te) σ H (.im (.int (if i < 0 then -i else i))) := fun H1 s Q q => h H1 s _ fun x H2 s2 hx => ⟨i, hx.iv, q _ _ s2 (Im.int _)⟩
theorem e_intc (h : Ev K te σ H (.im (.int i))) : Ev K (tB1 rIntQ te) σ H (.im (.int i)) := fun H1 s Q q => h H1 s _ fun x H2 s2 hx => ⟨i, hx.iv, q _ _ s2 (Im.int _)⟩
theorem e_pow (ha : Ev K ta σ H (.im (.int i))) (hb : Ev K tb σ H (.im (.int j))) (hc : CPow i j) : Ev K (tOp (rI CPow fun i j => .int (i ^ j.toNat)) ta tb) σ H (.im (.int (i ^ j.toNat))) := e_I ha hb hc fun _ => Im.int _
theorem e_min2 (ha : Ev K ta σ H (.im (.int i))) (hb : Ev K tb σ H (.im (.int j))) : Ev K (tCB rMin2 (tCons ta (tCons tb tNil))) σ H (.im (.int (if j < i then j else i))) := fun H1 s Q q =>
  ha H1 s _ fun x H2 s2 hx => hb H2 (s.trans s2) _ fun y H3 s3 hy => ⟨i, j, by rw [hx.iv, hy.iv], q _ _ (s2.trans s3) (Im.int _)⟩
theorem e_max2 (ha : Ev K ta σ H (.im (.int i))) (hb : Ev K tb σ H (.im (.int j))) : Ev K (tCB rMax2 (tCons ta (tCons tb tNil))) σ H (.im (.int (if j > i then j else i))) := fun H1 s Q q =>
  ha H1 s _ fun x H2 s2 hx => hb H2 (s.trans s2) _ fun y H3 s3 hy => ⟨i, j, by rw [hx.iv, hy.iv], q _ _ (s2.trans s3) (Im.int _)⟩
/-- xs.append(e) -/
theorem s_app (K : PySem.W.Frag) {p : Addr} {vs : List V} {k : Nat} {nx bk ct : L2.St → Hp → Prop} {rt : VK} (hσ : σ[k]? = some (some (.ref p))) (hp : H p = some (.lst vs)) (hl : vs.length ≤ 100000) (h : Ev K te σ H d)
    (q : ∀ v H', Same H H' → Is K H' v d → nx σ (upd H' p (.lst (vs ++ [v])))) : tDrop (tBM K "list" rAppend (tVar k) (tCons te tNil)) ⟨nx, rt, bk, ct⟩ σ H :=
  ⟨_, hσ, .inl ⟨rfl, _, .inl (.inl hp)⟩, h H (Same.refl H) _ fun v H1 s hv => ⟨p, vs, v, rfl, rfl, s _ _ hp, Nat.lt_of_le_of_lt hl (by decide), q v H1 s hv⟩⟩
/-- x = list(y) of any items; x = [] -/
theorem s_listV (K : PySem.W.Frag) {p : Addr} {xs : List V} {k j : Nat} {nx bk ct : L2.St → Hp → Prop} {rt : VK} (hσ : σ[k]? = some (some (.ref p))) (hq : SqL K H p xs ∨ SqT K H p xs)
    (q : ∀ l H', H l = none → Same H H' → H' l = some (.lst xs) → nx (σ.set j (some (.ref l))) H') : tAsg (tB1 (rListQ K) (tVar k)) (gName j) ⟨nx, rt, bk, ct⟩ σ H :=
  ⟨_, hσ, p, xs, rfl, hq, fun l hl => q l _ hl (same_new hl) upd_same⟩
theorem s_nil {j : Nat} {nx bk ct : L2.St → Hp → Prop} {rt : VK} (q : ∀ l H', H l = none → Same H H' → H' l = some (.lst []) → nx (σ.set j (some (.ref l))) H') : tAsg (tLst tNil) (gName j) ⟨nx, rt, bk, ct⟩ σ H :=
  ⟨Nat.zero_le _, fun l hl => q l _ hl (same_new hl) upd_same⟩
theorem atI_of {α : Type} {xs : List α} {i : Int} {x : α} (h0 : 0 ≤ i) (h : xs[i.toNat]? = some x) : atI xs i = some x := by
  have e : ((i.toNat : Nat) : Int) = i := Int.toNat_of_nonneg h0
  have := atI_nat h
  rw [e] at this
  exact this
theorem atI_ims {vs : List V} {ts : List T} {i : Int} {t : T} (h : Ims K H vs ts) (e : atI ts i = some t) : ∃ v, atI vs i = some v ∧ Im K H v t := by
  unfold atI at e ⊢
  rw [h.length]
  cases q : ixN ts.length i with
  | none => rw [q] at e; cases e
  | some j =>
    rw [q] at e
    exact h.get' e
theorem e_ix (ha : Ev K ta σ H (.sq ts)) (hb : Ev K tb σ H (.im (.int i))) (e : atI ts i = some t) : Ev K (tOp (rIx K) ta tb) σ H (.im t) :=
  e_op ha hb fun x y H1 hx hy Q q => by
    obtain ⟨a, vs, e1, hq, hi⟩ := hx
    obtain ⟨v, e2, hv⟩ := atI_ims hi e
    rcases hq with hq | hq
    · exact .inl ⟨a, vs, i, v, e1, hy.iv, hq, e2, q _ _ (Same.refl _) hv⟩
    · exact .inr (.inl ⟨a, vs, i, v, e1, hy.iv, hq, e2, q _ _ (Same.refl _) hv⟩)
theorem e_ixS {x : Str} {c : Nat} (ha : Ev K ta σ H (.im (.str x))) (hb : Ev K tb σ H (.im (.int i))) (hl : x.length ≤ 1000) (e : atI x.cps.toList i = some c) : Ev K (tOp (rIx K) ta tb) σ H (.im (.str ⟨#[c]⟩)) :=
  e_op ha hb fun x' y H1 hx hy Q q => .inr (.inr ⟨x, i, c, hx.sv, hy.iv, Nat.le_of_lt (small1000 hl), e, q _ _ (Same.refl _) (Im.str _)⟩)
end
/-! ### == of trees -/
mutual
def T.okd : T → Nat → Bool
  | .tup ts, n + 1 => T.okds ts n
  | .tup _, 0 => false
  | .str x, _ => PyData.strOk x
  | _, _ => true
def T.okds : List T → Nat → Bool
  | [], _ => true
  | t :: r, n => T.okd t n && T.okds r n
end
mutual
theorem T.lay_of : ∀ (t : T) (n : Nat), t.okd n = true → t.d.canLay0 = true ∧ t.d.depth ≤ n
  | .non, n, _ => ⟨by simp [T.d, PyData.canLay0], by simp [T.d, PyData.depth]⟩
  | .bl _, n, _ => ⟨by simp [T.d, PyData.canLay0], by simp [T.d, PyData.depth]⟩
  | .int _, n, _ => ⟨by simp [T.d, PyData.canLay0], by simp [T.d, PyData.depth]⟩
  | .str x, n, h => ⟨by simpa [T.d, PyData.canLay0, T.okd] using h, by simp [T.d, PyData.depth]⟩
  | .tup ts, n + 1, h => by
    have := T.lays_of ts n (by simpa [T.okd] using h)
    exact ⟨by simpa [T.d, PyData.canLay0] using this.1, by simpa [T.d, PyData.depth] using this.2⟩
  | .tup ts, 0, h => by simp [T.okd] at h
theorem T.lays_of : ∀ (ts : List T) (n : Nat), T.okds ts n = true → PyData.canLayAll0 (T.ds ts) = true ∧ PyData.depthAll (T.ds ts) ≤ n
  | [], n, _ => ⟨by simp [T.ds, PyData.canLayAll0], by simp [T.ds, PyData.depthAll]⟩
  | t :: r, n, h => by
    have h1 : t.okd n = true ∧ T.okds r n = true := by simpa [T.okds] using h
    have a := T.lay_of t n h1.1
    have b := T.lays_of r n h1.2
    exact ⟨by simp [T.ds, PyData.canLayAll0, a.1, b.1], by simp [T.ds, PyData.depthAll]; omega⟩
end
theorem T.shaped_of {t : T} (h : t.okd 5 = true) : SeqAt.shaped t.d = true := by
  have := T.lay_of t 5 h
  unfold SeqAt.shaped
  rw [this.1, Bool.true_and]
  exact decide_eq_true (by omega)
/-- == as the machine tells it -/
def T.beq (t u : T) : Bool := PyData.eqv t.d u.d
theorem T.beq_iff {t u : T} (ht : t.pure = true) (hu : u.pure = true) : T.beq t u = true ↔ t = u := T.eqv_iff t u ht hu
section
variable {K : PySem.W.Frag} {σ : L2.St} {H H' : Hp} {te ta tb tc : TE} {d : D} {ts : List T} {t u : T} {i j : Int} {b c : Bool} {v : V}
theorem e_eq (ha : Ev K ta σ H (.im t)) (hb : Ev K tb σ H (.im u)) (h1 : t.okd 5 = true) (h2 : u.okd 5 = true) : Ev K (tOp (rEqD K) ta tb) σ H (.im (.bl (T.beq t u))) :=
  e_op ha hb fun x y H1 hx hy Q q => ⟨t.d, u.d, Im.dp hx, Im.dp hy, T.shaped_of h1, T.shaped_of h2, q _ _ (Same.refl _) (Im.bl _)⟩
theorem e_ne (ha : Ev K ta σ H (.im t)) (hb : Ev K tb σ H (.im u)) (h1 : t.okd 5 = true) (h2 : u.okd 5 = true) : Ev K (tOp (rNeD K) ta tb) σ H (.im (.bl (!T.beq t u))) :=
  e_op ha hb fun x y H1 hx hy Q q => ⟨t.d, u.d, Im.dp hx, Im.dp hy, T.shaped_of h1, T.shaped_of h2, q _ _ (Same.refl _) (Im.bl _)⟩
/-- a text in a row of texts -/
theorem ims_strs : ∀ {vs : List V} {xs : List Str}, Ims K H vs (xs.map T.str) → vs = xs.map V.str
  | [], [], _ => rfl
  | _, x :: xs, h => by
    obtain ⟨v, ws, rfl, h1, h2⟩ := h.cons_inv
    rw [h1.str_inv, ims_strs h2] <;> rfl
theorem ims_ints : ∀ {vs : List V} {xs : List Int}, Ims K H vs (xs.map T.int) → vs = xs.map V.int
  | [], [], _ => rfl
  | _, x :: xs, h => by
    obtain ⟨v, ws, rfl, h1, h2⟩ := h.cons_inv
    rw [h1.int_inv, ims_ints h2] <;> rfl
theorem inV_strs (x : Str) : ∀ xs : List Str, inV (.str x) (xs.map V.str) = decide (x ∈ xs)
  | [] => by simp [inV]
  | y :: r => by
    have ih := inV_strs x r
    unfold inV at ih ⊢
    rw [List.map_cons, List.any_cons, ih]
    have e : eqV (.str y) (.str x) = decide (x = y) := by
      show (y == x) = decide (x = y)
      rw [Bool.eq_iff_iff]
      simp
      exact eq_comm
    rw [e]
    simp only [List.mem_cons, Bool.decide_or]
theorem strs_flat : ∀ xs : List Str, (xs.map V.str).all flatV = true
  | [] => rfl
  | _ :: r => by
    rw [List.map_cons, List.all_cons, strs_flat r]
    rfl
theorem e_inS {neg : Bool} {x : Str} {xs : List Str} (ha : Ev K ta σ H (.im (.str x))) (hb : Ev K tb σ H (.sq (xs.map T.str))) : Ev K (tOp (rIn K neg) ta tb) σ H (.im (.bl (if neg then !decide (x ∈ xs) else decide (x ∈ xs)))) :=
  e_op ha hb fun x' y H1 hx hy Q q => by
    obtain ⟨a, vs, e, hq, hi⟩ := hy
    have ev := ims_strs hi
    subst ev
    refine ⟨a, _, e, hq, ?_, strs_flat xs, ?_⟩
    · rw [hx.sv] <;> rfl
    · rw [hx.sv, inV_strs]
      exact q _ _ (Same.refl _) (Im.bl _)
end
end TW

set_option Elab.async false
set_option linter.all false
set_option maxRecDepth 100000
set_option maxHeartbeats 4000000
namespace TW
open PySem PySem.Spec PyProof.Rows L2
/-! ### what stays of sequences -/
def Stay (K : PySem.W.Frag) (H H' : Hp) : Prop := (∀ a xs, SqL K H a xs → SqL K H' a xs) ∧ Keep H H'
theorem Stay.refl (K : PySem.W.Frag) (H : Hp) : Stay K H H := ⟨fun _ _ h => h, Keep.refl H⟩
theorem _root_.L2.Same.stay {K : PySem.W.Frag} {H H' : Hp} (s : Same H H') : Stay K H H' := ⟨fun _ _ h => L2.Same.sqL s h, s.keep⟩
/-- all but a stays -/
def Sm (a : Addr) (H H' : Hp) : Prop := ∀ b o, b ≠ a → H b = some o → H' b = some o
theorem Sm.refl (a : Addr) (H : Hp) : Sm a H H := fun _ _ _ h => h
theorem Sm.trans {a : Addr} {H H1 H2 : Hp} (x : Sm a H H1) (y : Sm a H1 H2) : Sm a H H2 := fun b o n h => y b o n (x b o n h)
theorem _root_.L2.Same.sm {a : Addr} {H H' : Hp} (s : Same H H') : Sm a H H' := fun b o _ h => s b o h
theorem Sm.upd {a : Addr} {H H' : Hp} {o : HO} (x : Sm a H H') : Sm a H (upd H' a o) := fun b u n h => by
  rw [upd_ne n]
  exact x b u n h
theorem sm_upd {a : Addr} {H : Hp} {o : HO} : Sm a H (upd H a o) := fun b u n h => by
  rw [upd_ne n]
  exact h
/-- a holds a dict of text keys -/
theorem Sm.keep {a : Addr} {H H' : Hp} {kvs : List (Key × V)} (x : Sm a H H') (h : H a = some (.dK kvs)) : Keep H H' := fun b xs r => by
  rcases r with r | ⟨o, r⟩
  · exact .inl (x b _ (ne_of r h (by intro z; cases z)) r)
  · exact .inr ⟨o, x b _ (ne_of r h (by intro z; cases z)) r⟩
theorem Sm.sqL {K : PySem.W.Frag} {a : Addr} {H H' : Hp} {kvs : List (Key × V)} (x : Sm a H H') (h : H a = some (.dK kvs)) {b : Addr} {xs : List V} (r : SqL K H b xs) : SqL K H' b xs := by
  rcases r with (r | ⟨o, r⟩) | r
  · exact .inl (.inl (x b _ (ne_of r h (by intro z; cases z)) r))
  · exact .inl (.inr ⟨o, x b _ (ne_of r h (by intro z; cases z)) r⟩)
  · exact .inr r
theorem Sm.stay {K : PySem.W.Frag} {a : Addr} {H H' : Hp} {kvs : List (Key × V)} (x : Sm a H H') (h : H a = some (.dK kvs)) : Stay K H H' := ⟨fun _ _ r => x.sqL h r, x.keep h⟩
theorem Sm.is {K : PySem.W.Frag} {a : Addr} {H H' : Hp} {kvs : List (Key × V)} (x : Sm a H H') (h : H a = some (.dK kvs)) : ∀ {d : D} {v : V}, Is K H v d → Is K H' v d
  | .im _, _, i => Im.mono (x.keep h) i
  | .ls _, _, ⟨b, vs, e, q, i⟩ => ⟨b, vs, e, x.sqL h q, i.mono (x.keep h)⟩
  | .sq _, _, ⟨b, vs, e, q, i⟩ => ⟨b, vs, e, q.imp (x.sqL h) (x.keep h).sq, i.mono (x.keep h)⟩
  | .fl _ _ _ _ _, _, ⟨b, e, ⟨dx, r, c, ho, h1, h2⟩⟩ => ⟨b, e, ⟨dx, r, c, x b _ (ne_of ho h (by intro z; cases z)) ho, h1.mono (x.keep h), h2.mono (x.keep h)⟩⟩
/-- a list that was not there: what is known of the others stays -/
theorem stay_lst {K : PySem.W.Frag} {H H' : Hp} {p : Addr} {o : HO} (s : Stay K H H') (h : H p = none) {xs : List V} (hp : H' p = some (.lst xs)) (hw : K.lookup p = none) : Stay K H (upd H' p o) := by
  refine ⟨fun a ys r => ?_, s.2.trans (keep_lst hp)⟩
  rcases r with (r | ⟨u, r⟩) | r
  · have r2 := s.1 a ys (.inl (.inl r))
    rcases r2 with (r2 | ⟨u2, r2⟩) | r2
    · exact .inl (.inl (by rw [upd_ne (ne_of_none r h)]; exact r2))
    · exact .inl (.inr ⟨u2, by rw [upd_ne (ne_of_none r h)]; exact r2⟩)
    · exact .inr r2
  · have r2 := s.1 a ys (.inl (.inr ⟨u, r⟩))
    rcases r2 with (r2 | ⟨u2, r2⟩) | r2
    · exact .inl (.inl (by rw [upd_ne (ne_of_none r h)]; exact r2))
    · exact .inl (.inr ⟨u2, by rw [upd_ne (ne_of_none r h)]; exact r2⟩)
    · exact .inr r2
  · exact .inr r
theorem lt_line {n : Nat} (h : n ≤ 100000) : n < sizeLine := Nat.lt_of_le_of_lt h (by decide)
section
variable {K : PySem.W.Frag} {σ : L2.St} {H H0 H1 : Hp} {te tl : TE} {tt : TT} {args : TA} {ts : List T} {v : V} {g : TG} {tb : TS} {nx bk ct : L2.St → Hp → Prop} {rt : VK}
/-- for over a list or a tuple of trees -/
theorem for_at (hv : Is K H0 v (.sq ts)) (s0 : Stay K H0 H1) (Pv : Nat → L2.St → Hp → Prop) (h0 : Pv 0 σ H1) (hl : ∀ i σ' H', i ≤ ts.length → Pv i σ' H' → Stay K H0 H')
    (hs : ∀ i x t σ' H', ts[i]? = some t → Is K H' x (.im t) → Pv i σ' H' → g x σ' H' fun σ2 H2 => tb ⟨Pv (i + 1), rt, nx, Pv (i + 1)⟩ σ2 H2) (hd : ∀ σ' H', Pv ts.length σ' H' → nx σ' H') :
    ∃ a, v = .ref a ∧ (((∃ xs, SqL K H1 a xs) ∧ ∃ W : Nat → Nat → L2.St → Hp → Prop, (∃ m, W 0 m σ H1) ∧ ∀ i m σ H, W i m σ H →
      ((Itl K a).stop i H ∧ nx σ H) ∨ ((Itl K a).go i H ∧ ∃ N : L2.St → Hp → Prop, (∀ σ' H', N σ' H' → ∃ m', m' < m ∧ W (i + 1) m' σ' H') ∧ ∀ x H', (Itl K a).yld i H x H' → g x σ H' fun σ2 H2 => tb ⟨N, rt, nx, N⟩ σ2 H2)) ∨
      ((∃ xs, SqT K H1 a xs) ∧ ∃ W : Nat → Nat → L2.St → Hp → Prop, (∃ m, W 0 m σ H1) ∧ ∀ i m σ H, W i m σ H →
      ((Itt K a).stop i H ∧ nx σ H) ∨ ((Itt K a).go i H ∧ ∃ N : L2.St → Hp → Prop, (∀ σ' H', N σ' H' → ∃ m', m' < m ∧ W (i + 1) m' σ' H') ∧ ∀ x H', (Itt K a).yld i H x H' → g x σ H' fun σ2 H2 => tb ⟨N, rt, nx, N⟩ σ2 H2))) := by
  obtain ⟨a, vs, e, hq, hi⟩ := hv
  refine ⟨a, e, ?_⟩
  have len := hi.length
  rcases hq with hq | hq
  · refine .inl ⟨⟨vs, s0.1 _ _ hq⟩, for_list (D := ⟨nx, rt, fun _ _ => False, fun _ _ => False⟩) (xs := vs) Pv h0 (fun i σ' H' hi' p => (hl i σ' H' (by omega) p).1 _ _ hq) (fun i x σ' H' hx p => ?_) (by rw [len]; exact hd)⟩
    have lt : i < vs.length := (List.getElem?_eq_some_iff.mp hx).1
    obtain ⟨t, ht, hxt⟩ := (hi.mono (hl i σ' H' (by omega) p).2).get hx
    exact hs i x t σ' H' ht hxt p
  · refine .inr ⟨⟨vs, s0.2.sq hq⟩, for_tup (D := ⟨nx, rt, fun _ _ => False, fun _ _ => False⟩) (xs := vs) Pv h0 (fun i σ' H' hi' p => (hl i σ' H' (by omega) p).2.sq hq) (fun i x σ' H' hx p => ?_) (by rw [len]; exact hd)⟩
    have lt : i < vs.length := (List.getElem?_eq_some_iff.mp hx).1
    obtain ⟨t, ht, hxt⟩ := (hi.mono (hl i σ' H' (by omega) p).2).get hx
    exact hs i x t σ' H' ht hxt p
/-- the loop's name -/
theorem s_gn {i : Nat} {x : V} {te : TE} {g : TG} {D : Ends} (h : tAsg te g D (σ.set i (some x)) H) : gName i x σ H fun σ2 H2 => tAsg te g D σ2 H2 := h
theorem s_gq {i : Nat} {x : V} {t u : TS} {D : Ends} (h : tSeq t u D (σ.set i (some x)) H) : gName i x σ H fun σ2 H2 => tSeq t u D σ2 H2 := h
theorem s_gi {i : Nat} {x : V} {tt : TT} {t u : TS} {D : Ends} (h : tIfS tt t u D (σ.set i (some x)) H) : gName i x σ H fun σ2 H2 => tIfS tt t u D σ2 H2 := h
theorem s_gd {i : Nat} {x : V} {te : TE} {D : Ends} (h : tDrop te D (σ.set i (some x)) H) : gName i x σ H fun σ2 H2 => tDrop te D σ2 H2 := h
/-- what stands behind the loop, said once -/
theorem for_brk {wi : TI} (Px : L2.St → Hp → Prop) (hd : ∀ σ' H', Px σ' H' → nx σ' H') (k : (∀ σ' H', Px σ' H' → nx σ' H') → tFor wi g tb ⟨nx, rt, bk, ct⟩ σ H) : tFor wi g tb ⟨nx, rt, bk, ct⟩ σ H := k hd
/-- .. over a name -/
theorem for_var (K : PySem.W.Frag) {k : Nat} (hσ : σ[k]? = some (some v)) (hv : Is K H0 v (.sq ts)) (s0 : Stay K H0 H) (Pv : Nat → L2.St → Hp → Prop) (h0 : Pv 0 σ H) (hl : ∀ i σ' H', i ≤ ts.length → Pv i σ' H' → Stay K H0 H')
    (hs : ∀ i x t σ' H', ts[i]? = some t → Is K H' x (.im t) → Pv i σ' H' → g x σ' H' fun σ2 H2 => tb ⟨Pv (i + 1), rt, nx, Pv (i + 1)⟩ σ2 H2) (hd : ∀ σ' H', Pv ts.length σ' H' → nx σ' H') :
    tFor (iSeq K (tVar k)) g tb ⟨nx, rt, bk, ct⟩ σ H := ⟨v, hσ, for_at hv s0 Pv h0 hl hs hd⟩
/-- .. over a value that is made -/
theorem for_ev (K : PySem.W.Frag) (h : Ev K tl σ H (.sq ts)) (q : ∀ v H1, Same H H1 → Is K H1 v (.sq ts) → ∃ Pv : Nat → L2.St → Hp → Prop, Pv 0 σ H1 ∧ (∀ i σ' H', i ≤ ts.length → Pv i σ' H' → Stay K H1 H') ∧
    (∀ i x t σ' H', ts[i]? = some t → Is K H' x (.im t) → Pv i σ' H' → g x σ' H' fun σ2 H2 => tb ⟨Pv (i + 1), rt, nx, Pv (i + 1)⟩ σ2 H2) ∧ ∀ σ' H', Pv ts.length σ' H' → nx σ' H') :
    tFor (iSeq K tl) g tb ⟨nx, rt, bk, ct⟩ σ H := h H (Same.refl H) _ fun v H1 s1 hv => by
  obtain ⟨Pv, h0, hl, hs, hd⟩ := q v H1 s1 hv
  exact for_at hv (Stay.refl K H1) Pv h0 hl hs hd
theorem for_rng (K : PySem.W.Frag) {j : Int} {k : Nat} (h : EvA K args σ H [.im (.int j)]) (hj : -(2 ^ 62) ≤ j ∧ j < 2 ^ 62) (Pv : Nat → L2.St → Hp → Prop) (h0 : ∀ H', Same H H' → Pv 0 σ H')
    (hs : ∀ (i : Nat) σ' H', i < j.toNat → Pv i σ' H' → tb ⟨Pv (i + 1), rt, nx, Pv (i + 1)⟩ (σ'.set k (some (.int (i : Int)))) H') (hd : ∀ σ' H', Pv j.toNat σ' H' → nx σ' H') :
    tFor (iRng1 args) (gName k) tb ⟨nx, rt, bk, ct⟩ σ H := h H (Same.refl H) _ fun vs H1 s1 hv => by
  obtain ⟨v, rfl, h1⟩ := hv.one_inv
  refine ⟨j, by rw [h1.iv], hj.1, hj.2, for_range (D := ⟨nx, rt, bk, ct⟩) (lo := 0) (n := j.toNat) Pv (h0 H1 s1) (fun i σ' H' hi p => ?_) hd⟩
  have := hs i σ' H' hi p
  have e : (0 : Int) + (i : Int) = i := Int.zero_add _
  rw [e]
  exact this
theorem for_rng2 (K : PySem.W.Frag) {lo hi : Int} {k : Nat} (h : EvA K args σ H [.im (.int lo), .im (.int hi)]) (hj : -(2 ^ 62) ≤ lo ∧ lo < 2 ^ 62 ∧ -(2 ^ 62) ≤ hi ∧ hi < 2 ^ 62) (Pv : Nat → L2.St → Hp → Prop) (h0 : ∀ H', Same H H' → Pv 0 σ H')
    (hs : ∀ (i : Nat) σ' H', i < (hi - lo).toNat → Pv i σ' H' → tb ⟨Pv (i + 1), rt, nx, Pv (i + 1)⟩ (σ'.set k (some (.int (lo + (i : Int))))) H') (hd : ∀ σ' H', Pv (hi - lo).toNat σ' H' → nx σ' H') :
    tFor (iRng2 args) (gName k) tb ⟨nx, rt, bk, ct⟩ σ H := h H (Same.refl H) _ fun vs H1 s1 hv => by
  obtain ⟨v, u, rfl, h1, h2⟩ := hv.two_inv
  exact ⟨lo, hi, by rw [h1.iv, h2.iv], hj, for_range (D := ⟨nx, rt, bk, ct⟩) (lo := lo) (n := (hi - lo).toNat) Pv (h0 H1 s1) (fun i σ' H' hi p => hs i σ' H' hi p) hd⟩
end
/-! ### comprehensions -/
section
variable {K : PySem.W.Frag} {σ : L2.St} {H H0 H1 : Hp} {te tl : TE} {tt : TT} {args : TA} {ts : List T} {v : V} {g : TG} {vs : List Nat}
theorem filter_take_succ {α : Type} {p : α → Bool} {ts : List α} {i : Nat} {t : α} (h : ts[i]? = some t) : (ts.take (i + 1)).filter p = if p t then (ts.take i).filter p ++ [t] else (ts.take i).filter p := by
  have hi : i < ts.length := (List.getElem?_eq_some_iff.mp h).1
  rw [List.take_add_one, h]
  simp only [Option.toList, List.filter_append]
  by_cases hp : p t
  · simp [hp]
  · simp [hp]
/-- [e for x in xs if p], xs a list or tuple of trees -/
theorem n_lc {p : T → Bool} {f : T → T} (h : Ev K tl σ H (.sq ts)) (hlen : ts.length ≤ 100000)
    (hx : ∀ (i : Nat) x t H', ts[i]? = some t → Same H H' → Is K H' x (.im t) → ∃ σ2, (∀ k : L2.St → Hp → Prop, k σ2 H' → g x (wipe σ vs) H' k) ∧ wipe σ2 vs = wipe σ vs ∧ EvT K tt σ2 H' (p t) ∧ (p t = true → Ev K te σ2 H' (.im (f t)))) :
    EvN K (tLc (iSeq K tl) g tt te vs) σ H ((ts.filter p).map f) := fun Ha sa Q q => h Ha sa _ fun v H1 s1 hv => by
  obtain ⟨a, xs, e, hq, hi⟩ := hv
  refine ⟨a, e, ?_⟩
  have len := hi.length
  have turn : ∀ (D : Addr), H1 D = none → ∀ i x H', xs[i]? = some x → (Same H1 H' ∧ ∃ acc, H' D = some (.lst acc) ∧ acc.length ≤ i ∧ Ims K H' acc (((ts.take i).filter p).map f)) →
      g x (wipe σ vs) H' fun σ2 H2 => wipe σ2 vs = wipe σ vs ∧ tt σ2 H2 fun b H3 => if b = true then te σ2 H3 fun y H4 => ∃ acc, H4 D = some (.lst acc) ∧ acc.length < sizeLine ∧
        (Same H1 (upd H4 D (.lst (acc ++ [y]))) ∧ ∃ acc', upd H4 D (.lst (acc ++ [y])) D = some (.lst acc') ∧ acc'.length ≤ i + 1 ∧ Ims K (upd H4 D (.lst (acc ++ [y]))) acc' (((ts.take (i + 1)).filter p).map f))
        else (Same H1 H3 ∧ ∃ acc, H3 D = some (.lst acc) ∧ acc.length ≤ i + 1 ∧ Ims K H3 acc (((ts.take (i + 1)).filter p).map f)) := by
    intro D hD i x H' hx' ⟨s2, acc, hacc, hl, hims⟩
    have lt : i < xs.length := (List.getElem?_eq_some_iff.mp hx').1
    obtain ⟨t, ht, hxt⟩ := (L2.Same.ims s2 hi).get hx'
    obtain ⟨σ2, hg, hw, hp, hf⟩ := hx i x t H' ht (sa.trans (s1.trans s2)) hxt
    refine hg _ ⟨hw, hp H' (Same.refl H') _ fun H3 s3 => ?_⟩
    rw [filter_take_succ ht]
    cases hpt : p t with
    | false =>
      refine iteF ⟨s2.trans s3, acc, s3 _ _ hacc, by omega, ?_⟩
      simpa using L2.Same.ims s3 hims
    | true =>
      refine iteT (hf hpt H3 s3 _ fun y H4 s4 hy => ?_)
      have hacc4 := s4 _ _ (s3 _ _ hacc)
      refine ⟨acc, hacc4, lt_line (by omega), same_mut (s2.trans (s3.trans s4)) hD, acc ++ [y], upd_same, by simp; omega, ?_⟩
      have k1 : Keep H4 (upd H4 D (.lst (acc ++ [y]))) := keep_lst hacc4
      have i1 := (L2.Same.ims (s3.trans s4) hims).mono k1
      have i2 : Im K (upd H4 D (.lst (acc ++ [y]))) y (f t) := Im.mono k1 hy
      simpa using i1.snoc i2
  have fin : ∀ (D : Addr), H1 D = none → ∀ H', (Same H1 H' ∧ ∃ acc, H' D = some (.lst acc) ∧ acc.length ≤ xs.length ∧ Ims K H' acc (((ts.take xs.length).filter p).map f)) → Q (.ref D) H' := by
    intro D hD H' ⟨s2, acc, hacc, hl, hims⟩
    refine q D acc H' (s1.free hD) (s1.trans s2) hacc ?_
    rw [len, List.take_length] at hims
    exact hims
  have start : ∀ (D : Addr), H1 D = none → Same H1 (upd H1 D (.lst [])) ∧ ∃ acc, upd H1 D (.lst []) D = some (.lst acc) ∧ acc.length ≤ 0 ∧ Ims K (upd H1 D (.lst [])) acc (((ts.take 0).filter p).map f) := fun D hD =>
    ⟨same_new hD, [], upd_same, Nat.le_refl _, by simpa using Ims.nil⟩
  rcases hq with hq | hq
  · refine .inl ⟨⟨xs, hq⟩, fun D hD => ?_⟩
    exact lc_list (xs := xs) (fun i H' => Same H1 H' ∧ ∃ acc, H' D = some (.lst acc) ∧ acc.length ≤ i ∧ Ims K H' acc (((ts.take i).filter p).map f)) (start D hD) (fun i H' _ P => L2.Same.sqL P.1 hq) (fun i x H' hx' P => turn D hD i x H' hx' P) (fun H' P => fin D hD H' P)
  · refine .inr ⟨⟨xs, hq⟩, fun D hD => ?_⟩
    exact lc_tup (xs := xs) (fun i H' => Same H1 H' ∧ ∃ acc, H' D = some (.lst acc) ∧ acc.length ≤ i ∧ Ims K H' acc (((ts.take i).filter p).map f)) (start D hD) (fun i H' _ P => L2.Same.sqT P.1 hq) (fun i x H' hx' P => turn D hD i x H' hx' P) (fun H' P => fin D hD H' P)
theorem t_yes {K : PySem.W.Frag} {σ : L2.St} {H : Hp} : EvT K tYes σ H true := fun H1 _ _ q => q H1 (Same.refl H1)
/-- [e for x in xs] -/
theorem n_lcm {f : T → T} (h : Ev K tl σ H (.sq ts)) (hlen : ts.length ≤ 100000)
    (hx : ∀ (i : Nat) x t H', ts[i]? = some t → Same H H' → Is K H' x (.im t) → ∃ σ2, (∀ k : L2.St → Hp → Prop, k σ2 H' → g x (wipe σ vs) H' k) ∧ wipe σ2 vs = wipe σ vs ∧ Ev K te σ2 H' (.im (f t))) :
    EvN K (tLc (iSeq K tl) g tYes te vs) σ H (ts.map f) := by
  have := n_lc (p := fun _ => true) (f := f) (tt := tYes) (te := te) (g := g) (vs := vs) h hlen fun i x t H' ht s hxt => by
    obtain ⟨σ2, h1, h2, h3⟩ := hx i x t H' ht s hxt
    exact ⟨σ2, h1, h2, t_yes, fun _ => h3⟩
  rw [List.filter_eq_self.mpr (fun _ _ => rfl)] at this
  exact this
/-- [e for k in range(n)] -/
theorem n_lcr {f : Int → T} {j : Int} (h : EvA K args σ H [.im (.int j)]) (hj : 0 ≤ j ∧ j ≤ 100000)
    (hx : ∀ (i : Nat) H', i < j.toNat → Same H H' → ∃ σ2, (∀ k : L2.St → Hp → Prop, k σ2 H' → g (.int (i : Int)) (wipe σ vs) H' k) ∧ wipe σ2 vs = wipe σ vs ∧ Ev K te σ2 H' (.im (f i))) :
    EvN K (tLc (iRng1 args) g tYes te vs) σ H ((List.range j.toNat).map fun i : Nat => f (i : Int)) := fun Ha sa Q q => h Ha sa _ fun vs' H1 s1 hv => by
  obtain ⟨v, rfl, h1⟩ := hv.one_inv
  refine ⟨j, by rw [h1.iv], by omega, by omega, fun D hD => ?_⟩
  refine lc_range (lo := 0) (n := j.toNat) (fun i H' => Same H1 H' ∧ ∃ acc, H' D = some (.lst acc) ∧ acc.length ≤ i ∧ Ims K H' acc ((List.range i).map fun i : Nat => f (i : Int)))
    ⟨same_new hD, [], upd_same, Nat.le_refl _, .nil⟩ (fun i H' hi P => ?_) (fun H' P => ?_)
  · obtain ⟨s2, acc, hacc, hl, hims⟩ := P
    obtain ⟨σ2, hg, hw, hf⟩ := hx i H' hi (sa.trans (s1.trans s2))
    have e : (0 : Int) + (i : Int) = i := Int.zero_add _
    rw [e]
    refine hg _ ⟨hw, ?_⟩
    unfold tYes
    dsimp only
    rw [if_pos rfl]
    refine hf H' (Same.refl H') _ fun y H4 s4 hy => ?_
    have hacc4 := s4 _ _ hacc
    refine ⟨acc, hacc4, lt_line (by omega), same_mut (s2.trans s4) hD, acc ++ [y], upd_same, by simp; omega, ?_⟩
    have k1 : Keep H4 (upd H4 D (.lst (acc ++ [y]))) := keep_lst hacc4
    rw [List.range_succ, List.map_append]
    exact ((L2.Same.ims s4 hims).mono k1).snoc (Im.mono k1 hy)
  · obtain ⟨s2, acc, hacc, hl, hims⟩ := P
    exact q D acc H' (s1.free hD) (s1.trans s2) hacc hims
end
end TW

set_option Elab.async false
set_option linter.all false
set_option maxRecDepth 100000
set_option maxHeartbeats 4000000
namespace TW
open PySem PySem.Spec PyProof.Rows L2
theorem spO_len {K : PySem.W.Frag} {mg : Str → Option Value} {R : List D → O → Prop} {vs : List V} {H : Hp} {Q : VK} {E : XK} {n : Nat} (h : spO K mg R vs H Q E) (hr : ∀ ds o, R ds o → ds.length = n) : vs.length = n := by
  obtain ⟨ds, o, hi, h1, _⟩ := h
  rw [hi.length]
  exact hr ds o h1
theorem mulR {i j : Int} (h : -18446744073709551616 < j ∧ j < 18446744073709551616) : CMul i j := .inr h
theorem mulL {i j : Int} (h : -18446744073709551616 < i ∧ i < 18446744073709551616) : CMul i j := .inl h
/-! ### dicts with text keys -/
section
variable {K : PySem.W.Frag} {σ : L2.St} {H : Hp} {tv : TE} {d : D} {nx bk ct : L2.St → Hp → Prop} {rt : VK} {i : Nat} {a : Addr} {kvs : List (Key × V)} {x : Str} {v : V}
theorem e_dk (hσ : σ[i]? = some (some (.ref a))) (hd : H a = some (.dK kvs)) (hv : valV kvs (Sum.inr x) = some v) (h : Is K H v d) : Ev K (tDGet (tVar i) (tC (.str x))) σ H d := fun H1 s Q q =>
  ⟨_, hσ, a, v, rfl, .inl ⟨kvs, Sum.inr x, .inl (s _ _ hd), rfl, hv.symm⟩, q v H1 (Same.refl H1) (s.is h)⟩
theorem e_dkI {n : Int} (hσ : σ[i]? = some (some (.ref a))) (hd : H a = some (.dK kvs)) (hv : valV kvs (Sum.inr x) = some (.int n)) : Ev K (tDGet (tVar i) (tC (.str x))) σ H (.im (.int n)) := e_dk hσ hd hv (Im.int n)
/-- return f(..), return f(..) with what f promises -/
theorem s_retC {sp : Sp} {E : L2.St → XK} {args : TA} {ds : List D} (K : PySem.W.Frag) (h : EvA K args σ H ds) (q : ∀ vs H', Same H H' → Iss K H' vs ds → sp vs H' rt (E σ)) : tRet (tCallS sp E args) ⟨nx, rt, bk, ct⟩ σ H := h H (Same.refl H) _ q
theorem s_setC {sp : Sp} {E : L2.St → XK} {args : TA} {ds : List D} {j : Nat} (K : PySem.W.Frag) (h : EvA K args σ H ds) (q : ∀ vs H', Same H H' → Iss K H' vs ds → sp vs H' (fun v H2 => nx (σ.set j (some v)) H2) (E σ)) : tAsg (tCallS sp E args) (gName j) ⟨nx, rt, bk, ct⟩ σ H := h H (Same.refl H) _ q
/-- what stands between a statement and the rest -/
theorem s_cut {s u : TS} (Pm : L2.St → Hp → Prop) (hd : ∀ σ' H', Pm σ' H' → u ⟨nx, rt, bk, ct⟩ σ' H') (k : (∀ σ' H', Pm σ' H' → u ⟨nx, rt, bk, ct⟩ σ' H') → s ⟨u ⟨nx, rt, bk, ct⟩, rt, bk, ct⟩ σ H) : tSeq s u ⟨nx, rt, bk, ct⟩ σ H := k hd
theorem s_dput (K : PySem.W.Frag) (hσ : σ[i]? = some (some (.ref a))) (hd : H a = some (.dK kvs)) (h : Ev K tv σ H d) (q : ∀ v H', Same H H' → Is K H' v d → nx σ (upd H' a (.dK (putK kvs (Sum.inr x) v)))) (hl : kvs.length ≤ 1000 := by exact Nat.le_of_ble_eq_true rfl) :
    sDPut (tVar i) (tC (.str x)) tv ⟨nx, rt, bk, ct⟩ σ H := h H (Same.refl H) _ fun v H1 s hv => ⟨_, hσ, a, _, rfl, DPut.k (k := Sum.inr x) (s _ _ hd) (small1000 hl), q v H1 s hv⟩
end
/-! ### the store of a law -/
def stKvs (b : Addr) (i g t sd : Int) : List (Key × V) := [(.inr "cells", .ref b), (.inr "at", .int i), (.inr "great", .int g), (.inr "turn", .int t), (.inr "seed", .int sd)]
section
variable {b : Addr} {i g t sd n : Int}
theorem st_cells : valV (stKvs b i g t sd) (Sum.inr "cells") = some (.ref b) := rfl
theorem st_at : valV (stKvs b i g t sd) (Sum.inr "at") = some (.int i) := rfl
theorem st_great : valV (stKvs b i g t sd) (Sum.inr "great") = some (.int g) := rfl
theorem st_turn : valV (stKvs b i g t sd) (Sum.inr "turn") = some (.int t) := rfl
theorem st_seed : valV (stKvs b i g t sd) (Sum.inr "seed") = some (.int sd) := rfl
theorem pt_at : putK (stKvs b i g t sd) (Sum.inr "at") (.int n) = stKvs b n g t sd := rfl
theorem pt_great : putK (stKvs b i g t sd) (Sum.inr "great") (.int n) = stKvs b i n t sd := rfl
theorem pt_turn : putK (stKvs b i g t sd) (Sum.inr "turn") (.int n) = stKvs b i g n sd := rfl
end
structure St (H : Hp) (a b : Addr) (i g t sd : Int) (ns : List Int) : Prop where
  d : H a = some (.dK (stKvs b i g t sd))
  l : H b = some (.lst (ns.map V.int))
  i0 : 0 ≤ i
/-- the store at a, its list of cells at b -/
def StoreOk (H : Hp) (a b : Addr) : Prop := ∃ i g t sd ns, St H a b i g t sd ns
theorem St.same {H H' : Hp} {a b : Addr} {i g t sd : Int} {ns : List Int} (s : Same H H') (h : St H a b i g t sd ns) : St H' a b i g t sd ns := ⟨s _ _ h.d, s _ _ h.l, h.i0⟩
theorem St.ne {H : Hp} {a b : Addr} {i g t sd : Int} {ns : List Int} (h : St H a b i g t sd ns) : b ≠ a := ne_of h.l h.d (by intro z; cases z)
theorem St.put {H : Hp} {a b : Addr} {i g t sd i' g' t' sd' : Int} {ns : List Int} (h : St H a b i g t sd ns) (h0 : 0 ≤ i') : St (upd H a (.dK (stKvs b i' g' t' sd'))) a b i' g' t' sd' ns :=
  ⟨upd_same, by rw [upd_ne h.ne]; exact h.l, h0⟩
theorem St.ok {H : Hp} {a b : Addr} {i g t sd : Int} {ns : List Int} (h : St H a b i g t sd ns) : StoreOk H a b := ⟨i, g, t, sd, ns, h⟩
theorem StoreOk.same {H H' : Hp} {a b : Addr} (s : Same H H') (h : StoreOk H a b) : StoreOk H' a b := by
  obtain ⟨i, g, t, sd, ns, h⟩ := h
  exact ⟨i, g, t, sd, ns, h.same s⟩
theorem StoreOk.dk {H : Hp} {a b : Addr} (h : StoreOk H a b) : ∃ kvs, H a = some (.dK kvs) := by
  obtain ⟨i, g, t, sd, ns, h⟩ := h
  exact ⟨_, h.d⟩
theorem StoreOk.lb {H : Hp} {a b : Addr} (h : StoreOk H a b) : ∃ xs, H b = some (.lst xs) := by
  obtain ⟨i, g, t, sd, ns, h⟩ := h
  exact ⟨_, h.l⟩
/-- another object changes -/
theorem StoreOk.upd {H : Hp} {a b p : Addr} {o : HO} (h : StoreOk H a b) (h1 : p ≠ a) (h2 : p ≠ b) : StoreOk (upd H p o) a b := by
  obtain ⟨i, g, t, sd, ns, h⟩ := h
  exact ⟨i, g, t, sd, ns, by rw [upd_ne h1.symm]; exact h.d, by rw [upd_ne h2.symm]; exact h.l, h.i0⟩
theorem ne_of_none' {H : Hp} {a p : Addr} {o : HO} (h : H a = some o) (hp : H p = none) : p ≠ a := fun q => by
  rw [q, h] at hp
  cases hp
/-- what was not there is neither the store nor its cells -/
theorem StoreOk.apart {H : Hp} {a b p : Addr} (h : StoreOk H a b) (hp : H p = none) : p ≠ a ∧ p ≠ b := by
  obtain ⟨kvs, e⟩ := h.dk
  obtain ⟨xs, e2⟩ := h.lb
  exact ⟨ne_of_none' e hp, ne_of_none' e2 hp⟩
theorem Sm.stayS {K : PySem.W.Frag} {H H' : Hp} {a b : Addr} (s : Sm a H H') (h : StoreOk H a b) : Stay K H H' := by
  obtain ⟨kvs, e⟩ := h.dk
  exact s.stay e
theorem Sm.isS {K : PySem.W.Frag} {H H' : Hp} {a b : Addr} {v : V} {d : D} (s : Sm a H H') (h : StoreOk H a b) (i : Is K H v d) : Is K H' v d := by
  obtain ⟨kvs, e⟩ := h.dk
  exact s.is e i
theorem Sm.free {H H' : Hp} {a p : Addr} (s : Sm a H H') (n : p ≠ a) (h : H' p = none) : H p = none := by
  cases e : H p with
  | none => rfl
  | some o =>
    rw [s p o n e] at h
    cases h
end TW

set_option Elab.async false
set_option linter.all false
set_option maxRecDepth 100000
set_option maxHeartbeats 4000000
namespace TW
open PySem PySem.Spec PyProof.Rows L2
/-! ### constants of the module -/
section
variable {X : Cx} {x : Str} {pos : Pos}
theorem pe_gi {n : Int} (hm : ∃ t, X.mg x = some (.int n t)) (hg : Gl X x := by rfl) (hd : (x == ("__debug__" : Str)) = false := by decide) : PE X (.Name x pos) (tC (.int n)) := by
  obtain ⟨t, hm⟩ := hm
  exact pe_glob hg hm ⟨t, rfl⟩ hd
theorem pe_gs {n : Str} (hm : ∃ t, X.mg x = some (.str n t)) (hg : Gl X x := by rfl) (hd : (x == ("__debug__" : Str)) = false := by decide) : PE X (.Name x pos) (tC (.str n)) := by
  obtain ⟨t, hm⟩ := hm
  exact pe_glob hg hm ⟨t, rfl⟩ hd
/-- a tuple of the top -/
def tGT (K : PySem.W.Frag) (ts : List T) : TE := fun _ H Q => ∀ a, (∀ H, Im K H (.ref a) (.tup ts)) → Q (.ref a) H
theorem pe_gt {ts : List T} (hm : ∃ a, X.mg x = some (.ref a) ∧ ∀ H, Im X.K H (.ref a) (.tup ts)) (hg : Gl X x := by rfl) (hd : (x == ("__debug__" : Str)) = false := by decide) : PE X (.Name x pos) (tGT X.K ts) := by
  obtain ⟨a, hm, hi⟩ := hm
  refine ⟨fun pins s σ H Q I h => ?_⟩
  exact ld_glob I hg hm ⟨.ref a, H, I, rfl, h a hi⟩ hd
/-- a table of the top, text by text -/
def tWGet (kvs : List (Str × Str)) (ti : TE) : TE := fun σ H Q => ti σ H fun y H1 => ∃ z v, y = .str z ∧ (z, v) ∈ kvs ∧ Q (.str v) H1
theorem pe_wget {kvs : List (Str × Str)} {i : Expr} {ti : TE} {p2 : Pos} (hm : ∃ a, X.mg x = some (.ref a) ∧ ∀ q ∈ kvs, KDct X.K X.w a q.1 (.str q.2)) (hi : PE X i ti) (hg : Gl X x := by rfl) (hs : PlainIx i := by exact fun _ _ => rfl)
    (hd : (x == ("__debug__" : Str)) = false := by decide) : PE X (.Subscript (.Name x p2) i pos) (tWGet kvs ti) := by
  obtain ⟨a, hm, hk⟩ := hm
  refine ⟨fun pins s σ H Q I q => ?_⟩
  refine Subscript_ (ld_glob I hg hm ?_ hd)
  refine thn (hi.run pins s σ H _ I q) fun u s2 ⟨y, H2, I2, ry, z, v, e, m, q2⟩ => ?_
  exact ix_kdict _ _ pins s2 σ H2 (.ref a) y (.ref a) u Q I2 rfl ry ⟨a, z, .str v, rfl, e, hk _ m, q2⟩ (hs _ _)
/-! ### tuples of two numbers, told apart -/
def lex2 (p q : Int × Int) : Bool := if p.1 = q.1 then decide (p.2 < q.2) else decide (p.1 < q.1)
def rGtP (K : PySem.W.Frag) : R2 := fun x y H Q => ∃ (a b : Addr) (p q : Int × Int), x = .ref a ∧ y = .ref b ∧ SqT K H a [.int p.1, .int p.2] ∧ SqT K H b [.int q.1, .int q.2] ∧ Q (.bl (lex2 q p)) H
theorem op_gtT (hu : X.A.units < cLine) : OpR X (compareOp .Gt) (rGtP X.K) := by
  intro pins s σ H x y v u Q I rx ry h
  obtain ⟨a, b, p, q, rfl, rfl, ha, hb, k⟩ := h
  cases rx
  cases ry
  obtain ⟨its, r1, p1, _⟩ := I.tuple ha
  obtain ⟨its2, r2, p2, _⟩ := I.tuple hb
  obtain ⟨u1, u2, rfl, ⟨t1, rfl⟩, ⟨t2, rfl⟩⟩ := vals2 r1
  obtain ⟨w1, w2, rfl, ⟨t3, rfl⟩, ⟨t4, rfl⟩⟩ := vals2 r2
  have R := Ob.RcOp.tuples_gt (A := X.A) (s := s) (e := fun j => match j with | 0 => (p.1 == q.1) | _ => (p.2 == q.2)) (r := fun j => match j with | 0 => decide (q.1 < p.1) | _ => decide (q.2 < p.2)) p1 p2 hu (fun j h1 h2 => by
    match j, h1 with
    | 0, _ => exact SeqAt.EqAt.int_int _ _ _ _
    | 1, _ => exact SeqAt.EqAt.int_int _ _ _ _
    | n + 2, h => exact absurd h (by simp)) (fun j h1 h2 _ => by
    match j, h1 with
    | 0, _ => exact Ob.RcOp.gt_int _ _ _ _
    | 1, _ => exact Ob.RcOp.gt_int _ _ _ _
    | n + 2, h => exact absurd h (by simp))
  refine R X.prog X.w X.xe (EP X pins σ Q) ⟨.bl (lex2 q p), H, I, ?_, k⟩
  show Value.bool _ = Value.bool _
  congr 1
  show (if (p.1 == q.1) = true then (if (p.2 == q.2) = true then false else decide (q.2 < p.2)) else decide (q.1 < p.1)) = lex2 q p
  unfold lex2
  by_cases c : p.1 = q.1
  · rw [if_pos (beq_iff_eq.mpr c), if_pos c.symm]
    by_cases d : p.2 = q.2
    · rw [if_pos (beq_iff_eq.mpr d)]
      exact (decide_eq_false (by omega)).symm
    · rw [if_neg (fun z => d (beq_iff_eq.mp z))]
  · rw [if_neg (fun z => c (beq_iff_eq.mp z)), if_neg (fun z => c z.symm)]
end
/-! ### min(sums, default=None) -/
def rMinD (K : PySem.W.Frag) : List V → List V → Hp → VK → Prop := fun xs zs H Q => ∃ (a : Addr) (ns : List Int), xs = [.ref a] ∧ zs = [.non] ∧ SqL K H a (ns.map V.int) ∧
  (ns = [] → Q .non H) ∧ (∀ n, n ∈ ns → (∀ m ∈ ns, n ≤ m) → Q (.int n) H)
section
variable {X : Cx} {e : Expr} {te : TE} {p pos : Pos}
theorem cr_minD (hc : X.calm = true) (hu : X.A.units + 64 < cLine) : CallRK X (.builtin "min") [Str.ofString "default"] (rMinD X.K) := by
  intro pins s σ H xs zs us ws Q I r rz h
  obtain ⟨a, ns, rfl, rfl, hq, q0, q1⟩ := h
  obtain ⟨u, rfl, ru⟩ := vals1 r
  obtain rfl : u = Value.ref a := ru
  obtain ⟨w1, rfl, e1⟩ := vals1 rz
  obtain rfl : w1 = Value.none := e1
  obtain ⟨its, rv, pl, hz⟩ := I.list hq
  have hi : IntsAre its ns := Vals.ints rv
  have dep : ∀ l : List Int, PyData.depthAll (l.map PyData.int) = 0 := fun l => by
    induction l with
    | nil => rfl
    | cons n r ih => simp [PyData.depthAll, PyData.depth, ih]
  refine PySem.W.min_list_default (xs := ns.map PyData.int) (as := []) (I.ok.hd hc) pl.isList (by simpa using PyProof.Rows.ints_readAll _ hi) ?_ (by rw [dep]; omega) (fun e h' tk k => ?_) (fun y ys i v h' tk bs e hv hr k => ?_)
  · refine ⟨fun x hx y hy => ?_, fun x hx z => ?_⟩
    · obtain ⟨n, _, rfl⟩ := List.mem_map.mp hx
      obtain ⟨m, _, rfl⟩ := List.mem_map.mp hy
      rfl
    · obtain ⟨n, _, rfl⟩ := List.mem_map.mp hx
      cases z
  · exact ⟨.non, H, I.kept (t' := tk) k, rfl, q0 (List.map_eq_nil_iff.mp e)⟩
  · cases ns with
    | nil => cases e
    | cons n r =>
      rw [List.map_cons] at e
      injection e with e1 e2
      subst e1 e2
      rw [PySem.W.minD_ints] at hr
      obtain ⟨t, rfl⟩ : ∃ t, v = .int (r.foldl min n) t := by
        cases hr with
        | int _ t => exact ⟨t, rfl⟩
      refine ⟨.int (r.foldl min n), H, I.kept (t' := tk) k, ⟨t, rfl⟩, q1 _ ?_ ?_⟩
      · clear q0 q1 hr hv rv pl hq hi hz
        induction r generalizing n with
        | nil => exact List.mem_cons_self
        | cons m r ih =>
          rw [List.foldl_cons]
          have := ih (n := min n m)
          rcases List.mem_cons.mp this with h | h
          · rw [h]
            rcases Int.le_total n m with c | c
            · rw [Int.min_eq_left c]; exact List.mem_cons_self
            · rw [Int.min_eq_right c]; exact List.mem_cons_of_mem _ List.mem_cons_self
          · exact List.mem_cons_of_mem _ (List.mem_cons_of_mem _ h)
      · clear q0 q1 hr hv rv pl hq hi hz
        have low : ∀ (r : List Int) (n : Int), r.foldl min n ≤ n ∧ ∀ m ∈ r, r.foldl min n ≤ m := by
          intro r
          induction r with
          | nil => exact fun n => ⟨Int.le_refl _, fun m h => by cases h⟩
          | cons k r ih =>
            intro n
            rw [List.foldl_cons]
            obtain ⟨a1, a2⟩ := ih (min n k)
            refine ⟨Int.le_trans a1 (Int.min_le_left _ _), fun m hm => ?_⟩
            rcases List.mem_cons.mp hm with h | h
            · rw [h]; exact Int.le_trans a1 (Int.min_le_right _ _)
            · exact a2 m h
        intro m hm
        rcases List.mem_cons.mp hm with h | h
        · rw [h]; exact (low r n).1
        · exact (low r n).2 m h
theorem pe_minD {kp : Pos} {t2 : Pos} {k : Nat} (B : Bt X.mg) (hc : X.calm = true) (hu : X.A.units + 64 < cLine) (he : PE X e te) (hg : Gl X "min" := by rfl)
    (hst : backTo pos (starEach [e] X.env) = (false, eval e X.env) :: backTo pos (starEach [] X.env) := by rfl) (hpl : (backTo pos (starEach [e] X.env)).any (·.1) = false := by rfl)
    (h1 : starEach (e :: []) X.env = (false, eval e X.env) :: starEach [] X.env := by rfl)
    (hall : (backToKw pos (keywordEach [⟨some "default", .Constant .none k t2, kp⟩] X.env)).all (·.1.isSome) = true := by rfl) (hnone : (backToKw pos (keywordEach [⟨some "default", .Constant .none k t2, kp⟩] X.env)).any (·.1.isNone) = false := by rfl)
    (hks : (backToKw pos (keywordEach [⟨some "default", .Constant .none k t2, kp⟩] X.env)).filterMap (·.1) = [Str.ofString "default"] := by rfl) :
    PE X (.Call (.Name "min" p) [e] [⟨some "default", .Constant .none k t2, kp⟩] pos) (tCKw (rMinD X.K) (tCons te tNil) (tCons (tC .non) tNil)) :=
  pe_callBK (cr_minD hc hu) hg B.min bt_min (pa_cons he pa_nil h1) (pk_cons pe_non pk_nil) (by decide) (by decide) hst hpl hall hnone hks
end
end TW

set_option Elab.async false
set_option linter.all false
set_option maxRecDepth 100000
set_option maxHeartbeats 4000000
namespace TW
open PySem PySem.Spec PyProof.Rows L2
/-! ### isinstance(x, T) of the built-in kinds -/
abbrev tIsi (K : PySem.W.Frag) (n : String) (te : TE) : TE := tCB (rIsi K) (tCons te (tCons (tC (.ty n)) tNil))
section
variable {X : Cx} {e : Expr} {te : TE} {p p2 pos : Pos}
theorem pe_isi {x : Str} {n : String} (B : Bt X.mg) (hm : X.mg x = none) (hv : bootBuiltins x = some (.type n)) (hn : x ≠ "__name__") (hdb : (x == ("__debug__" : Str)) = false) (hgx : Gl X x) (he : PE X e te) (hg : Gl X "isinstance" := by rfl)
    (hst : starEach (e :: [.Name x p2]) X.env = (false, eval e X.env) :: starEach [.Name x p2] X.env := by rfl) (hst2 : starEach (.Name x p2 :: []) X.env = (false, eval (.Name x p2) X.env) :: starEach [] X.env := by rfl)
    (hpl : (backTo pos (starEach [.Name x p2] X.env)).any (·.1) = false := by rfl) : PE X (.Call (.Name "isinstance" p) [e, .Name x p2] [] pos) (tIsi X.K n te) :=
  pe_callB call_isi hg B.isi bt_isi (pa_cons he (pa_cons (pe_bltn (v := .ty n) hgx hm hv rfl hn hdb) pa_nil hst2) hst) (by decide) (by decide) hst hpl
theorem pe_isi_int (B : Bt X.mg) (he : PE X e te) (hgx : Gl X "int" := by rfl) (hg : Gl X "isinstance" := by rfl)
    (hst : starEach (e :: [.Name "int" p2]) X.env = (false, eval e X.env) :: starEach [.Name "int" p2] X.env := by rfl) (hst2 : starEach (.Name "int" p2 :: []) X.env = (false, eval (.Name "int" p2) X.env) :: starEach [] X.env := by rfl)
    (hpl : (backTo pos (starEach [.Name "int" p2] X.env)).any (·.1) = false := by rfl) : PE X (.Call (.Name "isinstance" p) [e, .Name "int" p2] [] pos) (tIsi X.K "int" te) :=
  pe_isi B B.int bt_int (by decide) (by decide) hgx he hg hst hst2 hpl
theorem pe_isi_bool (B : Bt X.mg) (he : PE X e te) (hgx : Gl X "bool" := by rfl) (hg : Gl X "isinstance" := by rfl)
    (hst : starEach (e :: [.Name "bool" p2]) X.env = (false, eval e X.env) :: starEach [.Name "bool" p2] X.env := by rfl) (hst2 : starEach (.Name "bool" p2 :: []) X.env = (false, eval (.Name "bool" p2) X.env) :: starEach [] X.env := by rfl)
    (hpl : (backTo pos (starEach [.Name "bool" p2] X.env)).any (·.1) = false := by rfl) : PE X (.Call (.Name "isinstance" p) [e, .Name "bool" p2] [] pos) (tIsi X.K "bool" te) :=
  pe_isi B B.bool bt_bool (by decide) (by decide) hgx he hg hst hst2 hpl
theorem pe_isi_str (B : Bt X.mg) (he : PE X e te) (hgx : Gl X "str" := by rfl) (hg : Gl X "isinstance" := by rfl)
    (hst : starEach (e :: [.Name "str" p2]) X.env = (false, eval e X.env) :: starEach [.Name "str" p2] X.env := by rfl) (hst2 : starEach (.Name "str" p2 :: []) X.env = (false, eval (.Name "str" p2) X.env) :: starEach [] X.env := by rfl)
    (hpl : (backTo pos (starEach [.Name "str" p2] X.env)).any (·.1) = false := by rfl) : PE X (.Call (.Name "isinstance" p) [e, .Name "str" p2] [] pos) (tIsi X.K "str" te) :=
  pe_isi B B.str bt_str (by decide) (by decide) hgx he hg hst hst2 hpl
theorem pe_isi_tuple (B : Bt X.mg) (he : PE X e te) (hgx : Gl X "tuple" := by rfl) (hg : Gl X "isinstance" := by rfl)
    (hst : starEach (e :: [.Name "tuple" p2]) X.env = (false, eval e X.env) :: starEach [.Name "tuple" p2] X.env := by rfl) (hst2 : starEach (.Name "tuple" p2 :: []) X.env = (false, eval (.Name "tuple" p2) X.env) :: starEach [] X.env := by rfl)
    (hpl : (backTo pos (starEach [.Name "tuple" p2] X.env)).any (·.1) = false := by rfl) : PE X (.Call (.Name "isinstance" p) [e, .Name "tuple" p2] [] pos) (tIsi X.K "tuple" te) :=
  pe_isi B B.tuple bt_tuple (by decide) (by decide) hgx he hg hst hst2 hpl
theorem pe_isi_list (B : Bt X.mg) (he : PE X e te) (hgx : Gl X "list" := by rfl) (hg : Gl X "isinstance" := by rfl)
    (hst : starEach (e :: [.Name "list" p2]) X.env = (false, eval e X.env) :: starEach [.Name "list" p2] X.env := by rfl) (hst2 : starEach (.Name "list" p2 :: []) X.env = (false, eval (.Name "list" p2) X.env) :: starEach [] X.env := by rfl)
    (hpl : (backTo pos (starEach [.Name "list" p2] X.env)).any (·.1) = false := by rfl) : PE X (.Call (.Name "isinstance" p) [e, .Name "list" p2] [] pos) (tIsi X.K "list" te) :=
  pe_isi B B.list bt_list (by decide) (by decide) hgx he hg hst hst2 hpl
end
/-- the kind of a tree -/
def T.ty : T → String
  | .non => "NoneType"
  | .bl _ => "bool"
  | .int _ => "int"
  | .str _ => "str"
  | .tup _ => "tuple"
theorem Im.ty {K : PySem.W.Frag} {H : Hp} {v : V} {t : T} (h : Im K H v t) : TyX K H v (.type t.ty) := by
  cases h with
  | non => exact .base .non
  | bl b => exact .base (.bl b)
  | int i => exact .base (.int i)
  | str x => exact .base (.str x)
  | tup q h =>
    rcases q with (q | ⟨o, q⟩) | ⟨o, its, n, q, c, _⟩
    · exact .base (.tup q)
    · exact .fTuple q
    · exact .kTuple q c
section
variable {K : PySem.W.Frag} {σ : L2.St} {H : Hp} {ta : TE} {t : T} {b : Bool}
theorem e_isi {n : String} (ha : Ev K ta σ H (.im t)) (hb : kitB t.ty n = some b) : Ev K (tIsi K n ta) σ H (.im (.bl b)) := fun H1 s Q q =>
  ha H1 s _ fun x H2 s2 hx => ⟨x, .ty n, .type t.ty, .type n, b, rfl, .ty n, Im.ty hx, kit_ty hb, q _ _ s2 (Im.bl _)⟩
end
theorem kit_int_int : kitB "int" "int" = some true := by decide +kernel
theorem kit_bool_int : kitB "bool" "int" = some true := by decide +kernel
theorem kit_str_int : kitB "str" "int" = some false := by decide +kernel
theorem kit_tup_int : kitB "tuple" "int" = some false := by decide +kernel
theorem kit_non_int : kitB "NoneType" "int" = some false := by decide +kernel
theorem kit_int_bool : kitB "int" "bool" = some false := by decide +kernel
theorem kit_bool_bool : kitB "bool" "bool" = some true := by decide +kernel
theorem kit_str_str : kitB "str" "str" = some true := by decide +kernel
theorem kit_tup_str : kitB "tuple" "str" = some false := by decide +kernel
theorem kit_tup_tup : kitB "tuple" "tuple" = some true := by decide +kernel
theorem kit_tup_list : kitB "tuple" "list" = some false := by decide +kernel
end TW

set_option Elab.async false
set_option linter.all false
set_option maxRecDepth 100000
set_option maxHeartbeats 4000000
namespace TW
open PySem PySem.Spec PyProof.Rows L2
/-! ### what is never reached -/
theorem pe_dead {X : Cx} {e : Expr} : PE X e (fun _ _ _ => False) := ⟨fun _ _ _ _ _ _ h => False.elim h⟩
theorem ps_dead {X : Cx} {st : Stmt} : PS X st (fun _ _ _ => False) := ⟨fun _ _ _ _ _ _ h => False.elim h⟩
/-! ### calls with the keyword order -/
structure Gk (P : Program) (w : World) (K : PySem.W.Frag) (mg : Str → Option Value) (base : Heap) (x : Str) (k n : Nat) (sp : Sp) : Prop where
  ex : ∃ (f : Addr) (fd : FuncData) (ps : List Str) (g : List Value → List Value → List Value), FnOk P w K mg base (L2.CX P w) k f fd ps sp ∧ mg x = some (.ref f) ∧ PySem.W.keepIn K (.ref f) = true ∧ KBn K fd ps n [Str.ofString "order"] g (fun vs zs => vs ++ zs)
def tCallKS (n m : Nat) (sp : Sp) (E : L2.St → XK) (t tk : TA) : TE := fun σ H Q => t σ H fun vs H1 => tk σ H1 fun zs H2 => vs.length = n ∧ zs.length = m ∧ sp (vs ++ zs) H2 Q (E σ)
section
variable {X : Cx} {x : Str} {k n : Nat} {sp : Sp} {p pos : Pos} {e : Expr} {es : List Expr} {kws : List Keyword} {t tk : TA} {W : WX}
theorem pe_gk (G : Gk X.prog X.w X.K X.mg X.base x k n sp) (hr : Room k X.A) (tw : Takes X W) (ha : PA X (e :: es) t) (hkw : PK X kws tk) (hg : Gl X x := by rfl)
    (hall : (backToKw pos (keywordEach kws X.env)).all (·.1.isSome) = true := by rfl) (hks : (backToKw pos (keywordEach kws X.env)).filterMap (·.1) = [Str.ofString "order"] := by rfl)
    (hdb : (x == ("__debug__" : Str)) = false := by decide) (he : starEach (e :: es) X.env = (false, eval e X.env) :: starEach es X.env := by rfl)
    (hpl : ((backTo pos (starEach (e :: es) X.env)).any (·.1) || (backToKw pos (keywordEach kws X.env)).any (·.1.isNone)) = false := by rfl) :
    PE X (.Call (.Name x p) (e :: es) kws pos) (tCallKS n 1 sp (WE W) t tk) := by
  obtain ⟨f, fd, ps, g, F, hm, hk, hb⟩ := G.ex
  refine ⟨fun pins s σ H Q I h => ?_⟩
  refine wpAny_Call_Name_kw (ld_glob I hg hm ?_ hdb)
  refine PySem.W.callWith_KW (h₀ := X.base) I.ok.mod.kin hk hall (thn (ha.run pos pins s σ H _ I h) fun us s1 ⟨vs, H1, I1, r, q⟩ => ?_) hpl he
  refine thn (hkw.run pos pins s1 σ H1 _ I1 q) fun ws s2 ⟨zs, H2, I2, rz, l1, l2, q2⟩ => ⟨I2.kIn, ?_⟩
  rw [hks]
  have r2 := hb.rel r rz
  refine wpAny_call (codeAny_mono (F.run X.A X.stack s2 H2 ⟨us, [Str.ofString "order"].zip ws⟩ (g us ws) (vs ++ zs) Q (WE W σ) hr I2.env0 (hb.to s2 us ws I2.kIn (r.length.symm.trans l1) (rz.length.symm.trans l2)) r2 q2) fun r s' hq => ?_)
  cases r with
  | error e => exact passAt tw σ pins H2 s2 e s' I2 hq
  | ok fl =>
    cases fl with
    | ret u => exact I2.after hq
    | next => exact False.elim hq
    | brk => exact False.elim hq
    | cont => exact False.elim hq
end
/-! ### Floor(rows) -/
structure Mkf (P : Program) (w : World) (K : PySem.W.Frag) (mg : Str → Option Value) (base : Heap) (CF : Addr) (x : Str) (k : Nat) (sp : Sp) : Prop where
  ex : ∃ (f : Addr) (fd : FuncData) (ps : List Str), Mk K CF f ∧ FnOk P w K mg base (L2.CX P w) k f fd ps sp ∧ mg x = some (.ref CF) ∧ Binds K fd ps []
theorem pe_mk {X : Cx} {CF : Addr} {x : Str} {k j : Nat} {sp : Sp} {p pos : Pos} {e : Expr} {es : List Expr} {t : TA} (G : Mkf X.prog X.w X.K X.mg X.base CF x k sp) (hr : Room (k + 1) X.A) (ha : PA X (e :: es) t) (hg : Gl X x := by rfl)
    (hdb : (x == ("__debug__" : Str)) = false := by decide) (he : starEach (e :: es) X.env = (false, eval e X.env) :: starEach es X.env := by rfl) (hpl : (backTo pos (starEach es X.env)).any (·.1) = false := by rfl) :
    PE X (.Call (.Name x p) (e :: es) [] pos) (tMake CF sp [] E0 t) := by
  obtain ⟨f, fd, ps, M, F, hm, b⟩ := G.ex
  exact pe_make M F hr hg hm b .nil passL ha hdb he hpl
/-! ### raise X(..) of an own class with fields -/
/-- an __init__ that stores its arguments, field by field -/
def spInit (K : PySem.W.Frag) (fs : List Str) : Sp := fun vs H Q _ => ∃ (a C : Addr) (ys : List V), vs = .ref a :: ys ∧ ys.length = fs.length ∧ OexC K C ∧ (∀ f ∈ fs, PySem.W.findIn K (.ref C) f = some none) ∧ H a = some (exo a C none) ∧
  ∀ dx, H dx = none → dx ≠ a → Q .non (upd (upd H dx (exd dx (fs.zip ys).reverse)) a (exo a C (some dx)))
theorem spInit_len {K : PySem.W.Frag} {fs : List Str} {vs : List V} {H : Hp} {Q : VK} {E : XK} {n : Nat} (h : spInit K fs vs H Q E) (hn : fs.length + 1 = n) : vs.length = n := by
  obtain ⟨a, C, ys, rfl, hl, _⟩ := h
  rw [List.length_cons, hl, hn]
structure Xf (P : Program) (w : World) (K : PySem.W.Frag) (mg : Str → Option Value) (base : Heap) (x : Str) (k : Nat) (fs : List Str) : Prop where
  ex : ∃ (C fI : Addr) (fd : FuncData) (ps : List Str), OexC K C ∧ PySem.W.findIn K (.ref C) "__init__" = some (some (.ref fI)) ∧ PySem.W.typeIn K (.ref fI) = some (.type "function") ∧ FnOk P w K mg base (L2.CX P w) k fI fd ps (spInit K fs) ∧ Binds K fd ps [] ∧ mg x = some (.ref C) ∧ ∀ f ∈ fs, PySem.W.findIn K (.ref C) f = some none
def tRz (K : PySem.W.Frag) (mg : Str → Option Value) (x : Str) (fs : List Str) (W : WX) (ta : TA) : TS := fun _ σ H => ∃ C, mg x = some (.ref C) ∧ tMkO C (spInit K fs) [] ta σ H fun cls d H' => W cls d σ H'
section
variable {X : Cx} {x : Str} {k : Nat} {fs : List Str} {p pos pos2 : Pos} {e : Expr} {es : List Expr} {ta : TA} {W : WX}
theorem ps_rz (G : Xf X.prog X.w X.K X.mg X.base x k fs) (hr : Room (k + 1) X.A) (hc : X.calm = true) (tk : Takes X W) (ha : PA X (e :: es) ta) (hg : Gl X x := by rfl)
    (hdb : (x == ("__debug__" : Str)) = false := by decide) (he : starEach (e :: es) X.env = (false, eval e X.env) :: starEach es X.env := by rfl) (hpl : (backTo pos (starEach es X.env)).any (·.1) = false := by rfl) :
    PS X (.Raise (some (.Call (.Name x p) (e :: es) [] pos)) none pos2) (tRz X.K X.mg x fs W ta) := by
  obtain ⟨C, fI, fd, ps, T, iC, tI, F, b, hm, no⟩ := G.ex
  refine ⟨fun pins s σ H D I q => ?_⟩
  obtain ⟨C', hm', q⟩ := q
  rw [hm] at hm'
  cases hm'
  exact (ps_raise (pos := pos2) hc tk (pmk_oex (p := p) (pos := pos) T iC tI F hr b .nil passL hg hm ha hdb he hpl)).run pins s σ H D I q
end
theorem fresh_of {H : Hp} {a : Addr} {o : HO} {b : Addr} (h : upd H a o b = none) : b ≠ a ∧ H b = none := by
  have n : b ≠ a := fun e => by
    rw [e, upd_same] at h
    cases h
  exact ⟨n, by rw [upd_ne n] at h; exact h⟩
/-- what such a raise lets out -/
theorem s_rz {P : Program} {w : World} {K : PySem.W.Frag} {mg : Str → Option Value} {base : Heap} {x : Str} {k : Nat} {fs : List Str} {ta : TA} {W : WX} {σ : L2.St} {H : Hp} {De : Ends} {ts : List T} (G : Xf P w K mg base x k fs) (hn : fs.Nodup) (hs : fs.length ≤ 900)
    (h : EvA K ta σ H (ts.map D.im)) (hl : ts.length = fs.length) (q : ∀ C d vs H', mg x = some (.ref C) → Same H H' → H d = none → H' d = some (.xd (fs.zip vs).reverse) → Ims K H' vs ts → W (.ref C) (some d) σ H') : tRz K mg x fs W ta De σ H := by
  obtain ⟨C, fI, fd, ps, T, iC, tI, F, b, hm, no⟩ := G.ex
  refine ⟨C, hm, h H (Same.refl H) _ fun vs H1 s1 hv => ?_⟩
  have hi := iss_im (vs := []) hv
  have len : vs.length = fs.length := hi.length.trans hl
  refine ⟨by omega, fun a ha => ⟨a, C, vs, by rw [List.append_nil], len, T, no, upd_same, fun dx hdx na => ?_⟩⟩
  obtain ⟨_, hd1⟩ := fresh_of hdx
  refine ⟨rfl, dx, (fs.zip vs).reverse, upd_same, ?_, hd1, ?_⟩
  · rw [upd_ne na, upd_same]
  · refine q C dx vs _ hm ?_ (s1.free hd1) upd_same ?_
    · intro b o e
      have e1 := s1 _ _ e
      rw [upd_ne (ne_of_none e1 hd1), del_ne (ne_of_none e1 ha), upd_ne (ne_of_none e1 ha), upd_ne (ne_of_none e1 hd1), upd_ne (ne_of_none e1 ha)]
      exact e1
    · refine hi.mono fun b xs r => ?_
      have hb : H1 b ≠ none := by
        rcases r with r | ⟨o, r⟩ <;> rw [r] <;> simp
      have n1 : b ≠ dx := fun e => hb (e ▸ hd1)
      have n2 : b ≠ a := fun e => hb (e ▸ ha)
      have e : upd (del (upd (upd (upd H1 a (exo a C none)) dx (exd dx (fs.zip vs).reverse)) a (exo a C (some dx))) a) dx (.xd (fs.zip vs).reverse) b = H1 b := by
        rw [upd_ne n1, del_ne n2, upd_ne n2, upd_ne n1, upd_ne n2]
      unfold Rd
      rw [e]
      exact r
end TW

set_option Elab.async false
set_option linter.all false
set_option maxRecDepth 100000
set_option maxHeartbeats 4000000
namespace TW
open PySem PySem.Spec PyProof.Rows L2
/-! ### what is walked, told by its trees -/
def Walks (K : PySem.W.Frag) (J : It) (H : Hp) (ts : List T) : Prop := ∀ i H', Stay K H H' → (∀ t, ts[i]? = some t → J.go i H' ∧ ∀ x H'', J.yld i H' x H'' → Same H' H'' ∧ Im K H'' x t) ∧ (ts.length = i → J.stop i H')
def EvI (K : PySem.W.Frag) (wi : TI) (σ : L2.St) (H : Hp) (ts : List T) : Prop := ∀ H1, Same H H1 → ∀ R : It → Hp → Prop, (∀ J H2, Same H1 H2 → Walks K J H2 ts → R J H2) → wi σ H1 R
theorem Stay.trans {K : PySem.W.Frag} {H H1 H2 : Hp} (a : Stay K H H1) (b : Stay K H1 H2) : Stay K H H2 := ⟨fun x xs h => b.1 x xs (a.1 x xs h), a.2.trans b.2⟩
theorem EvI.mono {K : PySem.W.Frag} {wi : TI} {σ : L2.St} {H H' : Hp} {ts : List T} (s : Same H H') (h : EvI K wi σ H ts) : EvI K wi σ H' ts := fun H1 s1 => h H1 (s.trans s1)
theorem ei_eq {K : PySem.W.Frag} {wi : TI} {σ : L2.St} {H : Hp} {ts us : List T} (h : EvI K wi σ H ts) (e : ts = us) : EvI K wi σ H us := e ▸ h
section
variable {K : PySem.W.Frag} {σ : L2.St} {H : Hp} {te tl : TE} {tt : TT} {args : TA} {ts : List T} {wi : TI}
/-- the same, what is walked stands already -/
def EvI0 (K : PySem.W.Frag) (wi : TI) (σ : L2.St) (H : Hp) (ts : List T) : Prop := ∀ H1, Same H H1 → ∀ R : It → Hp → Prop, (∀ J H2, Same H1 H2 → Walks K J H ts → R J H2) → wi σ H1 R
theorem walks_list {a : Addr} {xs : List V} (h : SqL K H a xs) (hi : Ims K H xs ts) : Walks K (Itl K a) H ts := fun i H' s => by
  have h2 := s.1 _ _ h
  refine ⟨fun t ht => ?_, fun hl => ⟨xs, h2, by rw [hi.length]; exact Nat.le_of_eq hl⟩⟩
  obtain ⟨x, hx, _⟩ := hi.get' ht
  refine ⟨⟨xs, x, h2, hx⟩, fun y H'' ⟨e, q⟩ => ?_⟩
  subst e
  obtain ⟨t', ht', im⟩ := hi.get (q xs h2)
  rw [ht] at ht'
  cases ht'
  exact ⟨Same.refl _, im.mono s.2⟩
theorem walks_tup {a : Addr} {xs : List V} (h : SqT K H a xs) (hi : Ims K H xs ts) : Walks K (Itt K a) H ts := fun i H' s => by
  have h2 := s.2.sq h
  refine ⟨fun t ht => ?_, fun hl => ⟨xs, h2, by rw [hi.length]; exact Nat.le_of_eq hl⟩⟩
  obtain ⟨x, hx, _⟩ := hi.get' ht
  refine ⟨⟨xs, x, h2, hx⟩, fun y H'' ⟨e, q⟩ => ?_⟩
  subst e
  obtain ⟨t', ht', im⟩ := hi.get (q xs h2)
  rw [ht] at ht'
  cases ht'
  exact ⟨Same.refl _, im.mono s.2⟩
theorem i_seq (h : Ev K tl σ H (.sq ts)) : EvI K (iSeq K tl) σ H ts := fun H1 s R q => h H1 s _ fun v H2 s2 hv => by
  obtain ⟨a, xs, e, hq, hi⟩ := hv
  refine ⟨a, e, ?_⟩
  rcases hq with hq | hq
  · exact .inl ⟨⟨xs, hq⟩, q _ _ s2 (walks_list hq hi)⟩
  · exact .inr ⟨⟨xs, hq⟩, q _ _ s2 (walks_tup hq hi)⟩
theorem walks_rng {lo : Int} {n : Nat} : Walks K (Itr lo n) H ((List.range n).map fun i : Nat => T.int (lo + i)) := fun i H' s => by
  refine ⟨fun t ht => ?_, fun hl => by simp at hl; exact Nat.le_of_eq hl⟩
  rw [List.getElem?_map] at ht
  obtain ⟨k, hk, rfl⟩ := Option.map_eq_some_iff.mp ht
  have hi : i < n := by
    have := (List.getElem?_eq_some_iff.mp hk).1
    simpa using this
  have : k = i := by
    rw [List.getElem?_range hi] at hk
    exact (Option.some.inj hk).symm
  subst this
  refine ⟨hi, fun x H'' ⟨e, ex⟩ => ?_⟩
  subst e ex
  exact ⟨Same.refl _, .int _⟩
theorem i_rng1 {j : Int} (h : EvA K args σ H [.im (.int j)]) (hj : -(2 ^ 62) ≤ j ∧ j < 2 ^ 62) : EvI K (iRng1 args) σ H ((List.range j.toNat).map fun i : Nat => T.int i) := fun H1 s R q => h H1 s _ fun vs H2 s2 hv => by
  obtain ⟨v, rfl, h1⟩ := hv.one_inv
  refine ⟨j, by rw [h1.iv], hj.1, hj.2, q _ _ s2 ?_⟩
  have := walks_rng (K := K) (H := H2) (lo := 0) (n := j.toNat)
  simp only [Int.zero_add] at this
  exact this
theorem i_rng2 {lo hi : Int} (h : EvA K args σ H [.im (.int lo), .im (.int hi)]) (hj : -(2 ^ 62) ≤ lo ∧ lo < 2 ^ 62 ∧ -(2 ^ 62) ≤ hi ∧ hi < 2 ^ 62) : EvI K (iRng2 args) σ H ((List.range (hi - lo).toNat).map fun i : Nat => T.int (lo + i)) := fun H1 s R q => h H1 s _ fun vs H2 s2 hv => by
  obtain ⟨v, u, rfl, h1, h2⟩ := hv.two_inv
  exact ⟨lo, hi, by rw [h1.iv, h2.iv], hj, q _ _ s2 walks_rng⟩
theorem i0_var {v : V} {k : Nat} (hσ : σ[k]? = some (some v)) (h : Is K H v (.sq ts)) : EvI0 K (iSeq K (tVar k)) σ H ts := fun H1 s R q => by
  obtain ⟨a, xs, e, hq, hi⟩ := h
  refine ⟨v, hσ, a, e, ?_⟩
  rcases hq with hq | hq
  · exact .inl ⟨⟨xs, L2.Same.sqL s hq⟩, q _ _ (Same.refl _) (walks_list hq hi)⟩
  · exact .inr ⟨⟨xs, L2.Same.sqT s hq⟩, q _ _ (Same.refl _) (walks_tup hq hi)⟩
theorem i0_rng1 {j : Int} (h : EvA K args σ H [.im (.int j)]) (hj : -(2 ^ 62) ≤ j ∧ j < 2 ^ 62) : EvI0 K (iRng1 args) σ H ((List.range j.toNat).map fun i : Nat => T.int i) := fun H1 s R q => h H1 s _ fun vs H2 s2 hv => by
  obtain ⟨v, rfl, h1⟩ := hv.one_inv
  refine ⟨j, by rw [h1.iv], hj.1, hj.2, q _ _ s2 ?_⟩
  have := walks_rng (K := K) (H := H) (lo := 0) (n := j.toNat)
  simp only [Int.zero_add] at this
  exact this
theorem filter_take_succ' {α : Type} {p : α → Bool} {ts : List α} {i : Nat} {t : α} (h : ts[i]? = some t) : (ts.take (i + 1)).filter p = if p t then (ts.take i).filter p ++ [t] else (ts.take i).filter p := filter_take_succ h
/-- [e for x in xs if p] -/
theorem n_gen {α : Type} {enc : α → T} {xs : List α} {p : α → Bool} {f : α → T} {g : TG} {vs : List Nat} (h : EvI K wi σ H (xs.map enc)) (hlen : xs.length ≤ 100000)
    (hx : ∀ (i : Nat) a x H', xs[i]? = some a → Same H H' → Im K H' x (enc a) → ∃ σ2, (∀ k : L2.St → Hp → Prop, k σ2 H' → g x (wipe σ vs) H' k) ∧ wipe σ2 vs = wipe σ vs ∧ EvT K tt σ2 H' (p a) ∧ (p a = true → Ev K te σ2 H' (.im (f a)))) :
    EvN K (tLc wi g tt te vs) σ H ((xs.filter p).map f) := fun Ha sa Q q => h Ha sa _ fun J H1 s1 hw D hD => by
  let Inv : Nat → Hp → Prop := fun i H' => Same H1 H' ∧ ∃ acc, H' D = some (.lst acc) ∧ acc.length ≤ i ∧ Ims K H' acc (((xs.take i).filter p).map f)
  refine ⟨fun i m H' => m = xs.length - i ∧ i ≤ xs.length ∧ Inv i H', ⟨xs.length, by simp, Nat.zero_le _, same_new hD, [], upd_same, Nat.le_refl _, .nil⟩, ?_⟩
  rintro i m H' ⟨rfl, hi, s2, acc, hacc, hl, hims⟩
  obtain ⟨w1, w2⟩ := hw i H' s2.stay
  by_cases c : i < xs.length
  · obtain ⟨a, ha⟩ : ∃ a, xs[i]? = some a := ⟨_, List.getElem?_eq_getElem c⟩
    obtain ⟨go, wy⟩ := w1 (enc a) (by rw [List.getElem?_map, ha] <;> rfl)
    refine .inr ⟨go, Inv (i + 1), fun H'' z => ⟨xs.length - (i + 1), by omega, rfl, c, z⟩, fun x H'' y => ?_⟩
    obtain ⟨s3, im⟩ := wy x H'' y
    obtain ⟨σ2, hg, hw2, hp, hf⟩ := hx i a x H'' ha (sa.trans (s1.trans (s2.trans s3))) im
    refine hg _ ⟨hw2, hp H'' (Same.refl H'') _ fun H3 s4 => ?_⟩
    cases hpt : p a with
    | false =>
      refine iteF ⟨s2.trans (s3.trans s4), acc, (s3.trans s4) _ _ hacc, by omega, ?_⟩
      rw [filter_take_succ ha, hpt]
      simpa using L2.Same.ims (s3.trans s4) hims
    | true =>
      refine iteT (hf hpt H3 s4 _ fun y H4 s5 hy => ?_)
      have hacc4 := s5 _ _ ((s3.trans s4) _ _ hacc)
      refine ⟨acc, hacc4, lt_line (by omega), same_mut (s2.trans (s3.trans (s4.trans s5))) hD, acc ++ [y], upd_same, by simp; omega, ?_⟩
      have k1 : Keep H4 (upd H4 D (.lst (acc ++ [y]))) := keep_lst hacc4
      have i1 := (L2.Same.ims (s3.trans (s4.trans s5)) hims).mono k1
      have i2 : Im K (upd H4 D (.lst (acc ++ [y]))) y (f a) := Im.mono k1 hy
      rw [filter_take_succ ha, hpt]
      simpa using i1.snoc i2
  · have e : i = xs.length := by omega
    subst e
    rw [List.take_length] at hims
    exact .inl ⟨w2 (by simp), q D acc H' (s1.free hD) (s1.trans s2) hacc hims⟩
theorem n_genA {α : Type} {enc : α → T} {xs : List α} {f : α → T} {g : TG} {vs : List Nat} (h : EvI K wi σ H (xs.map enc)) (hlen : xs.length ≤ 100000)
    (hx : ∀ (i : Nat) a x H', xs[i]? = some a → Same H H' → Im K H' x (enc a) → ∃ σ2, (∀ k : L2.St → Hp → Prop, k σ2 H' → g x (wipe σ vs) H' k) ∧ wipe σ2 vs = wipe σ vs ∧ Ev K te σ2 H' (.im (f a))) :
    EvN K (tLc wi g tYes te vs) σ H (xs.map f) := by
  have := n_gen (p := fun _ => true) (f := f) (tt := tYes) (te := te) (g := g) (vs := vs) h hlen fun i a x H' ht s hxt => by
    obtain ⟨σ2, h1, h2, h3⟩ := hx i a x H' ht s hxt
    exact ⟨σ2, h1, h2, t_yes, fun _ => h3⟩
  rw [List.filter_eq_self.mpr (fun _ _ => rfl)] at this
  exact this
/-- [e for x in xs for y in ys if p] -/
theorem n_gen2 {α β : Type} {enc : α → T} {xs : List α} {enc1 : α → β → T} {ys : α → List β} {p : α → β → Bool} {f : α → β → T} {g g1 : TG} {wi1 : TI} {vs vs1 : List Nat} (h : EvI K wi σ H (xs.map enc)) (hlen : xs.length ≤ 300) (hn : ∀ a, (ys a).length ≤ 300)
    (hx : ∀ (i : Nat) a x H', xs[i]? = some a → Same H H' → Im K H' x (enc a) → ∃ σ2, (∀ k : L2.St → Hp → Prop, k σ2 H' → g x (wipe σ vs) H' k) ∧ wipe σ2 vs = wipe σ vs ∧ EvI0 K wi1 σ2 H ((ys a).map (enc1 a)) ∧
      ∀ (j : Nat) b y H'', (ys a)[j]? = some b → Same H H'' → Im K H'' x (enc a) → Im K H'' y (enc1 a b) → ∃ σ3, (∀ k : L2.St → Hp → Prop, k σ3 H'' → g1 y (wipe σ2 vs1) H'' k) ∧ wipe σ3 vs1 = wipe σ2 vs1 ∧ EvT K tt σ3 H'' (p a b) ∧ (p a b = true → Ev K te σ3 H'' (.im (f a b)))) :
    EvN K (tLc2 wi g tYes wi1 g1 tt te vs vs1) σ H (xs.flatMap fun a => ((ys a).filter (p a)).map (f a)) := fun Ha sa Q q => h Ha sa _ fun J H1 s1 hw D hD => by
  let Inv : Nat → Hp → Prop := fun i H' => Same H1 H' ∧ ∃ acc, H' D = some (.lst acc) ∧ acc.length ≤ 300 * i ∧ Ims K H' acc ((xs.take i).flatMap fun a => ((ys a).filter (p a)).map (f a))
  refine ⟨fun i m H' => m = xs.length - i ∧ i ≤ xs.length ∧ Inv i H', ⟨xs.length, by simp, Nat.zero_le _, same_new hD, [], upd_same, Nat.le_refl _, .nil⟩, ?_⟩
  rintro i m H' ⟨rfl, hi, s2, acc, hacc, hl, hims⟩
  obtain ⟨w1, w2⟩ := hw i H' s2.stay
  by_cases c : i < xs.length
  · obtain ⟨a, ha⟩ : ∃ a, xs[i]? = some a := ⟨_, List.getElem?_eq_getElem c⟩
    obtain ⟨go, wy⟩ := w1 (enc a) (by rw [List.getElem?_map, ha] <;> rfl)
    refine .inr ⟨go, Inv (i + 1), fun H'' z => ⟨xs.length - (i + 1), by omega, rfl, c, z⟩, fun x H'' y => ?_⟩
    obtain ⟨s3, im⟩ := wy x H'' y
    obtain ⟨σ2, hg, hw2, hin, hy⟩ := hx i a x H'' ha (sa.trans (s1.trans (s2.trans s3))) im
    refine hg _ ⟨hw2, ?_⟩
    unfold tYes
    dsimp only
    rw [if_pos rfl]
    refine hin H'' (sa.trans (s1.trans (s2.trans s3))) _ fun J1 H4 s4 hv => ?_
    have hacc4 := (s3.trans s4) _ _ hacc
    let Inv1 : Nat → Hp → Prop := fun j H' => Same H1 H' ∧ Im K H' x (enc a) ∧ ∃ acc1, H' D = some (.lst acc1) ∧ acc1.length ≤ 300 * i + j ∧ Ims K H' acc1 (((xs.take i).flatMap fun a => ((ys a).filter (p a)).map (f a)) ++ (((ys a).take j).filter (p a)).map (f a))
    refine ⟨fun j m H' => m = (ys a).length - j ∧ j ≤ (ys a).length ∧ Inv1 j H', ⟨(ys a).length, by simp, Nat.zero_le _, s2.trans (s3.trans s4), L2.Same.im s4 im, acc, hacc4, hl, by simpa using L2.Same.ims (s3.trans s4) hims⟩, ?_⟩
    rintro j m H5 ⟨rfl, hj, s5, im5, acc1, hacc1, hl1, hims1⟩
    obtain ⟨v1, v2⟩ := hv j H5 (sa.trans (s1.trans s5)).stay
    by_cases c2 : j < (ys a).length
    · obtain ⟨b, hb⟩ : ∃ b, (ys a)[j]? = some b := ⟨_, List.getElem?_eq_getElem c2⟩
      obtain ⟨go1, wy1⟩ := v1 (enc1 a b) (by rw [List.getElem?_map, hb] <;> rfl)
      refine .inr ⟨go1, Inv1 (j + 1), fun H'' z => ⟨(ys a).length - (j + 1), by omega, rfl, c2, z⟩, fun y' H6 y1 => ?_⟩
      obtain ⟨s6, im6⟩ := wy1 y' H6 y1
      obtain ⟨σ3, hg3, hw3, hp, hf⟩ := hy j b y' H6 hb (sa.trans (s1.trans (s5.trans s6))) (L2.Same.im s6 im5) im6
      refine hg3 _ ⟨hw3, hp H6 (Same.refl H6) _ fun H7 s7 => ?_⟩
      cases hpt : p a b with
      | false =>
        refine iteF ⟨s5.trans (s6.trans s7), L2.Same.im (s6.trans s7) im5, acc1, (s6.trans s7) _ _ hacc1, by omega, ?_⟩
        rw [filter_take_succ hb, hpt]
        simpa using L2.Same.ims (s6.trans s7) hims1
      | true =>
        refine iteT (hf hpt H7 s7 _ fun z H8 s8 hz => ?_)
        have hacc8 := s8 _ _ ((s6.trans s7) _ _ hacc1)
        have k1 : Keep H8 (upd H8 D (.lst (acc1 ++ [z]))) := keep_lst hacc8
        have hnn := hn a
        refine ⟨acc1, hacc8, lt_line (by omega), same_mut (s5.trans (s6.trans (s7.trans s8))) hD, (L2.Same.im (s6.trans (s7.trans s8)) im5).mono k1, acc1 ++ [z], upd_same, by simp; omega, ?_⟩
        have i1 := (L2.Same.ims (s6.trans (s7.trans s8)) hims1).mono k1
        have i2 : Im K (upd H8 D (.lst (acc1 ++ [z]))) z (f a b) := Im.mono k1 hz
        rw [filter_take_succ hb, hpt]
        simpa using i1.snoc i2
    · have e : j = (ys a).length := by omega
      subst e
      refine .inl ⟨v2 (by simp), s5, acc1, hacc1, by have := hn a; omega, ?_⟩
      rw [List.take_length] at hims1
      rw [List.take_add_one, ha, List.flatMap_append]
      simpa using hims1
  · have e : i = xs.length := by omega
    subst e
    rw [List.take_length] at hims
    exact .inl ⟨w2 (by simp), q D acc H' (s1.free hD) (s1.trans s2) hacc hims⟩
/-! ### for -/
variable {g : TG} {tb : TS} {nx bk ct : L2.St → Hp → Prop} {rt : VK}
/-- for over what is told by its trees -/
theorem for_it {α : Type} {enc : α → T} {xs : List α} (K : PySem.W.Frag) (h : EvI K wi σ H (xs.map enc)) (q : ∀ H1, Same H H1 → ∃ Pv : Nat → L2.St → Hp → Prop, Pv 0 σ H1 ∧ (∀ i σ' H', i ≤ xs.length → Pv i σ' H' → Stay K H1 H') ∧
    (∀ i a x σ' H' H'', xs[i]? = some a → Pv i σ' H' → Same H' H'' → Im K H'' x (enc a) → g x σ' H'' fun σ2 H2 => tb ⟨Pv (i + 1), rt, nx, Pv (i + 1)⟩ σ2 H2) ∧ ∀ σ' H', Pv xs.length σ' H' → nx σ' H') :
    tFor wi g tb ⟨nx, rt, bk, ct⟩ σ H := h H (Same.refl H) _ fun J H1 s1 hw => by
  obtain ⟨Pv, h0, hl, hs, hd⟩ := q H1 s1
  refine ⟨fun i m σ' H' => m = xs.length - i ∧ i ≤ xs.length ∧ Pv i σ' H', ⟨xs.length, by simp, Nat.zero_le _, h0⟩, ?_⟩
  rintro i m σ' H' ⟨rfl, hi, pv⟩
  obtain ⟨w1, w2⟩ := hw i H' (hl i σ' H' hi pv)
  by_cases c : i < xs.length
  · obtain ⟨a, ha⟩ : ∃ a, xs[i]? = some a := ⟨_, List.getElem?_eq_getElem c⟩
    obtain ⟨go, wy⟩ := w1 (enc a) (by rw [List.getElem?_map, ha] <;> rfl)
    refine .inr ⟨go, Pv (i + 1), fun σ'' H'' z => ⟨xs.length - (i + 1), by omega, rfl, c, z⟩, fun x H'' y => ?_⟩
    obtain ⟨s3, im⟩ := wy x H'' y
    exact hs i a x σ' H' H'' ha pv s3 im
  · have e : i = xs.length := by omega
    subst e
    exact .inl ⟨w2 (by simp), hd _ _ pv⟩
end
/-! ### targets -/
section
variable {K : PySem.W.Frag} {σ : L2.St} {H : Hp} {x : V} {t u z : T}
theorem g_pair {i j : Nat} (h : Im K H x (.tup [t, u])) : ∃ v w, Im K H v t ∧ Im K H w u ∧ ∀ k : L2.St → Hp → Prop, k ((σ.set i (some v)).set j (some w)) H → gTup K 2 (gCons (gName i) (gCons (gName j) gNil)) x σ H k := by
  obtain ⟨a, vs, rfl, hq, hi⟩ := h.tup_inv
  obtain ⟨v, w, rfl, h1, h2⟩ := hi.two_inv
  exact ⟨v, w, h1, h2, fun k q => ⟨a, _, rfl, hq, rfl, v, _, rfl, w, _, rfl, rfl, q⟩⟩
theorem g_three {i j l : Nat} (h : Im K H x (.tup [t, u, z])) : ∃ v w y, Im K H v t ∧ Im K H w u ∧ Im K H y z ∧ ∀ k : L2.St → Hp → Prop, k (((σ.set i (some v)).set j (some w)).set l (some y)) H → gTup K 3 (gCons (gName i) (gCons (gName j) (gCons (gName l) gNil))) x σ H k := by
  obtain ⟨a, vs, rfl, hq, hi⟩ := h.tup_inv
  obtain ⟨v, w, y, rfl, h1, h2, h3⟩ := hi.three_inv
  exact ⟨v, w, y, h1, h2, h3, fun k q => ⟨a, _, rfl, hq, rfl, v, _, rfl, w, _, rfl, y, _, rfl, rfl, q⟩⟩
/-- of whole numbers -/
theorem g_ii {i j : Nat} {m n : Int} (h : Im K H x (.tup [.int m, .int n])) (k : L2.St → Hp → Prop) (q : k ((σ.set i (some (.int m))).set j (some (.int n))) H) : gTup K 2 (gCons (gName i) (gCons (gName j) gNil)) x σ H k := by
  obtain ⟨v, w, h1, h2, h3⟩ := g_pair (σ := σ) (i := i) (j := j) h
  rw [h1.int_inv, h2.int_inv] at h3
  exact h3 k q
theorem g_iii {i j l : Nat} {m n o : Int} (h : Im K H x (.tup [.int m, .int n, .int o])) (k : L2.St → Hp → Prop) (q : k (((σ.set i (some (.int m))).set j (some (.int n))).set l (some (.int o))) H) : gTup K 3 (gCons (gName i) (gCons (gName j) (gCons (gName l) gNil))) x σ H k := by
  obtain ⟨v, w, y, h1, h2, h4, h3⟩ := g_three (σ := σ) (i := i) (j := j) (l := l) h
  rw [h1.int_inv, h2.int_inv, h4.int_inv] at h3
  exact h3 k q
end
end TW

set_option Elab.async false
set_option linter.all false
set_option maxRecDepth 100000
set_option maxHeartbeats 4000000
namespace PySem
open Sem (wp)
open AutoSeq1 (wpAny_loadPart')
set_option maxHeartbeats 1000000 in
theorem meets_enumerate_new1B {v : Value} {o : Obj} {H : Heap → Prop} (B : Begins v o H) :
    Meets (Builtin.«enumerate.__new__» ⟨[.type "enumerate", v], []⟩) (fun _ R s => H s.heap ∧
      R (.ok (.ret (.ref (s.heap.push o).objs.size))) { s with heap := (s.heap.push o).push { cls := .type "enumerate", data := .fields #[.none, .bool false, .ref s.heap.objs.size, rawInt 0, .none, .none] } }) :=
  .of_wp fun prog w A R s h => by
    obtain ⟨hp, g, d, tk, os⟩ := s; obtain ⟨h1, h⟩ := h
    have hsub := sub_enumerate
    have q1 : ∀ {A' : Around} {E : Value → Shared → Prop} {Q : Value → Shared → Prop}, Q (.ref hp.objs.size) ⟨hp.push o, g, d, tk, os⟩ → wpAny (model prog w) A' (pyIter v) Q E ⟨hp, g, d, tk, os⟩ :=
      fun q => B.iter prog w _ _ ⟨hp, g, d, tk, os⟩ _ h1 q
    wp_walk using q1
    refine wpAny_stack_any fun st => wpAny_pure ?_
    split
    · rename_i c _ _ _ _ _
      cases (c == Value.type "enumerate")
      · wp_walk using q1
        exact ⟨_, rfl, h⟩
      · wp_walk using q1
        exact ⟨_, rfl, h⟩
    · wp_walk using q1
      exact ⟨_, rfl, h⟩
section
variable {prog : Program} {w : World} {A : Around} {E : Value → Shared → Prop} {s : Shared}
/-- enumerate(v): its two new cells -/
theorem enum_begins1 {v : Value} {o : Obj} {H : Heap → Prop} {Q : Value → Shared → Prop} (B : Begins v o H) (h1 : H s.heap)
    (h : ∀ h', IsEnum h' (s.heap.objs.size + 1) s.heap.objs.size 0 .none → h'.get? s.heap.objs.size = some o → h'.objs.size = s.heap.objs.size + 2 →
      (∀ b o, s.heap.get? b = some o → h'.get? b = some o) → Q (.ref (s.heap.objs.size + 1)) { s with heap := h' }) :
    wpAny (model prog w) A (call (.type "enumerate") [v]) Q E s := by
  refine callType_new F.called_enumerate (by decide) (F.typeCall_enumerate_1 _) (F.newCall_enumerate_1 _) (fun obj => F.args_object_init_2 obj _) F.entry_enumerate_new
    (meets_enumerate_new1B B) ⟨h1, ?_⟩
  have hz : (s.heap.push o).objs.size = s.heap.objs.size + 1 := Heap.size_push ..
  show _ ∧ _
  rw [hz]
  have he : IsEnum ((s.heap.push o).push { cls := .type "enumerate", data := .fields #[.none, .bool false, .ref s.heap.objs.size, rawInt 0, .none, .none] }) (s.heap.objs.size + 1) s.heap.objs.size 0 .none := by
    have := Heap.get?_push_size (s.heap.push o) (o := { cls := .type "enumerate", data := .fields #[.none, .bool false, .ref s.heap.objs.size, rawInt 0, .none, .none] }) rfl
    rw [hz] at this; exact this
  refine ⟨⟨_, he, rfl⟩, h _ he (Heap.get?_push_of_some _ (Heap.get?_push_size _ B.free)) (by rw [Heap.size_push, hz]) fun b o x => Heap.get?_push_of_some _ (Heap.get?_push_of_some _ x)⟩
end
end PySem
namespace TW
open PySem PySem.Spec PyProof.Rows L2
def IteT (K : PySem.W.Frag) (a : Addr) : It :=
  ⟨fun i H => ∃ (xs : List V) (x : V), SqT K H a xs ∧ xs[i]? = some x, fun i H v H' => ∃ T x, v = .ref T ∧ H T = none ∧ H' = upd H T (.tup [.int (i : Nat), x]) ∧ ∀ xs, SqT K H a xs → xs[i]? = some x, fun i H => ∃ xs : List V, SqT K H a xs ∧ xs.length = i⟩
theorem turn_enumT {P : Program} {w : World} {K : PySem.W.Frag} {elts : List Expr} {kk : Nat} {tpos : Pos} (a e it : Addr) :
    Turn P w K (.Tuple elts kk tpos) (IteT K a) [e, it] e (fun i h => (∃ old, IsEnum h e it ((i : Nat) : Int) old) ∧ h.IsTupleIter it a i ∧ e ≠ it) where
  mem := by simp
  obj := fun i h st b hb => by
    obtain ⟨⟨old, he⟩, ⟨o, ho, hc, hd⟩, _⟩ := st
    have e' : b = e ∨ b = it := by simpa using hb
    rcases e' with z | z
    · rw [z]; exact ⟨_, he, fun v q => nomatch q⟩
    · rw [z]; exact ⟨o, ho, fun v q => by rw [hd] at q; cases q⟩
  keep := fun i h h' st k => let ⟨⟨old, he⟩, hi, hne⟩ := st; ⟨⟨old, k e (by simp) _ he⟩, hi.at fun o q => k it (by simp) o q, hne⟩
  item := by
    intro X hP hw hK hc i pins s σ H E I hf st hg
    subst hP hw hK
    obtain ⟨⟨old, he⟩, hit, hne⟩ := st
    obtain ⟨xs, x, hq, hx⟩ := hg
    obtain ⟨its, rv, p, hz⟩ := I.tuple hq
    obtain ⟨u, hu, ru⟩ := rv.get hx
    have hel : e < s.heap.objs.size := Heap.lt_size he
    have hil : it < s.heap.objs.size := by obtain ⟨_, q, _⟩ := hit; exact Heap.lt_size q
    have nai : a ≠ it := fun z => by
      obtain ⟨o1, h1, c1, _⟩ := id p
      obtain ⟨o2, h2, c2, _⟩ := id hit
      rw [z, h2] at h1
      cases h1
      rw [c2] at c1
      exact absurd (by injection c1) (by decide : ¬ "tuple_iterator" = "tuple")
    have nae : a ≠ e := fun z => by
      obtain ⟨o1, h1, c1, _⟩ := id p
      rw [z, he] at h1
      cases h1
      exact absurd (by injection c1) (by decide : ¬ "enumerate" = "tuple")
    have hlt : i < its.toArray.size := by
      have := (List.getElem?_eq_some_iff.mp hu).1
      simpa using this
    refine wpAny_pyNext_enum_itemD (Draws.tuple (A := X.A.in1) (I.ok.hd hc) it a nai its.toArray) he ⟨hit, p⟩ hlt hne (fun m => by
      rcases List.mem_cons.mp m with z | m
      · exact hne z
      · exact nae (List.mem_singleton.mp m).symm) fun x' h' tk hP ho hit' hT hsz hk => ?_
    have hxu : x' = u := by
      have q : its.toArray[i]? = some x' := hP
      have q2 : its[i]? = some x' := by simpa using q
      rw [hu] at q2
      exact (Option.some.inj q2).symm
    subst hxu
    refine ⟨_, rfl, wpAny_letOwnedTupleGo_enum (s := { s with heap := h', toks := tk + 1 }) ho fun h'' he' sb => ?_⟩
    have hT2 : h''.get? s.heap.objs.size = some { cls := .type "tuple", data := .seq #[.int i tk, x'] } := (sb.2 _ (Nat.ne_of_gt hel)).trans hT
    have new : ObjOk X.prog X.w (upd H s.heap.objs.size (.tup [.int (i : Nat), x])) h'' s.heap.objs.size (.tup [.int (i : Nat), x]) :=
      ⟨by show 2 ≤ sizeLine; decide, [.int i tk, x'], .cons ⟨_, rfl⟩ (.cons ru .nil), ⟨_, hT2, rfl, _, rfl⟩⟩
    have I1 : Inv X pins σ (upd H s.heap.objs.size (.tup [.int (i : Nat), x])) { s with heap := h'', toks := tk + 1 } :=
      I.turnedNew (ch := [e, it]) (fun b ob hb q => (sb.2 b (fun z => hb (by simp [z]))).trans (hk b ob (fun z => hb (by simp [z])) (fun z => hb (by simp [z])) q)) hf (Nat.le_refl _) new
    refine ⟨.ref s.heap.objs.size, _, I1, rfl, ⟨_, x, rfl, I.hok.fresh (Nat.le_refl _), rfl, fun ys hy => by rw [I.tuple_inj hy hq]; exact hx⟩, ⟨⟨x', ?_⟩, hit'.1.at fun o q => (sb.2 it (Ne.symm hne)).trans q, hne⟩, fun b hb => ?_⟩
    · have e1 : ((i + 1 : Nat) : Int) = (i : Int) + 1 := by omega
      rw [e1]; exact he'
    · have hb' : b < s.heap.objs.size := by
        have e' : b = e ∨ b = it := by simpa using hb
        rcases e' with z | z
        · rw [z]; exact hel
        · rw [z]; exact hil
      rw [upd_ne (Nat.ne_of_lt hb')]
      exact (hf b hb).1
  done := by
    intro X hP hw hK hc i pins s σ H E I hf st hg
    subst hP hw hK
    obtain ⟨⟨old, he⟩, hit, hne⟩ := st
    obtain ⟨xs, hq, hx⟩ := hg
    obtain ⟨its, rv, p, hz⟩ := I.tuple hq
    obtain ⟨f0, f1, f2, f3, f4, f5⟩ := hf it (by simp)
    have hl := rv.length
    have nai : a ≠ it := fun z => by
      obtain ⟨o1, h1, c1, _⟩ := id p
      obtain ⟨o2, h2, c2, _⟩ := id hit
      rw [z, h2] at h1
      cases h1
      rw [c2] at c1
      exact absurd (by injection c1) (by decide : ¬ "tuple_iterator" = "tuple")
    have hi : i = its.toArray.size := by
      rw [List.size_toArray]
      omega
    exact wpAny_pyNext_enum_endD (Draws.tuple (A := X.A.in1) (I.ok.hd hc) it a nai its.toArray) he (hi ▸ ⟨hit, p⟩) fun h' eb => ⟨rfl, I.turned (t' := s.toks) (fun b o hb q => eb b o hb q) f0 f1 f3 f4 f5⟩
  self := fun A i s Q E st h => let ⟨⟨_, he⟩, _⟩ := st; wpAny_pyIter_enum he h
/-- enumerate of a list or a tuple -/
def iEnumQ (K : PySem.W.Frag) (tl : TE) : TI := fun σ H R => tl σ H fun x H1 => ∃ a, [x] = [V.ref a] ∧ (∃ xs, SqT K H1 a xs) ∧ R (IteT K a) H1
theorem pi_enumQ {X : Cx} {e : Expr} {te : TE} {p pos tpos : Pos} {elts : List Expr} {kk : Nat} (B : Bt X.mg) (he : PE X e te) (hg : Gl X "enumerate" := by rfl) (hs : starEach [e] X.env = [(false, eval e X.env)] := by rfl) :
    PI X (.Tuple elts kk tpos) (.Call (.Name "enumerate" p) [e] [] pos) (iEnumQ X.K te) := by
  refine ⟨fun pins s σ H R I h => ?_⟩
  have ha : PA X [e] (tCons te tNil) := pa_cons he pa_nil hs
  refine Call_ (ld_blt I hg B.enum bt_enum (PyProof.Rows.callWith_type1 (thn (ha.run pos pins s σ H (fun vs H1 => ∃ a, vs = [.ref a] ∧ (∃ xs, SqT X.K H1 a xs) ∧ R (IteT X.K a) H1) I ?_) fun us s1 ⟨vs, H1, I1, r1, q1⟩ => ?_) hs rfl) (by decide) (by decide))
  · exact h
  · obtain ⟨a, ex, ⟨xs, hq⟩, q⟩ := q1
    subst ex
    cases r1 with
    | cons r rr =>
      cases rr
      cases r
      obtain ⟨its, rv, p', hz⟩ := I1.tuple hq
      refine enum_begins1 (begins_tuple a its.toArray) p' fun h' he hit hsz hk => wpAny_pyIter_enum he ?_
      have I2 : Inv X pins σ H1 { s1 with heap := h' } := I1.kept (t' := s1.toks) hk
      refine ⟨s1.heap.objs.size + 1, [s1.heap.objs.size + 1, s1.heap.objs.size], _, _, H1, rfl, I2, turn_enumT a (s1.heap.objs.size + 1) s1.heap.objs.size, ⟨⟨.none, he⟩, ⟨_, hit, rfl, rfl⟩, Nat.succ_ne_self _⟩, fun b hb => ?_, q⟩
      have e' : b = s1.heap.objs.size + 1 ∨ b = s1.heap.objs.size := by simpa using hb
      have hle : s1.heap.objs.size ≤ b := by
        rcases e' with z | z
        · rw [z]; exact Nat.le_add_right _ _
        · rw [z]; exact Nat.le_refl _
      exact I1.fpOk hle (I1.hok.fresh hle)
section
variable {K : PySem.W.Frag} {σ : L2.St} {H : Hp} {tl : TE} {ts : List T}
def enumT : Nat → List T → List T
  | _, [] => []
  | k, t :: r => .tup [.int (k : Nat), t] :: enumT (k + 1) r
theorem enumT_get : ∀ {ts : List T} {k i : Nat}, (enumT k ts)[i]? = (ts[i]?).map fun t => T.tup [.int ((k + i : Nat) : Int), t]
  | [], _, _ => by simp [enumT]
  | t :: r, k, 0 => by simp [enumT]
  | t :: r, k, i + 1 => by
    have := enumT_get (ts := r) (k := k + 1) (i := i)
    simp only [enumT, List.getElem?_cons_succ]
    rw [this]
    congr 1
    funext t
    rw [show k + 1 + i = k + (i + 1) by omega]
theorem enumT_length : ∀ {ts : List T} {k : Nat}, (enumT k ts).length = ts.length
  | [], _ => rfl
  | _ :: r, k => by simp [enumT, enumT_length]
theorem walks_enum {a : Addr} {xs : List V} (h : SqT K H a xs) (hi : Ims K H xs ts) : Walks K (IteT K a) H (enumT 0 ts) := fun i H' s => by
  have h2 := s.2.sq h
  refine ⟨fun t ht => ?_, fun hl => ⟨xs, h2, by rw [hi.length]; rw [enumT_length] at hl; exact hl⟩⟩
  rw [enumT_get] at ht
  obtain ⟨u, hu, rfl⟩ := Option.map_eq_some_iff.mp ht
  obtain ⟨x, hx, _⟩ := hi.get' hu
  refine ⟨⟨xs, x, h2, hx⟩, fun y H'' ⟨T, x', e, hT, eH, q⟩ => ?_⟩
  subst e eH
  obtain ⟨t', ht', im⟩ := hi.get (q xs h2)
  rw [hu] at ht'
  cases ht'
  refine ⟨same_new hT, ?_⟩
  have e : ((0 + i : Nat) : Int) = (i : Int) := by omega
  rw [e]
  exact Im.new hT (.cons (.int _) (.cons (im.mono s.2) .nil))
theorem i_enum (h : Ev K tl σ H (.im (.tup ts))) : EvI K (iEnumQ K tl) σ H (enumT 0 ts) := fun H1 s R q => h H1 s _ fun v H2 s2 hv => by
  have hv : Im K H2 v (.tup ts) := hv
  obtain ⟨a, xs, e, hq, hi⟩ := hv.tup_inv
  exact ⟨a, by rw [e], ⟨xs, hq⟩, q _ _ s2 (walks_enum hq hi)⟩
end
end TW

set_option Elab.async false
set_option linter.all false
set_option maxRecDepth 100000
set_option maxHeartbeats 4000000
/-! the things of the law, in plain Lean -/
namespace TW
open PySem PySem.Spec PyProof.Rows L2
theorem filter_tt {α : Type} (l : List α) : l.filter (fun _ => true) = l := List.filter_eq_self.mpr fun _ _ => rfl
abbrev Cell := Int × Int
abbrev Move := Int × Int × Int
abbrev Grid := Cell → Option Int
inductive Item where
  | wall | free | num (i : Int)
  deriving DecidableEq
def Item.t : Item → T
  | .wall => .str "#"
  | .free => .non
  | .num i => .int i
def Item.o : Item → Option Int
  | .num i => some i
  | _ => none
def oT : Option Int → T
  | none => .non
  | some i => .int i
def cellT (c : Cell) : T := .tup [.int c.1, .int c.2]
def moveT (m : Move) : T := .tup [.int m.1, .int m.2.1, .int m.2.2]
/-- rows of columns -/
def rowL (w : Nat) (f : Int → T) : List T := (List.range w).map fun x : Nat => f (x : Int)
def rowsL (h w : Nat) (f : Cell → T) : List T := (List.range h).map fun y : Nat => .tup (rowL w fun x => f ((y : Int), x))
def matT (h w : Nat) (f : Cell → T) : T := .tup (rowsL h w f)
/-- a floor: sides, items -/
structure Fl where
  h : Nat
  w : Nat
  it : Cell → Item
  h1 : 1 ≤ h
  w1 : 1 ≤ w
  hm : h ≤ 14
  wm : w ≤ 14
def Fl.ins (F : Fl) (c : Cell) : Bool := decide (0 ≤ c.1) && (decide (c.1 < F.h) && (decide (0 ≤ c.2) && decide (c.2 < F.w)))
def Fl.op (F : Fl) (c : Cell) : Bool := F.ins c && !decide (F.it c = .wall)
def Fl.rows (F : Fl) : List T := rowsL F.h F.w fun c => (F.it c).t
def Fl.all (F : Fl) : List Cell := (List.range F.h).flatMap fun y : Nat => (List.range F.w).map fun x : Nat => ((y : Int), (x : Int))
def Fl.opens (F : Fl) : List Cell := F.all.filter fun c => !decide (F.it c = .wall)
def Fl.gridT (F : Fl) (g : Grid) : T := matT F.h F.w fun c => oT (g c)
def Fl.d (CF : Addr) (F : Fl) : D := .fl CF F.rows (F.opens.map cellT) F.h F.w
def maskT (m : List Move) : T := .tup (m.map moveT)
/-- an order -/
structure Ord where
  r : Bool
  d : Bool
  x : Bool
  deriving DecidableEq
def Ord.str (o : Ord) : Str := if o.r then (if o.d then (if o.x then "rdr" else "rdl") else (if o.x then "rur" else "rul")) else (if o.d then (if o.x then "cdr" else "cdl") else (if o.x then "cur" else "cul"))
def orders : List Ord := [⟨true, true, true⟩, ⟨true, true, false⟩, ⟨true, false, true⟩, ⟨true, false, false⟩, ⟨false, true, true⟩, ⟨false, true, false⟩, ⟨false, false, true⟩, ⟨false, false, false⟩]
def orderStrs : List Str := orders.map Ord.str
def Ord.opp (o : Ord) : Ord := ⟨o.r, !o.d, !o.x⟩
def Ord.sy (o : Ord) : Int := if o.d then 1 else -1
def Ord.sx (o : Ord) : Int := if o.x then 1 else -1
def Ord.key (o : Ord) (c : Cell) : Cell := if o.r then (o.sy * c.1, o.sx * c.2) else (o.sx * c.2, o.sy * c.1)
def Ord.fwd (o : Ord) (m : Move) : Bool := lex2 (0, 0) (o.key (m.1, m.2.1))
def dirs (b : Bool) (n : Nat) : List Int := if b then (List.range n).map fun i : Nat => (i : Int) else ((List.range n).map fun i : Nat => (i : Int)).reverse
def Ord.cells (o : Ord) (h w : Nat) : List Cell := if o.r then (dirs o.d h).flatMap fun y => (dirs o.x w).map fun x => (y, x) else (dirs o.x w).flatMap fun x => (dirs o.d h).map fun y => (y, x)
/-! ### a sweep -/
abbrev Tab := List (Cell × Option Int)
def look (S : Tab) (c : Cell) : Option Int := match S.lookup c with
  | some v => v
  | none => none
def came (c : Cell) (m : Move) : Cell := (c.1 - m.1, c.2 - m.2.1)
def oL : Option Int → List Int
  | none => []
  | some i => [i]
def sums (S : Tab) (fw : List Move) (c : Cell) : List Int := fw.filterMap fun m => (look S (came c m)).map (· + m.2.2)
theorem sums_succ {S : Tab} {fw : List Move} {c : Cell} {i : Nat} {m : Move} (h : fw[i]? = some m) : sums S (fw.take (i + 1)) c = sums S (fw.take i) c ++ oL ((look S (came c m)).map (· + m.2.2)) := by
  unfold sums
  rw [List.take_add_one, h, List.filterMap_append]
  congr 1
  cases e : look S (came c m) <;> simp [oL, e]
def leastO : List Int → Option Int
  | [] => none
  | n :: r => match leastO r with
    | none => some n
    | some m => some (if n ≤ m then n else m)
def least (S : Tab) (fw : List Move) (c : Cell) (own : Option Int) : Option Int := leastO (oL own ++ sums S fw c)
def sweepS (op : Cell → Bool) (fw : List Move) (g : Grid) : List Cell → Tab → Tab
  | [], S => S
  | c :: r, S => sweepS op fw g r (if op c then S ++ [(c, least S fw c (g c))] else S)
theorem sweepS_app {op : Cell → Bool} {fw : List Move} {g : Grid} : ∀ {xs ys : List Cell} {S : Tab}, sweepS op fw g (xs ++ ys) S = sweepS op fw g ys (sweepS op fw g xs S)
  | [], _, _ => rfl
  | _ :: r, _, _ => sweepS_app (xs := r)
theorem sweepS_succ {op : Cell → Bool} {fw : List Move} {g : Grid} {xs : List Cell} {i : Nat} {c : Cell} (h : xs[i]? = some c) : sweepS op fw g (xs.take (i + 1)) [] = (if op c then sweepS op fw g (xs.take i) [] ++ [(c, least (sweepS op fw g (xs.take i) []) fw c (g c))] else sweepS op fw g (xs.take i) []) := by
  rw [List.take_add_one, h, sweepS_app]
  rfl
theorem sweepS_keys {op : Cell → Bool} {fw : List Move} {g : Grid} : ∀ {xs : List Cell} {S : Tab} {c : Cell}, c ∈ (sweepS op fw g xs S).map (·.1) → c ∈ S.map (·.1) ∨ (c ∈ xs ∧ op c = true)
  | [], _, _, h => .inl h
  | d :: r, S, c, h => by
    unfold sweepS at h
    rcases sweepS_keys h with h | h
    · by_cases e : op d = true
      · rw [if_pos e, List.map_append] at h
        rcases List.mem_append.mp h with h | h
        · exact .inl h
        · have : c = d := by simpa using h
          subst this
          exact .inr ⟨List.mem_cons_self, e⟩
      · rw [if_neg e] at h
        exact .inl h
    · exact .inr ⟨List.mem_cons_of_mem _ h.1, h.2⟩
theorem sweepS_len {op : Cell → Bool} {fw : List Move} {g : Grid} : ∀ {xs : List Cell} {S : Tab}, (sweepS op fw g xs S).length ≤ S.length + xs.length
  | [], _ => Nat.le_refl _
  | d :: r, S => by
    unfold sweepS
    have := sweepS_len (op := op) (fw := fw) (g := g) (xs := r) (S := if op d then S ++ [(d, least S fw d (g d))] else S)
    have h : (if op d then S ++ [(d, least S fw d (g d))] else S).length ≤ S.length + 1 := by split <;> simp
    simp only [List.length_cons]
    omega
theorem lookup_none {S : Tab} {c : Cell} (h : c ∉ S.map (·.1)) : S.lookup c = none := by
  induction S with
  | nil => rfl
  | cons e r ih =>
    obtain ⟨d, v⟩ := e
    rw [List.map_cons, List.mem_cons, not_or] at h
    rw [List.lookup_cons, show (c == d) = false from by simpa using h.1]
    exact ih h.2
theorem nodup_take {α : Type} {xs : List α} (h : xs.Nodup) {i : Nat} {c : α} (hc : xs[i]? = some c) : c ∉ xs.take i := fun m => by
  obtain ⟨j, hj, e⟩ := List.getElem_of_mem m
  have hi := (List.getElem?_eq_some_iff.mp hc)
  obtain ⟨hi, ei⟩ := hi
  rw [List.length_take] at hj
  rw [List.getElem_take] at e
  exact List.pairwise_iff_getElem.mp h j i (by omega) hi (by omega) (e.trans ei.symm)
theorem mem_dirs {b : Bool} {n : Nat} {i : Int} : i ∈ dirs b n ↔ 0 ≤ i ∧ i < n := by
  have e : i ∈ (List.range n).map (fun i : Nat => (i : Int)) ↔ 0 ≤ i ∧ i < n := by
    rw [List.mem_map]
    constructor
    · rintro ⟨k, hk, rfl⟩
      have := List.mem_range.mp hk
      omega
    · intro h
      exact ⟨i.toNat, List.mem_range.mpr (by omega), by omega⟩
  unfold dirs
  split
  · exact e
  · rw [List.mem_reverse]
    exact e
theorem nodup_dirs {b : Bool} {n : Nat} : (dirs b n).Nodup := by
  have e : ((List.range n).map (fun i : Nat => (i : Int))).Nodup := by
    rw [List.Nodup, List.pairwise_map]
    exact List.nodup_range.imp fun {a b} h e => h (by omega)
  unfold dirs
  split
  · exact e
  · rw [List.Nodup, List.pairwise_reverse]
    exact List.Pairwise.imp (fun h z => h z.symm) e
theorem mem_cells {o : Ord} {h w : Nat} {c : Cell} : c ∈ o.cells h w ↔ 0 ≤ c.1 ∧ c.1 < h ∧ 0 ≤ c.2 ∧ c.2 < w := by
  unfold Ord.cells
  split
  · rw [List.mem_flatMap]
    constructor
    · rintro ⟨y, hy, hc⟩
      obtain ⟨x, hx, rfl⟩ := List.mem_map.mp hc
      have a := mem_dirs.mp hy
      have b := mem_dirs.mp hx
      exact ⟨a.1, a.2, b.1, b.2⟩
    · rintro ⟨a, b, d, e⟩
      exact ⟨c.1, mem_dirs.mpr ⟨a, b⟩, List.mem_map.mpr ⟨c.2, mem_dirs.mpr ⟨d, e⟩, rfl⟩⟩
  · rw [List.mem_flatMap]
    constructor
    · rintro ⟨y, hy, hc⟩
      obtain ⟨x, hx, rfl⟩ := List.mem_map.mp hc
      have a := mem_dirs.mp hy
      have b := mem_dirs.mp hx
      exact ⟨b.1, b.2, a.1, a.2⟩
    · rintro ⟨a, b, d, e⟩
      exact ⟨c.2, mem_dirs.mpr ⟨d, e⟩, List.mem_map.mpr ⟨c.1, mem_dirs.mpr ⟨a, b⟩, rfl⟩⟩
theorem nodup_flat {α β γ : Type} {xs : List α} {ys : List β} {f : α → β → γ} (inj : ∀ a b a' b', f a b = f a' b' → a = a' ∧ b = b') (hx : xs.Nodup) (hy : ys.Nodup) : (xs.flatMap fun a => ys.map (f a)).Nodup := by
  induction xs with
  | nil => exact List.nodup_nil
  | cons a r ih =>
    rw [List.flatMap_cons, List.nodup_append]
    obtain ⟨h1, h2⟩ := List.nodup_cons.mp hx
    refine ⟨?_, ih h2, ?_⟩
    · rw [List.Nodup, List.pairwise_map]
      exact hy.imp fun {b b'} h e => h (inj _ _ _ _ e).2
    · intro u hu v hv e
      subst e
      obtain ⟨b, _, rfl⟩ := List.mem_map.mp hu
      obtain ⟨a', ha', hm⟩ := List.mem_flatMap.mp hv
      obtain ⟨b', _, e⟩ := List.mem_map.mp hm
      have := (inj _ _ _ _ e).1
      subst this
      exact h1 ha'
theorem nodup_cells {o : Ord} {h w : Nat} : (o.cells h w).Nodup := by
  unfold Ord.cells
  split
  · exact nodup_flat (fun a b a' b' e => by injection e with e1 e2; exact ⟨e1, e2⟩) nodup_dirs nodup_dirs
  · exact nodup_flat (f := fun x y => (y, x)) (fun a b a' b' e => by injection e with e1 e2; exact ⟨e2, e1⟩) nodup_dirs nodup_dirs
theorem len_cells {o : Ord} {h w : Nat} : (o.cells h w).length = h * w := by
  have d : ∀ b n, (dirs b n).length = n := fun b n => by unfold dirs; split <;> simp
  have e : ∀ {α β γ : Type} (xs : List α) (ys : List β) (f : α → β → γ), (xs.flatMap fun a => ys.map (f a)).length = xs.length * ys.length := fun xs ys f => by
    induction xs with
    | nil => simp
    | cons a r ih => rw [List.flatMap_cons, List.length_append, ih, List.length_map, List.length_cons, Nat.add_mul]; omega
  unfold Ord.cells
  split
  · rw [e, d, d]
  · rw [e, d, d, Nat.mul_comm]
def Ord.part (o : Ord) (mask : List Move) : List Move := mask.filter o.fwd
def Fl.sweepT (F : Fl) (mask : List Move) (o : Ord) (g : Grid) : Tab := sweepS F.op (o.part mask) g (o.cells F.h F.w) []
def Fl.sweep (F : Fl) (mask : List Move) (o : Ord) (g : Grid) : Grid := look (F.sweepT mask o g)
def Fl.start (F : Fl) : Grid := fun c => if F.op c then (F.it c).o else none
/-- how many cells differ -/
def Fl.nch (F : Fl) (a b : Grid) : Nat := (F.all.filter fun c => !decide (a c = b c)).length
theorem leastO_none : ∀ {ns : List Int}, leastO ns = none → ns = []
  | [], _ => rfl
  | n :: r, h => by
    unfold leastO at h
    split at h <;> cases h
theorem leastO_some : ∀ {ns : List Int} {n : Int}, leastO ns = some n → n ∈ ns ∧ ∀ m ∈ ns, n ≤ m
  | [], _, h => by cases h
  | k :: r, n, h => by
    unfold leastO at h
    cases e : leastO r with
    | none =>
      rw [e] at h
      have h := Option.some.inj h
      have z := leastO_none e
      subst z h
      exact ⟨List.mem_cons_self, fun m hm => by rw [List.mem_singleton.mp hm]; exact Int.le_refl _⟩
    | some j =>
      rw [e] at h
      obtain ⟨h1, h2⟩ := leastO_some e
      have h : (if k ≤ j then k else j) = n := Option.some.inj h
      by_cases c : k ≤ j
      · rw [if_pos c] at h
        subst h
        refine ⟨List.mem_cons_self, fun m hm => ?_⟩
        rcases List.mem_cons.mp hm with z | z
        · rw [z]; exact Int.le_refl _
        · exact Int.le_trans c (h2 m z)
      · rw [if_neg c] at h
        subst h
        refine ⟨List.mem_cons_of_mem _ h1, fun m hm => ?_⟩
        rcases List.mem_cons.mp hm with z | z
        · rw [z]; omega
        · exact h2 m z
theorem leastO_of {ns : List Int} {n : Int} (h : n ∈ ns) (l : ∀ m ∈ ns, n ≤ m) : leastO ns = some n := by
  cases e : leastO ns with
  | none =>
    rw [leastO_none e] at h
    cases h
  | some m =>
    obtain ⟨h1, h2⟩ := leastO_some e
    have a := l m h1
    have b := h2 n h
    rw [show m = n by omega]
/-! ### the table as a dict -/
def oV : Option Int → V
  | none => .non
  | some i => .int i
def tabKvs (S : Tab) : List (List Key × V) := S.map fun e => ([.inl e.1.1, .inl e.1.2], oV e.2)
def TabAt (H : Hp) (p : Addr) (S : Tab) : Prop := H p = some (.dT (tabKvs S))
theorem im_oV {K : PySem.W.Frag} {H : Hp} (o : Option Int) : Im K H (oV o) (oT o) := by
  cases o with
  | none => exact .non
  | some i => exact .int i
theorem oV_inv {K : PySem.W.Frag} {H : Hp} {v : V} {o : Option Int} (h : Im K H v (oT o)) : v = oV o := by
  cases o with
  | none => exact h.non_inv
  | some i => exact h.int_inv
theorem tab_get : ∀ (S : Tab) (c : Cell), valV (tabKvs S) [.inl c.1, .inl c.2] = (S.lookup c).map oV
  | [], _ => rfl
  | (d, v) :: r, c => by
    have ih := tab_get r c
    by_cases e : c = d
    · subst e
      rw [show tabKvs ((c, v) :: r) = ([.inl c.1, .inl c.2], oV v) :: tabKvs r from rfl, valV_pos rfl]
      simp [List.lookup_cons]
    · have n : ([.inl d.1, .inl d.2] : List Key) ≠ [.inl c.1, .inl c.2] := fun z => by
        injection z with z1 z2
        injection z2 with z2
        injection z1 with z1
        injection z2 with z2
        exact e (Prod.ext z1.symm z2.symm)
      rw [show tabKvs ((d, v) :: r) = ([.inl d.1, .inl d.2], oV v) :: tabKvs r from rfl, valV_neg n, ih, List.lookup_cons]
      rw [show (c == d) = false from by simpa using e]
theorem tab_put (S : Tab) (c : Cell) (v : Option Int) (h : S.lookup c = none) : putK (tabKvs S) [.inl c.1, .inl c.2] (oV v) = tabKvs (S ++ [(c, v)]) := by
  have e : (tabKvs S).any (fun kv => decide (kv.1 = ([.inl c.1, .inl c.2] : List Key))) = false := by
    rw [valV_any, tab_get, h]
    rfl
  unfold putK
  rw [e, if_neg Bool.false_ne_true]
  simp [tabKvs]
end TW

set_option Elab.async false
set_option linter.all false
set_option maxRecDepth 100000
set_option maxHeartbeats 4000000
namespace TW
open PySem PySem.Spec PyProof.Rows L2
theorem blkOk_in {N : List Str} {sc scope : Scope} {own : List (Str × Nat)} {k : ScopeKind} {ns : List (Str × NameKind)} {g c : Bool} {m : List (Str × Const)} (e : sc = ⟨k, ns, g, c, m⟩) (h : blkC N ⟨k, ns, g, c, m⟩ scope own = true) : BlkOk N sc scope own := by
  subst e
  exact blkOk_by h
section
variable {K : PySem.W.Frag} {σ : L2.St} {H H0 : Hp} {wi : TI} {g : TG} {tb : TS} {nx bk ct : L2.St → Hp → Prop} {rt : VK} {ts : List T}
/-- for over what stood at H0 -/
theorem for_it0 {α : Type} {enc : α → T} {xs : List α} (K : PySem.W.Frag) (h : EvI0 K wi σ H0 (xs.map enc)) (s0 : Same H0 H) (Pv : Nat → L2.St → Hp → Prop) (h0 : ∀ H1, Same H H1 → Pv 0 σ H1) (hl : ∀ i σ' H', i ≤ xs.length → Pv i σ' H' → Stay K H0 H')
    (hs : ∀ i a x σ' H' H'', xs[i]? = some a → Pv i σ' H' → Same H' H'' → Im K H'' x (enc a) → g x σ' H'' fun σ2 H2 => tb ⟨Pv (i + 1), rt, nx, Pv (i + 1)⟩ σ2 H2) (hd : ∀ σ' H', Pv xs.length σ' H' → nx σ' H') :
    tFor wi g tb ⟨nx, rt, bk, ct⟩ σ H := h H s0 _ fun J H1 s1 hw => by
  refine ⟨fun i m σ' H' => m = xs.length - i ∧ i ≤ xs.length ∧ Pv i σ' H', ⟨xs.length, by simp, Nat.zero_le _, h0 H1 s1⟩, ?_⟩
  rintro i m σ' H' ⟨rfl, hi, pv⟩
  obtain ⟨w1, w2⟩ := hw i H' (hl i σ' H' hi pv)
  by_cases c : i < xs.length
  · obtain ⟨a, ha⟩ : ∃ a, xs[i]? = some a := ⟨_, List.getElem?_eq_getElem c⟩
    obtain ⟨go, wy⟩ := w1 (enc a) (by rw [List.getElem?_map, ha] <;> rfl)
    refine .inr ⟨go, Pv (i + 1), fun σ'' H'' z => ⟨xs.length - (i + 1), by omega, rfl, c, z⟩, fun x H'' y => ?_⟩
    obtain ⟨s3, im⟩ := wy x H'' y
    exact hs i a x σ' H' H'' ha pv s3 im
  · have e : i = xs.length := by omega
    subst e
    exact .inl ⟨w2 (by simp), hd _ _ pv⟩
theorem i0_enum {v : V} {k : Nat} (hσ : σ[k]? = some (some v)) (h : Is K H v (.im (.tup ts))) : EvI0 K (iEnumQ K (tVar k)) σ H (enumT 0 ts) := fun H1 s R q => by
  have hv : Im K H v (.tup ts) := h
  obtain ⟨a, xs, e, hq, hi⟩ := hv.tup_inv
  exact ⟨v, hσ, a, by rw [e], ⟨xs, L2.Same.sqT s hq⟩, q _ _ (Same.refl _) (walks_enum hq hi)⟩
end
/-! ### a table of pairs changes -/
theorem Sm.keepT {a : Addr} {H H' : Hp} {kvs : List (List Key × V)} (x : Sm a H H') (h : H a = some (.dT kvs)) : Keep H H' := fun b xs r => by
  rcases r with r | ⟨o, r⟩
  · exact .inl (x b _ (ne_of r h (by intro z; cases z)) r)
  · exact .inr ⟨o, x b _ (ne_of r h (by intro z; cases z)) r⟩
theorem Sm.sqLT {K : PySem.W.Frag} {a : Addr} {H H' : Hp} {kvs : List (List Key × V)} (x : Sm a H H') (h : H a = some (.dT kvs)) {b : Addr} {xs : List V} (r : SqL K H b xs) : SqL K H' b xs := by
  rcases r with (r | ⟨o, r⟩) | r
  · exact .inl (.inl (x b _ (ne_of r h (by intro z; cases z)) r))
  · exact .inl (.inr ⟨o, x b _ (ne_of r h (by intro z; cases z)) r⟩)
  · exact .inr r
theorem Sm.stayT {K : PySem.W.Frag} {a : Addr} {H H' : Hp} {kvs : List (List Key × V)} (x : Sm a H H') (h : H a = some (.dT kvs)) : Stay K H H' := ⟨fun _ _ r => x.sqLT h r, x.keepT h⟩
theorem same_sm {a : Addr} {H H1 H' : Hp} (s : Same H H1) (h : H a = none) (x : Sm a H1 H') : Same H H' := fun b o e => x b o (ne_of_none e h) (s b o e)
/-! ### all but one list -/
theorem keep_del {H : Hp} {p : Addr} {xs : List V} (h : H p = some (.lst xs)) : Keep H (del H p) := fun b ys r => by
  rcases r with r | ⟨o, r⟩
  · exact .inl (by rw [del_ne (ne_of r h (by intro z; cases z))]; exact r)
  · exact .inr ⟨o, by rw [del_ne (ne_of r h (by intro z; cases z))]; exact r⟩
theorem same_del {H H' : Hp} {p : Addr} (m : Sm p H H') : Same (del H p) H' := fun b o e => by
  by_cases n : b = p
  · rw [n, del_same] at e
    cases e
  · rw [del_ne n] at e
    exact m b o n e
/-- the fields of a Floor are its own -/
structure FlC (K : PySem.W.Frag) (CF : Addr) : Prop where
  c : Cls K CF
  rows : NoAttr K CF "rows"
  h : NoAttr K CF "h"
  w : NoAttr K CF "w"
  cells : NoAttr K CF "cells"
section
variable {K : PySem.W.Frag} {mg : Str → Option Value} {σ : L2.St} {H H' : Hp} {te ta tb tc ti : TE} {tt tu : TT} {args tk : TA} {d : D} {ds es : List D} {ts : List T} {t u : T} {i j : Int} {b c : Bool} {v : V} {C : Addr} {rows cells : List T} {h w : Int}
theorem e_gt : Ev K (tGT K ts) σ H (.im (.tup ts)) := fun H1 s Q q a ha => q _ H1 (Same.refl H1) (ha H1)
theorem e_gtq : Ev K (tGT K ts) σ H (.sq ts) := e_gt.sq_im
theorem e_wget {kvs : List (Str × Str)} {z x : Str} (h : Ev K ti σ H (.im (.str z))) (m : (z, x) ∈ kvs) : Ev K (tWGet kvs ti) σ H (.im (.str x)) := fun H1 s Q q => h H1 s _ fun y H2 s2 hy => ⟨z, x, hy.sv, m, q _ H2 s2 (Im.str x)⟩
theorem e_addS {x y : Str} (ha : Ev K ta σ H (.im (.str x))) (hb : Ev K tb σ H (.im (.str y))) (hl : x.length + y.length ≤ 1000) : Ev K (tOp (fun x y H Q => ∃ i j, x = .str i ∧ y = .str j ∧ i.length + j.length ≤ sizeLine ∧ Q (.str (i ++ j)) H) ta tb) σ H (.im (.str (x ++ y))) :=
  e_op ha hb fun x' y' H1 hx hy Q q => ⟨x, y, hx.sv, hy.sv, Nat.le_of_lt (small1000 hl), q _ _ (Same.refl _) (Im.str _)⟩
theorem e_gtP {p q : Int × Int} (ha : Ev K ta σ H (.im (cellT p))) (hb : Ev K tb σ H (.im (cellT q))) : Ev K (tOp (rGtP K) ta tb) σ H (.im (.bl (lex2 q p))) :=
  e_op ha hb fun x y H1 hx hy Q k => by
    obtain ⟨a, vs, ea, sa, ia⟩ := Im.tup_inv (show Im K H1 x (.tup [.int p.1, .int p.2]) from hx)
    obtain ⟨a2, vs2, ea2, sa2, ia2⟩ := Im.tup_inv (show Im K H1 y (.tup [.int q.1, .int q.2]) from hy)
    have e1 := ims_ints (xs := [p.1, p.2]) ia
    have e2 := ims_ints (xs := [q.1, q.2]) ia2
    subst e1 e2
    exact ⟨a, a2, p, q, ea, ea2, sa, sa2, k _ _ (Same.refl _) (Im.bl _)⟩
theorem n_listRg {n : Nat} (h : Ev K ta σ H (.im (.int (n : Int)))) (hn : n ≤ 100000) : EvN K (tLstRg (tRg1 ta)) σ H (rowL n T.int) := fun H1 s Q q => h H1 s _ fun x H2 s2 hx => by
  refine ⟨n, hx.iv, ⟨by omega, by omega, by omega, by omega, by omega⟩, fun p hp => ?_⟩
  refine q p _ _ (s2.free hp) (s2.trans (same_new hp)) upd_same ?_
  have e : rgV 0 (n : Int) = (List.range n).map fun i : Nat => V.int (i : Int) := by
    unfold rgV
    simp
  rw [e]
  have := Ims.ints (K := K) (H := upd H2 p (.lst ((List.range n).map fun i : Nat => V.int (i : Int)))) ((List.range n).map fun i : Nat => (i : Int))
  rw [List.map_map, List.map_map] at this
  exact this
theorem n_revL (h : Ev K ta σ H (.ls ts)) : EvN K (tRevL K ta) σ H ts.reverse := fun H1 s Q q => h H1 s _ fun x H2 s2 hx => by
  obtain ⟨a, xs, e, hq, hi⟩ := hx
  exact ⟨a, xs, e, hq, fun p hp => q p _ _ (s2.free hp) (s2.trans (same_new hp)) upd_same (hi.reverse.mono (keep_new hp))⟩
/- the fields of a floor -/
theorem e_rows (F : FlC K C) (ha : Ev K ta σ H (.fl C rows cells h w)) : Ev K (tFld K ta "rows") σ H (.im (.tup rows)) := fun H1 s Q q => ha H1 s _ fun x H2 s2 hx => by
  obtain ⟨a, e, ⟨dx, r, c, ho, h1, h2⟩⟩ := hx
  exact ⟨a, C, dx, _, r, e, ho, F.c, F.rows, rfl, q _ _ s2 h1⟩
theorem e_fh (F : FlC K C) (ha : Ev K ta σ H (.fl C rows cells h w)) : Ev K (tFld K ta "h") σ H (.im (.int h)) := fun H1 s Q q => ha H1 s _ fun x H2 s2 hx => by
  obtain ⟨a, e, ⟨dx, r, c, ho, h1, h2⟩⟩ := hx
  exact ⟨a, C, dx, _, .int h, e, ho, F.c, F.h, rfl, q _ _ s2 (Im.int h)⟩
theorem e_fw (F : FlC K C) (ha : Ev K ta σ H (.fl C rows cells h w)) : Ev K (tFld K ta "w") σ H (.im (.int w)) := fun H1 s Q q => ha H1 s _ fun x H2 s2 hx => by
  obtain ⟨a, e, ⟨dx, r, c, ho, h1, h2⟩⟩ := hx
  exact ⟨a, C, dx, _, .int w, e, ho, F.c, F.w, rfl, q _ _ s2 (Im.int w)⟩
/- a call with a keyword -/
theorem e_callK {R : List D → O → Prop} {E : L2.St → XK} {n : Nat} (h : EvA K args σ H ds) (hk : EvA K tk σ H es) (hn : ds.length = n) (h1 : es.length = 1) (hr : R (ds ++ es) (.ok d)) : Ev K (tCallKS n 1 (spO K mg R) E args tk) σ H d := fun H1 s Q q =>
  h H1 s _ fun vs H2 s2 hv => hk H2 (s.trans s2) _ fun zs H3 s3 hz => by
    refine ⟨hv.length.trans hn, hz.length.trans h1, ds ++ es, .ok d, ?_, hr, fun v H' s4 hd => q v H' ((s2.trans s3).trans s4) hd⟩
    have app : ∀ {vs zs : List V} {ds es : List D}, Iss K H3 vs ds → Iss K H3 zs es → Iss K H3 (vs ++ zs) (ds ++ es) := by
      intro vs zs ds es h g
      induction h with
      | nil => exact g
      | cons h1 _ ih => exact .cons h1 ih
    exact app (L2.Same.iss s3 hv) hz
/- statements -/
variable {nx bk ct : L2.St → Hp → Prop} {rt : VK}
/-- a name for the parts of a pair -/
theorem s_pair (K : PySem.W.Frag) {k l : Nat} (h : Ev K te σ H (.im (.tup [t, u]))) (q : ∀ v w H', Same H H' → Im K H' v t → Im K H' w u → nx ((σ.set k (some v)).set l (some w)) H') : tAsg te (gTup K 2 (gCons (gName k) (gCons (gName l) gNil))) ⟨nx, rt, bk, ct⟩ σ H := h H (Same.refl H) _ fun x H1 s hx => by
  obtain ⟨v, w, h1, h2, h3⟩ := g_pair (σ := σ) (i := k) (j := l) (show Im K H1 x (.tup [t, u]) from hx)
  exact h3 _ (q v w H1 s h1 h2)
theorem s_ii (K : PySem.W.Frag) {k l : Nat} {m n : Int} (h : Ev K te σ H (.im (.tup [.int m, .int n]))) (q : ∀ H', Same H H' → nx ((σ.set k (some (.int m))).set l (some (.int n))) H') : tAsg te (gTup K 2 (gCons (gName k) (gCons (gName l) gNil))) ⟨nx, rt, bk, ct⟩ σ H := s_pair K h fun v w H' s h1 h2 => by
  rw [h1.int_inv, h2.int_inv]
  exact q H' s
/-- a call for its own sake that goes through or not -/
theorem s_dropC {R : List D → O → Prop} {E : L2.St → XK} {o : O} (h : EvA K args σ H ds) (hr : R ds o) (h1 : ∀ d, o = .ok d → ∀ H', Same H H' → nx σ H') (h2 : ∀ x fs, o = .ex x fs → ∀ H', Same H H' → Out K mg H' (fun _ _ => False) (E σ) o) : tDrop (tCallS (spO K mg R) E args) ⟨nx, rt, bk, ct⟩ σ H :=
  h H (Same.refl H) _ fun vs H1 s1 hv => ⟨ds, o, hv, hr, by
    cases o with
    | ok d => exact fun v H' s2 hd => h1 d rfl H' (s1.trans s2)
    | ex x fs => exact h2 x fs rfl H1 s1⟩
/-- raise: what the promise lets out -/
theorem s_raise {P : Program} {w : World} {base : Heap} {x : Str} {k : Nat} {fs : List Str} {E : XK} (G : Xf P w K mg base x k fs) (hn : fs.Nodup) (hs : fs.length ≤ 900)
    (h : EvA K args σ H ds) (ed : ds = ts.map D.im) (hl : ts.length = fs.length) (he : fs.length ≤ 2) {Q : VK} {H0 : Hp} (s0 : Same H0 H) (o : Out K mg H0 Q E (.ex x (fs.zip ts).reverse)) {De : Ends} : tRz K mg x fs (fun cls d _ H => E cls d H) args De σ H :=
  s_rz G hn hs (ed ▸ h) hl fun C d vs H' hm s hd e hi => by
    have lv : vs.length = fs.length := hi.length.trans hl
    have z1 : (fs.zip ts).reverse.map (·.1) = fs.reverse := by rw [List.map_reverse, List.map_fst_zip (by omega)]
    have z2 : (fs.zip ts).reverse.map (·.2) = ts.reverse := by rw [List.map_reverse, List.map_snd_zip (by omega)]
    refine o C d vs.reverse H' hm (s0.trans s) (s0.free hd) ?_ ?_
    · rw [z1, e]
      congr 2
      match fs, vs, lv, he with
      | [], _, _, _ => rfl
      | [f], [v], _, _ => rfl
      | [f, g], [v, u], _, _ => rfl
    · rw [z2]
      exact hi.reverse
theorem n_if (h : EvT K tt σ H b) (h1 : b = true → EvN K ta σ H ts) (h2 : b = false → EvN K tb σ H ts) : EvN K (tIf tt ta tb) σ H ts := fun H1 s Q q =>
  h H1 s _ fun H2 s2 => by
    cases b with
    | true => exact iteT (h1 rfl H2 (s.trans s2) Q fun p vs H' hp s3 e hi => q p vs H' (s2.free hp) (s2.trans s3) e hi)
    | false => exact iteF (h2 rfl H2 (s.trans s2) Q fun p vs H' hp s3 e hi => q p vs H' (s2.free hp) (s2.trans s3) e hi)
theorem s_newT {j : Nat} (q : ∀ p, H p = none → nx (σ.set j (some (.ref p))) (upd H p (.dT []))) : tAsg tDNewT (gName j) ⟨nx, rt, bk, ct⟩ σ H := fun p hp => q p hp
/- the table of a sweep -/
theorem e_dgetT {S : Tab} {cl : Cell} {p : Addr} {k : Nat} (hσ : σ[k]? = some (some (.ref p))) (hp : TabAt H p S) (h : EvA K args σ H [.im (.int cl.1), .im (.int cl.2)]) : Ev K (tDGet1 (tVar k) (tTup args)) σ H (.im (oT (look S cl))) := fun H1 s Q q =>
  ⟨_, hσ, p, rfl, .inr ⟨_, .inl (s _ _ hp)⟩, h H1 s _ fun vs H2 s2 hv => by
    obtain ⟨v, u, rfl, h1, h2⟩ := hv.two_inv
    rw [h1.iv, h2.iv]
    refine ⟨Nat.le_of_ble_eq_true rfl, fun b hb => ⟨valV (tabKvs S) [.inl cl.1, .inl cl.2], DGet.t ((same_new hb) _ _ (s2 _ _ (s _ _ hp))) (by rw [upd_same] <;> rfl), ?_⟩⟩
    refine q _ _ (s2.trans (same_new hb)) ?_
    rw [tab_get]
    unfold look
    cases S.lookup cl with
    | none => exact Im.non
    | some o => exact im_oV o⟩
theorem s_dputT {S : Tab} {cl : Cell} {o : Option Int} {p : Addr} {k : Nat} (K : PySem.W.Frag) (hσ : σ[k]? = some (some (.ref p))) (hp : TabAt H p S) (hv : Ev K te σ H (.im (oT o))) (h : EvA K args σ H [.im (.int cl.1), .im (.int cl.2)]) (hn : S.lookup cl = none) (hl : S.length ≤ 100000)
    (q : ∀ H', Same H H' → nx σ (upd H' p (.dT (tabKvs (S ++ [(cl, o)]))))) : sDPut (tVar k) (tTup args) te ⟨nx, rt, bk, ct⟩ σ H := hv H (Same.refl H) _ fun v H1 s1 hv => ⟨_, hσ, h H1 s1 _ fun vs H2 s2 hvs => by
    obtain ⟨v1, u, rfl, h1, h2⟩ := hvs.two_inv
    rw [h1.iv, h2.iv, oV_inv (show Im K H1 v (oT o) from hv)]
    refine ⟨Nat.le_of_ble_eq_true rfl, fun b hb => ?_⟩
    have e3 := (same_new (o := .tup [.int cl.1, .int cl.2]) hb) _ _ (s2 _ _ (s1 _ _ hp))
    refine ⟨p, _, rfl, DPut.t (k := [.inl cl.1, .inl cl.2]) e3 (by rw [upd_same] <;> rfl) (by unfold tabKvs; rw [List.length_map]; exact lt_line hl), ?_⟩
    rw [tab_put S cl o hn]
    exact q _ (s1.trans (s2.trans (same_new hb)))⟩
theorem e_minD {ns : List Int} {p : Addr} {k : Nat} (hσ : σ[k]? = some (some (.ref p))) (hp : SqL K H p (ns.map V.int)) : Ev K (tCKw (rMinD K) (tCons (tVar k) tNil) (tCons (tC .non) tNil)) σ H (.im (oT (leastO ns))) := fun H1 s Q q =>
  ⟨_, hσ, p, ns, rfl, rfl, L2.Same.sqL s hp, fun e => by
    subst e
    exact q _ _ (Same.refl _) Im.non, fun n h l => by
    rw [leastO_of h l] at q
    exact q _ _ (Same.refl _) (Im.int n)⟩
theorem enum_at {ts : List T} {n : Nat} {f : Nat → T} (h : ts = (List.range n).map f) : enumT 0 ts = (List.range n).map fun i : Nat => T.tup [.int (i : Int), f i] := by
  subst h
  refine List.ext_getElem? fun i => ?_
  rw [enumT_get, List.getElem?_map, List.getElem?_map]
  by_cases hi : i < n
  · rw [List.getElem?_range hi]
    simp
  · rw [List.getElem?_eq_none (by simpa using hi)]
    rfl
theorem enum_rows {h w : Nat} {f : Cell → T} : enumT 0 (rowsL h w f) = (List.range h).map fun y : Nat => T.tup [.int (y : Int), .tup (rowL w fun x => f ((y : Int), x))] := enum_at rfl
theorem enum_row {w : Nat} {f : Int → T} : enumT 0 (rowL w f) = (List.range w).map fun x : Nat => T.tup [.int (x : Int), f (x : Int)] := enum_at rfl
theorem oT_okd (o : Option Int) (n : Nat) : (oT o).okd n = true := by cases o <;> cases n <;> rfl
theorem oT_beq (u v : Option Int) : T.beq (oT u) (oT v) = decide (u = v) := by
  cases u with
  | none => cases v <;> rfl
  | some i =>
    cases v with
    | none => rfl
    | some j =>
      show (i == j) = decide (some i = some j)
      rw [Bool.eq_iff_iff]
      simp
theorem e_neO {u v : Option Int} (ha : Ev K ta σ H (.im (oT u))) (hb : Ev K tb σ H (.im (oT v))) : Ev K (tOp (rNeD K) ta tb) σ H (.im (.bl (!decide (u = v)))) := ev_eq (e_ne ha hb (oT_okd _ 5) (oT_okd _ 5)) (by rw [oT_beq])
/- a place of a matrix -/
theorem atI_row {w : Nat} {f : Int → T} {x : Int} (h0 : 0 ≤ x) (h1 : x < w) : atI (rowL w f) x = some (f x) := by
  refine atI_of h0 ?_
  unfold rowL
  rw [List.getElem?_map, List.getElem?_range (by omega)]
  show some (f ((x.toNat : Nat) : Int)) = some (f x)
  rw [Int.toNat_of_nonneg h0]
theorem atI_rows {h w : Nat} {f : Cell → T} {y : Int} (h0 : 0 ≤ y) (h1 : y < h) : atI (rowsL h w f) y = some (.tup (rowL w fun x => f (y, x))) := by
  refine atI_of h0 ?_
  unfold rowsL
  rw [List.getElem?_map, List.getElem?_range (by omega)]
  show some (T.tup (rowL w fun x => f (((y.toNat : Nat) : Int), x))) = some (.tup (rowL w fun x => f (y, x)))
  rw [Int.toNat_of_nonneg h0]
theorem e_mat {h w : Nat} {f : Cell → T} {y x : Int} (ha : Ev K ta σ H (.im (matT h w f))) (hb : Ev K tb σ H (.im (.int y))) (hc : Ev K tc σ H (.im (.int x))) (y0 : 0 ≤ y) (y1 : y < h) (x0 : 0 ≤ x) (x1 : x < w) :
    Ev K (tOp (rIx K) (tOp (rIx K) ta tb) tc) σ H (.im (f (y, x))) := e_ix (e_ix ha.sq_im hb (atI_rows y0 y1)).sq_im hc (atI_row x0 x1)
theorem fl_ins {F : Fl} {c : Cell} : F.ins c = true ↔ 0 ≤ c.1 ∧ c.1 < F.h ∧ 0 ≤ c.2 ∧ c.2 < F.w := by
  unfold Fl.ins
  simp only [Bool.and_eq_true, decide_eq_true_eq]
theorem mat_congr {h w : Nat} {f g : Cell → T} (e : ∀ y x : Int, 0 ≤ y → y < h → 0 ≤ x → x < w → f (y, x) = g (y, x)) : matT h w f = matT h w g := by
  unfold matT rowsL rowL
  congr 1
  refine List.map_congr_left fun y hy => ?_
  congr 1
  refine List.map_congr_left fun x hx => ?_
  have := List.mem_range.mp hy
  have := List.mem_range.mp hx
  exact e _ _ (by omega) (by omega) (by omega) (by omega)
theorem grid_congr {F : Fl} {f g : Grid} (e : ∀ c, F.ins c = true → f c = g c) : F.gridT f = F.gridT g := mat_congr fun y x a b c d => by rw [e (y, x) (fl_ins.mpr ⟨a, b, c, d⟩)]
theorem Item.okd (i : Item) (n : Nat) : i.t.okd n = true := by
  cases i with
  | wall => exact (show PyData.strOk _ = true by decide +kernel)
  | free => cases n <;> rfl
  | num j => cases n <;> rfl
theorem Item.beq_wall (i : Item) : T.beq i.t (.str "#") = decide (i = .wall) := by
  cases i with
  | wall => exact (by decide +kernel : T.beq (.str "#") (.str "#") = decide (Item.wall = .wall))
  | free => rfl
  | num j => rfl
theorem e_wall {it : Item} (ha : Ev K ta σ H (.im it.t)) (hb : Ev K tb σ H (.im (.str "#"))) : Ev K (tOp (rEqD K) ta tb) σ H (.im (.bl (decide (it = .wall)))) := ev_eq (e_eq ha hb (it.okd 5) (Item.okd .wall 5)) (by rw [Item.beq_wall])
theorem e_noWall {it : Item} (ha : Ev K ta σ H (.im it.t)) (hb : Ev K tb σ H (.im (.str "#"))) : Ev K (tOp (rNeD K) ta tb) σ H (.im (.bl (!decide (it = .wall)))) := ev_eq (e_ne ha hb (it.okd 5) (Item.okd .wall 5)) (by rw [Item.beq_wall])
/- an instance that is being filled -/
theorem s_fld {a dx : Addr} {fs : List (Str × V)} {f : Str} {k : Nat} (K : PySem.W.Frag) (hσ : σ[k]? = some (some (.ref a))) (ha : H a = some (.ins C dx fs)) (c : Cls K C) (n : NoAttr K C f) (hl : fs.length < 1000) (h : Ev K te σ H d)
    (q : ∀ v H', Same H H' → Is K H' v d → nx σ (upd H' a (.ins C dx (putF f v fs)))) : sFld K (tVar k) te f ⟨nx, rt, bk, ct⟩ σ H :=
  h H (Same.refl H) _ fun v H1 s hv => ⟨_, hσ, a, C, dx, fs, rfl, s _ _ ha, c, n, hl, q v H1 s hv⟩
theorem e_fldS {a dx : Addr} {fs : List (Str × V)} {f : Str} {k : Nat} {v : V} (hσ : σ[k]? = some (some (.ref a))) (ha : H a = some (.ins C dx fs)) (c : Cls K C) (n : NoAttr K C f) (hf : fs.lookup f = some v) (hv : Is K H v d) : Ev K (tFld K (tVar k) f) σ H d := fun H1 s Q q =>
  ⟨_, hσ, a, C, dx, fs, v, rfl, s _ _ ha, c, n, hf, q v H1 (Same.refl _) (s.is hv)⟩
/- a place of a list is set -/
/-- the expression gives the object at p -/
def EvR (K : PySem.W.Frag) (te : TE) (σ : L2.St) (H : Hp) (p : Addr) : Prop := ∀ H1, Same H H1 → ∀ Q : VK, (∀ H', Same H1 H' → Q (.ref p) H') → te σ H1 Q
theorem r_var {k : Nat} {p : Addr} (hσ : σ[k]? = some (some (.ref p))) : EvR K (tVar k) σ H p := fun H1 s Q q => ⟨_, hσ, q H1 (Same.refl _)⟩
theorem r_ix {ps : List Addr} {n p : Addr} (ha : EvR K ta σ H n) (hn : H n = some (.lst (ps.map V.ref))) (hb : Ev K tb σ H (.im (.int i))) (e : atI ps i = some p) : EvR K (tOp (rIx K) ta tb) σ H p := fun H1 s Q q =>
  ha H1 s _ fun H2 s2 => hb H2 (s.trans s2) _ fun y H3 s3 hy => .inl ⟨n, ps.map V.ref, i, .ref p, rfl, hy.iv, .inl (.inl (s3 _ _ (s2 _ _ (s _ _ hn)))), by
    unfold atI at e ⊢
    rw [List.length_map]
    cases z : ixN ps.length i with
    | none => rw [z] at e; cases e
    | some j =>
      rw [z] at e
      show (ps.map V.ref)[j]? = _
      rw [List.getElem?_map, show ps[j]? = some p from e]
      rfl, q H3 (s2.trans s3)⟩
/-- an item of a list that the expression gives -/
theorem e_ixR {vs : List V} {ts : List T} {p : Addr} (ha : EvR K ta σ H p) (hp : H p = some (.lst vs)) (hi : Ims K H vs ts) (hb : Ev K tb σ H (.im (.int i))) (e : atI ts i = some t) : Ev K (tOp (rIx K) ta tb) σ H (.im t) := fun H1 s Q q =>
  ha H1 s _ fun H2 s2 => hb H2 (s.trans s2) _ fun y H3 s3 hy => by
    have sx := s.trans (s2.trans s3)
    obtain ⟨v, e2, hv⟩ := atI_ims (L2.Same.ims sx hi) e
    exact .inl ⟨p, vs, i, v, rfl, hy.iv, .inl (.inl (sx _ _ hp)), e2, q v H3 (s2.trans s3) hv⟩
theorem s_setAt {p : Addr} {xs : List V} {to : TE} {k : Int} {j : Nat} (K : PySem.W.Frag) (ho : EvR K to σ H p) (hp : H p = some (.lst xs)) (hk : Ev K ti σ H (.im (.int k))) (hj : ixN xs.length k = some j) (h : Ev K te σ H d)
    (q : ∀ v H', Same H H' → Is K H' v d → nx σ (upd H' p (.lst (xs.set j v)))) : tAsg te (gSub to ti rSetL) ⟨nx, rt, bk, ct⟩ σ H := h H (Same.refl H) _ fun v H1 s1 hv =>
  ho H1 s1 _ fun H2 s2 => hk H2 (s1.trans s2) _ fun y H3 s3 hy => ⟨p, xs, k, j, rfl, hy.iv, s3 _ _ (s2 _ _ (s1 _ _ hp)), hj, q v H3 (s1.trans (s2.trans s3)) ((s2.trans s3).is hv)⟩
theorem ixN_of {n : Nat} {k : Int} (h0 : 0 ≤ k) (h1 : k < n) : ixN n k = some k.toNat := by
  unfold ixN
  rw [if_pos h0]
  simp
  omega
def Item.isNum : Item → Bool
  | .num _ => true
  | _ => false
theorem e_isNum {it : Item} (ha : Ev K ta σ H (.im it.t)) : Ev K (tIsi K "int" ta) σ H (.im (.bl it.isNum)) := by
  cases it with
  | wall => exact e_isi ha kit_str_int
  | free => exact e_isi ha kit_non_int
  | num i => exact e_isi ha kit_int_int
/- any -/
theorem ims_bls : ∀ {vs : List V} {bs : List Bool}, Ims K H vs (bs.map T.bl) → vs = bs.map V.bl
  | [], [], _ => rfl
  | _, b :: bs, h => by
    obtain ⟨v, ws, rfl, h1, h2⟩ := h.cons_inv
    rw [h1.bl_inv, ims_bls h2] <;> rfl
theorem e_any {bs : List Bool} (h : EvN K te σ H (bs.map T.bl)) : Ev K (tB1 (rAnyQ K) te) σ H (.im (.bl (bs.any id))) := fun H1 s Q q => h H1 s _ fun p vs H2 hp s2 e hi => by
  have z := ims_bls hi
  subst z
  exact ⟨p, bs, rfl, .inl (.inl e), q _ _ s2 (Im.bl _)⟩
/- while -/
theorem s_while {c : TT} {tb : TS} (K : PySem.W.Frag) (Pv : Nat → L2.St → Hp → Prop) (n : Nat) (h0 : Pv n σ H) (hs : ∀ m σ' H', Pv m σ' H' → ∃ b, EvT K c σ' H' b ∧ (b = true → ∀ H1, Same H' H1 → tb ⟨fun σ2 H2 => ∃ k, k < m ∧ Pv k σ2 H2, rt, nx, fun σ2 H2 => ∃ k, k < m ∧ Pv k σ2 H2⟩ σ' H1) ∧ (b = false → ∀ H1, Same H' H1 → nx σ' H1)) :
    tWhile c tb ⟨nx, rt, bk, ct⟩ σ H := ⟨Pv, ⟨n, h0⟩, fun m σ' H' p => by
  obtain ⟨b, hc, h1, h2⟩ := hs m σ' H' p
  refine hc H' (Same.refl H') _ fun H1 s => ?_
  cases b with
  | true => exact iteT ⟨_, fun _ _ z => z, h1 rfl H1 s⟩
  | false => exact iteF (h2 rfl H1 s)⟩
theorem Out.mono {Q : VK} {E : XK} {o : O} (s : Same H H') (h : Out K mg H Q E o) : Out K mg H' Q E o := by
  cases o with
  | ok d => exact fun v H2 s2 hd => h v H2 (s.trans s2) hd
  | ex x fs => exact fun C dd vs H2 hm s2 hd e hi => h C dd vs H2 hm (s.trans s2) (s.free hd) e hi
/-- what an error lets out does not look at the answers -/
theorem Out.err {Q Q' : VK} {E : XK} {x : Str} {fs : List (Str × T)} (h : Out K mg H Q E (.ex x fs)) : Out K mg H Q' E (.ex x fs) := h
/-- x += 1 -/
theorem s_incI {k : Nat} {m n : Int} (K : PySem.W.Frag) (hσ : σ[k]? = some (some (.int m))) (h : Ev K te σ H (.im (.int n))) (q : ∀ H', Same H H' → nx (σ.set k (some (.int (m + n)))) H') : tAug k te (ipI fun i j => i + j) ⟨nx, rt, bk, ct⟩ σ H :=
  ⟨_, hσ, h H (Same.refl H) _ fun v H1 s hv => ⟨m, n, rfl, hv.iv, q H1 s⟩⟩
/- grids that are compared -/
theorem T.pures_map {α : Type} {f : α → T} : ∀ {l : List α}, (∀ a ∈ l, (f a).pure = true) → T.pures (l.map f) = true
  | [], _ => rfl
  | a :: r, h => by
    show (T.pure (f a) && T.pures (r.map f)) = true
    rw [h a List.mem_cons_self, T.pures_map fun b hb => h b (List.mem_cons_of_mem _ hb)]
    rfl
theorem T.okds_map {α : Type} {f : α → T} {n : Nat} : ∀ {l : List α}, (∀ a ∈ l, (f a).okd n = true) → T.okds (l.map f) n = true
  | [], _ => rfl
  | a :: r, h => by
    show (T.okd (f a) n && T.okds (r.map f) n) = true
    rw [h a List.mem_cons_self, T.okds_map fun b hb => h b (List.mem_cons_of_mem _ hb)]
    rfl
theorem oT_pure (o : Option Int) : (oT o).pure = true := by cases o <;> rfl
theorem mat_okd {h w : Nat} {f : Cell → T} (hf : ∀ c, (f c).okd 3 = true) : (matT h w f).okd 5 = true := T.okds_map fun y _ => T.okds_map fun x _ => hf _
theorem mat_pure {h w : Nat} {f : Cell → T} (hf : ∀ c, (f c).pure = true) : (matT h w f).pure = true := T.pures_map fun y _ => T.pures_map fun x _ => hf _
theorem mat_inj {h w : Nat} {f g : Cell → T} (e : matT h w f = matT h w g) {y x : Int} (y0 : 0 ≤ y) (y1 : y < h) (x0 : 0 ≤ x) (x1 : x < w) : f (y, x) = g (y, x) := by
  have e : rowsL h w f = rowsL h w g := by injection e
  have a := atI_rows (h := h) (w := w) (f := f) y0 y1
  rw [e, atI_rows y0 y1] at a
  have a := Option.some.inj a
  injection a with a
  have b := atI_row (w := w) (f := fun x => f (y, x)) x0 x1
  rw [← a, atI_row x0 x1] at b
  exact (Option.some.inj b).symm
theorem oT_inj {u v : Option Int} (h : oT u = oT v) : u = v := by
  cases u with
  | none => cases v with
    | none => rfl
    | some j => cases h
  | some i => cases v with
    | none => cases h
    | some j =>
      injection h with h
      rw [h]
/-- two grids are told as one -/
def Fl.same (F : Fl) (a b : Grid) : Bool := T.beq (F.gridT a) (F.gridT b)
theorem same_iff {F : Fl} {a b : Grid} : F.same a b = true ↔ ∀ c, F.ins c = true → a c = b c := by
  unfold Fl.same
  rw [T.beq_iff (t := F.gridT a) (u := F.gridT b) (mat_pure fun _ => oT_pure _) (mat_pure fun _ => oT_pure _)]
  refine ⟨fun e c hc => ?_, grid_congr⟩
  obtain ⟨y0, y1, x0, x1⟩ := fl_ins.mp hc
  exact oT_inj (mat_inj e y0 y1 x0 x1)
theorem e_neG {F : Fl} {a b : Grid} (ha : Ev K ta σ H (.im (F.gridT a))) (hb : Ev K tb σ H (.im (F.gridT b))) : Ev K (tOp (rNeD K) ta tb) σ H (.im (.bl (!F.same a b))) := e_ne ha hb (mat_okd fun _ => oT_okd _ 3) (mat_okd fun _ => oT_okd _ 3)
theorem e_eqG {F : Fl} {a b : Grid} (ha : Ev K ta σ H (.im (F.gridT a))) (hb : Ev K tb σ H (.im (F.gridT b))) : Ev K (tOp (rEqD K) ta tb) σ H (.im (.bl (F.same a b))) := e_eq ha hb (mat_okd fun _ => oT_okd _ 3) (mat_okd fun _ => oT_okd _ 3)
end
/-! ### runs -/
def Fl.run (F : Fl) (mask : List Move) (ord : Nat → Ord) : Nat → Grid
  | 0 => F.start
  | k + 1 => F.sweep mask (ord k) (F.run mask ord k)
/-- how many cells each sweep changes -/
def Fl.chL (F : Fl) (r : Nat → Grid) (n : Nat) : List Int := (List.range n).map fun k => ((F.nch (r k) (r (k + 1)) : Nat) : Int)
theorem chL_succ {F : Fl} {r : Nat → Grid} {n : Nat} : F.chL r (n + 1) = F.chL r n ++ [((F.nch (r n) (r (n + 1)) : Nat) : Int)] := by unfold Fl.chL; rw [List.range_succ, List.map_append]; rfl
theorem atI_neg1 {α : Type} {l : List α} {x : α} : atI (l ++ [x]) (-1) = some x := by
  unfold atI ixN
  simp
  rw [if_pos (by omega)]
  have e : (-1 + ((l.length : Int) + 1)).toNat = l.length := by omega
  rw [e]
  simp
def altO (a : Ord) (k : Nat) : Ord := if k % 2 = 0 then a else a.opp
def wordO (os : List Ord) (k : Nat) : Ord := os.getD (k % os.length) ⟨true, true, true⟩
/-- the sweeps without a change, at the end of k sweeps -/
def Fl.idle (F : Fl) (r : Nat → Grid) : Nat → Nat
  | 0 => 0
  | k + 1 => if F.same (r (k + 1)) (r k) then F.idle r k + 1 else 0
theorem opp_opp (a : Ord) : a.opp.opp = a := by rcases a with ⟨r, d, x⟩; cases d <;> cases x <;> rfl
theorem altO_succ (a : Ord) (k : Nat) : altO a (k + 1) = (altO a k).opp := by
  unfold altO
  by_cases h : k % 2 = 0
  · rw [if_pos h, if_neg (by omega)]
  · rw [if_neg h, if_pos (by omega), opp_opp]
end TW

set_option Elab.async false
set_option linter.all false
set_option maxRecDepth 100000
set_option maxHeartbeats 4000000
namespace TW
open PySem PySem.Spec PyProof.Rows L2 SrtO
/-- a pair of two pairs of whole numbers -/
def IsNest (h : Heap) (v : Value) (p q : Int × Int) : Prop := ∃ (a : Addr) (o : Obj) (n : Nat) (v1 v2 : Value), v = .ref a ∧ h.get? a = some o ∧ o.cls = .type "tuple" ∧ o.data = .seq #[v1, v2] n ∧ Srt.IsPair h v1 p.1 p.2 ∧ Srt.IsPair h v2 q.1 q.2
theorem IsNest.keeps {h h' : Heap} {v : Value} {p q : Int × Int} (x : IsNest h v p q) (k : ∀ b o, h.get? b = some o → o.cls = .type "tuple" → h'.get? b = some o) : IsNest h' v p q := by
  obtain ⟨a, o, n, v1, v2, e, h1, h2, h3, h4, h5⟩ := x
  exact ⟨a, o, n, v1, v2, e, k _ _ h1 h2, h2, h3, h4.keeps k, h5.keeps k⟩
section
variable {prog : Program} {w : World} {A : Around} {E : Value → Shared → Prop} {s : Shared}
theorem pair_reads {h : Heap} {v : Value} {x y : Int} (p : Srt.IsPair h v x y) : ∃ as, Reads h v (.tuple [.int x, .int y]) as := by
  obtain ⟨a, o, t, u, n, e, ho, hc, hd⟩ := p
  subst e
  exact ⟨_, .tuple ho hc hd (.cons (.int _ _) (.cons (.int _ _) .nil))⟩
theorem nest_cmp {vs : List Value} {k : Value → Int × Int} {c : Value → Int × Int} (hp : ∀ v ∈ vs, IsNest s.heap v (k v) (c v)) (hi : ∀ v ∈ vs, ∀ u ∈ vs, k v = k u → c v = c u) (hu : A.units + 2 < cLine) : Cmp prog w A s (tuples' false) (fun p => p.1 ∈ vs) (lt2 fun v u => lexB (k v) (k u)) := by
  intro p q hm hm'
  obtain ⟨a, o, n, v1, v2, e, ho, hc, hd, p1, p2⟩ := hp _ hm
  obtain ⟨a', o', n', v1', v2', e', ho', hc', hd', p1', p2'⟩ := hp _ hm'
  have hinj := hi _ hm _ hm'
  show wpAny (model prog w) A (keyLt' (tuples' false) p.1 q.1) (fun r s' => s' = s ∧ r = lexB (k p.1) (k q.1)) (fun _ _ => False) s
  generalize k p.1 = kx at *
  generalize k q.1 = ky at *
  generalize c p.1 = cx at *
  generalize c q.1 = cy at *
  rw [e, e']
  obtain ⟨_, r1⟩ := pair_reads p1
  obtain ⟨_, r2⟩ := pair_reads p2
  obtain ⟨_, r1'⟩ := pair_reads p1'
  obtain ⟨_, r2'⟩ := pair_reads p2'
  have eqk : ∀ (x y x' y' : Int), PyData.eqv (.tuple [.int x, .int y]) (.tuple [.int x', .int y']) = true ↔ (x, y) = (x', y') := by
    intro x y x' y'
    show ((x == x') && ((y == y') && true)) = true ↔ _
    rw [Bool.and_true, Bool.and_eq_true, beq_iff_eq, beq_iff_eq, Prod.mk.injEq]
  refine PySem.W.kat_lt ho hd ho' hd' ?_
  show PySem.W.KatLex prog w A false (decide (2 < 2)) _ [(v1, v1'), (v2, v2')] 0 s
  refine PySem.W.kat_cons (PySem.SeqAt.eqAt_reads _ _ A s _ _ _ _ r1 r1' (by rfl) (by rfl) (by simp [PyData.depth, PyData.depthAll]; omega) prog w _ _ ?_)
  refine PySem.W.kat_go (fun e1 => ?_) (fun e1 => ?_)
  · have ex : kx = ky := (eqk _ _ _ _).mp e1
    have ec := hinj ex
    refine PySem.W.kat_yes (PySem.W.kat_cons (PySem.SeqAt.eqAt_reads _ _ A s _ _ _ _ r2 r2' (by rfl) (by rfl) (by simp [PyData.depth, PyData.depthAll]; omega) prog w _ _ ?_))
    have e2 : PyData.eqv (.tuple [.int cx.1, .int cx.2]) (.tuple [.int cy.1, .int cy.2]) = true := (eqk _ _ _ _).mpr ec
    rw [e2]
    refine PySem.W.kat_yes (PySem.W.kat_nil ⟨rfl, ?_⟩)
    rw [ex]
    refine (lexB_no.mpr ?_).symm
    omega
  · have ex : ¬ kx = ky := fun z => by
      have := (eqk kx.1 kx.2 ky.1 ky.2).mpr z
      rw [this] at e1
      cases e1
    refine PySem.W.kat_no (PySem.W.kat_one _ _ ?_)
    obtain ⟨b, ob, t, u, m, eb, hob, hcb, hdb⟩ := p1
    obtain ⟨b', ob', t', u', m', eb', hob', hcb', hdb'⟩ := p1'
    subst eb eb'
    refine HT.lt_tupInts (ns := [kx.1, kx.2]) (ms := [ky.1, ky.2]) ⟨ob, hob, hcb, m, hdb⟩ ⟨ob', hob', hcb', m', hdb'⟩ (.cons _ _ (.cons _ _ .nil)) (.cons _ _ (.cons _ _ .nil)) (by omega) ?_
    have e3 : HT.lexLt [kx.1, kx.2] [ky.1, ky.2] = lexB kx ky := by
      rw [HT.lexLt_cons, HT.lexLt_cons, HT.lexLt_nil_nil]
      unfold lexB
      by_cases c1 : kx.1 = ky.1
      · rw [if_pos c1, if_pos c1]
        by_cases c2 : kx.2 = ky.2
        · rw [if_pos c2]
          exact (decide_eq_false (by omega)).symm
        · rw [if_neg c2]
      · rw [if_neg c1, if_neg c1]
    rw [e3]
    exact ⟨rfl, rfl⟩
theorem nest_sortableO {a : Addr} {vs : List Value} {k c : Value → Int × Int} (h0 : 0 < vs.length) (hp : ∀ v ∈ vs, IsNest s.heap v (k v) (c v)) (hi : ∀ v ∈ vs, ∀ u ∈ vs, k v = k u → c v = c u) (hu : A.units + 2 < cLine) (ha : ∀ o, s.heap.get? a = some o → o.cls ≠ .type "tuple") : SortableO prog w A s a vs fun v u => lexB (k v) (k u) := by
  intro h' keep
  have hp' : ∀ v ∈ vs, IsNest h' v (k v) (c v) := fun v hm => (hp v hm).keeps fun b o e c => keep b o (fun z => by subst z; exact ha o e c) e
  have firsts : ∀ vs : List Value, (∀ v ∈ vs, IsNest h' v (k v) (c v)) → ∃ fs, PySem.W.KatTups h' vs fs ∧ fs.length = vs.length ∧ ∀ f ∈ fs, ∃ (q : Addr) (o : Obj), f = Value.ref q ∧ h'.get? q = some o ∧ o.cls = .type "tuple" := by
    intro vs
    induction vs with
    | nil => exact fun _ => ⟨[], PySem.W.KatTups.nil, rfl, fun f hf => by cases hf⟩
    | cons v r ih =>
      intro hv
      obtain ⟨fs, h1, h2, h3⟩ := ih fun u hu => hv u (List.mem_cons_of_mem _ hu)
      obtain ⟨a, o, n, v1, v2, rfl, ho, hc, hd, p1, p2⟩ := hv v List.mem_cons_self
      refine ⟨v1 :: fs, PySem.W.KatTups.cons ho hc hd rfl h1, by rw [List.length_cons, List.length_cons, h2], fun f hf => ?_⟩
      rcases List.mem_cons.mp hf with rfl | hf
      · obtain ⟨b, ob, t, u, m, eb, hob, hcb, hdb⟩ := p1
        exact ⟨b, ob, eb, hob, hcb⟩
      · exact h3 f hf
  obtain ⟨fs, h1, h2, h3⟩ := firsts vs hp'
  refine ⟨tuples' false, fun Q E hq => ?_, nest_cmp hp' hi hu⟩
  refine PySem.W.kat_kind (T := .type "tuple") h1 (by omega) (fun f hm => ?_) (by rfl) ?_
  · obtain ⟨q, o, rfl, ho, hc⟩ := h3 f hm
    exact fun A Q E s k q => wpAny_typeOf_ref (k _ _ ho) (by rw [hc]; exact q)
  · have e : (Value.type "tuple" != Value.type "tuple") = false := by first | decide +kernel | rfl | decide
    rw [e]
    exact hq
end
theorem perm_map_of {α β : Type} {f : α → β} {us ws : List β} (p : us.Perm ws) : ∀ {xs : List α}, ws = xs.map f → ∃ ys : List α, us = ys.map f ∧ ys.Perm xs := by
  induction p with
  | nil =>
    intro xs e
    have : xs = [] := List.map_eq_nil_iff.mp e.symm
    subst this
    exact ⟨[], rfl, .nil⟩
  | cons x _ ih =>
    intro xs e
    match xs, e with
    | y :: r, e =>
      injection e with e1 e2
      obtain ⟨ys, e3, p3⟩ := ih e2
      exact ⟨y :: ys, by rw [e3, e1]; rfl, p3.cons y⟩
  | swap x y l =>
    intro xs e
    match xs, e with
    | a :: b :: r, e =>
      injection e with e1 e2
      injection e2 with e2 e3
      exact ⟨b :: a :: r, by rw [e1, e2, e3]; rfl, .swap _ _ _⟩
    | [a], e => injection e with e1 e2; cases e2
  | trans _ _ ih1 ih2 =>
    intro xs e
    obtain ⟨ys, e1, p1⟩ := ih2 e
    obtain ⟨zs, e2, p2⟩ := ih1 e1
    exact ⟨zs, e2, p2.trans p1⟩
abbrev PP := (Int × Int) × (Int × Int)
def NestAt (K : PySem.W.Frag) (H : Hp) (x : V) (p : PP) : Prop := ∃ t t1 t2, x = V.ref t ∧ SqT K H t [.ref t1, .ref t2] ∧ SqT K H t1 [.int p.1.1, .int p.1.2] ∧ SqT K H t2 [.int p.2.1, .int p.2.2]
section
variable {X : Cx}
/-- sorted(xs) of pairs of two pairs: by the first, where it tells the second -/
def rSortN (K : PySem.W.Frag) : List V → Hp → VK → Prop := fun vs H Q => ∃ (a : Addr) (zs : List (V × PP)), vs = [V.ref a] ∧ SqL K H a (zs.map (·.1)) ∧ (∀ z ∈ zs, NestAt K H z.1 z.2) ∧ (∀ z ∈ zs, ∀ y ∈ zs, z.2.1 = y.2.1 → z.2.2 = y.2.2) ∧
  ∀ (ys : List (V × PP)) p, ys.Perm zs → ys.Pairwise (fun z y => lexB y.2.1 z.2.1 = false) → H p = none → Q (.ref p) (upd H p (.lst (ys.map (·.1))))
theorem cr_sortN (hu : X.A.units + 64 < cLine) : CallR X (.builtin "sorted") (rSortN X.K) := by
  intro pins s σ H vs us Q I r h
  obtain ⟨a, zs, rfl, hs, hx, hi, q⟩ := h
  obtain ⟨its, rv, hl, hz⟩ := I.list hs
  obtain ⟨u, rfl, ru⟩ := vals1 r
  obtain rfl : u = Value.ref a := ru
  have fn : ∀ x p p', NestAt X.K H x p → NestAt X.K H x p' → p = p' := by
    rintro x p p' ⟨t, t1, t2, rfl, h1, h2, h3⟩ ⟨t', t1', t2', e, h1', h2', h3'⟩
    cases e
    have z := I.tuple_inj h1 h1'
    injection z with z1 z2
    injection z2 with z2
    cases z1
    cases z2
    have y := I.tuple_inj h2 h2'
    injection y with y1 y2
    injection y2 with y2
    injection y1 with y1
    injection y2 with y2
    have w := I.tuple_inj h3 h3'
    injection w with w1 w2
    injection w2 with w2
    injection w1 with w1
    injection w2 with w2
    exact Prod.ext (Prod.ext y1 y2) (Prod.ext w1 w2)
  classical
  have ex : ∀ x : V, ∃ p : PP, x ∈ zs.map (·.1) → NestAt X.K H x p := fun x => by
    by_cases c : x ∈ zs.map (·.1)
    · obtain ⟨z, hz, rfl⟩ := List.mem_map.mp c
      exact ⟨z.2, fun _ => hx z hz⟩
    · exact ⟨((0, 0), (0, 0)), fun z => absurd z c⟩
  let g : V → PP := fun x => Classical.choose (ex x)
  have hg : ∀ x ∈ zs.map (·.1), NestAt X.K H x (g x) := fun x hx => Classical.choose_spec (ex x) hx
  have gz : ∀ z ∈ zs, g z.1 = z.2 := fun z hz => fn _ _ _ (hg z.1 (List.mem_map.mpr ⟨z, hz, rfl⟩)) (hx z hz)
  obtain ⟨e1, e2⟩ := refs_back rv fun x m => by
    obtain ⟨t, t1, t2, e, _⟩ := hg x m
    exact ⟨t, e⟩
  have mem : ∀ v ∈ its, backV v ∈ zs.map (·.1) := fun v hv => by rw [e1]; exact List.mem_map.mpr ⟨_, hv, rfl⟩
  have pr : ∀ t (p : Int × Int), SqT X.K H t [.int p.1, .int p.2] → Srt.IsPair s.heap (.ref t) p.1 p.2 := fun t p ht => by
    obtain ⟨its2, r2, ⟨o, ho, hc, n, hd⟩, _⟩ := I.tuple ht
    obtain ⟨u1, u2, rfl, ri, rj⟩ := vals2 r2
    obtain ⟨t1, rfl⟩ := ri
    obtain ⟨t2, rfl⟩ := rj
    exact ⟨t, o, t1, t2, n, rfl, ho, hc, hd⟩
  have hp : ∀ v ∈ its, IsNest s.heap v (g (backV v)).1 (g (backV v)).2 := fun v hv => by
    obtain ⟨t, rfl⟩ := e2 v hv
    obtain ⟨t', t1, t2, e, ht, h1, h2⟩ := hg _ (mem _ hv)
    cases e
    obtain ⟨its2, r2, ⟨o, ho, hc, n, hd⟩, _⟩ := I.tuple ht
    obtain ⟨u1, u2, rfl, ri, rj⟩ := vals2 r2
    obtain rfl : u1 = Value.ref t1 := ri
    obtain rfl : u2 = Value.ref t2 := rj
    exact ⟨t, o, n, _, _, rfl, ho, hc, hd, pr _ _ h1, pr _ _ h2⟩
  refine sorted_ord (swo_lex fun u => (g (backV u)).1) hl.isList (by rw [← rv.length]; exact hz) (fun h2 h₁ a' ha kk => ?_) fun out hs' hb => ?_
  · refine nest_sortableO (s := { s with heap := h₁ }) (k := fun u => (g (backV u)).1) (c := fun u => (g (backV u)).2) (by omega) (fun v hm => (hp v hm).keeps fun b o e _ => (kk b o e).2) (fun v hv u hu2 e => ?_) ?_ fun o e => ?_
    · obtain ⟨z, hz, ez⟩ := List.mem_map.mp (mem v hv)
      obtain ⟨y, hy, ey⟩ := List.mem_map.mp (mem u hu2)
      rw [← ez, ← ey, gz z hz, gz y hy] at e ⊢
      exact hi z hz y hy e
    · show X.A.units + 1 + 1 + 2 < cLine
      omega
    · have e' : some o = some (seqObj "list" its.toArray 0) := e.symm.trans ha
      cases e'
      intro c
      exact absurd (Value.type.inj c) (by decide)
  · have h3 : ∀ u ∈ out, ∃ a, u = Value.ref a := fun u hu => e2 u (hb.perm.mem_iff.mp hu)
    obtain ⟨n, hn⟩ := sortedAll_at s.heap its out.toArray
    have hbp : (out.map backV).Perm (zs.map (·.1)) := by
      rw [e1]
      exact hb.perm.map backV
    obtain ⟨ys, ey, py⟩ := perm_map_of hbp rfl
    have srt : ys.Pairwise (fun z y => lexB y.2.1 z.2.1 = false) := by
      have z : (out.map backV).Pairwise (fun x y => lexB (g y).1 (g x).1 = false) := List.pairwise_map.mpr hs'
      rw [ey, List.pairwise_map] at z
      refine z.imp_of_mem fun {a b} ha hb h => ?_
      rw [gz a (py.mem_iff.mp ha), gz b (py.mem_iff.mp hb)] at h
      exact h
    have z := q ys (s.heap.objs.size + 1) py srt (I.hok.fresh (Nat.le_succ _))
    rw [← ey] at z
    refine ⟨.ref (s.heap.objs.size + 1), upd H (s.heap.objs.size + 1) (.lst (out.map backV)), I.laid (t' := s.toks) (fun b o e => sortedAll_old e) (Nat.le_succ _) ⟨?_, out, n, vals_back h3, hn⟩, rfl, z⟩
    rw [hbp.length_eq]
    exact hz
end
/-! ### triples of whole numbers -/
def lt3 (p q : Int × Int × Int) : Bool := if p.1 = q.1 then (if p.2.1 = q.2.1 then decide (p.2.2 < q.2.2) else decide (p.2.1 < q.2.1)) else decide (p.1 < q.1)
theorem lt3_iff {p q : Int × Int × Int} : lt3 p q = true ↔ p.1 < q.1 ∨ (p.1 = q.1 ∧ (p.2.1 < q.2.1 ∨ (p.2.1 = q.2.1 ∧ p.2.2 < q.2.2))) := by
  unfold lt3
  by_cases e : p.1 = q.1
  · rw [if_pos e]
    by_cases f : p.2.1 = q.2.1
    · rw [if_pos f, decide_eq_true_eq]
      omega
    · rw [if_neg f, decide_eq_true_eq]
      omega
  · rw [if_neg e, decide_eq_true_eq]
    omega
theorem lt3_no {p q : Int × Int × Int} : lt3 p q = false ↔ ¬ (p.1 < q.1 ∨ (p.1 = q.1 ∧ (p.2.1 < q.2.1 ∨ (p.2.1 = q.2.1 ∧ p.2.2 < q.2.2)))) := by
  rw [← lt3_iff]
  cases lt3 p q <;> simp
theorem swo_lt3 (k : Value → Int × Int × Int) : Swo fun v u => lt3 (k v) (k u) := by
  refine ⟨fun x y h => ?_, fun x y z h1 h2 => ?_⟩
  · have a := lt3_iff.mp h
    refine lt3_no.mpr ?_
    omega
  · have a := lt3_no.mp h1
    have b := lt3_no.mp h2
    refine lt3_no.mpr ?_
    omega
def IsTrip (h : Heap) (v : Value) (p : Int × Int × Int) : Prop := ∃ (a : Addr) (o : Obj) (t u r : Tok) (n : Nat), v = .ref a ∧ h.get? a = some o ∧ o.cls = .type "tuple" ∧ o.data = .seq #[.int p.1 t, .int p.2.1 u, .int p.2.2 r] n
theorem IsTrip.keeps {h h' : Heap} {v : Value} {p : Int × Int × Int} (x : IsTrip h v p) (k : ∀ b o, h.get? b = some o → o.cls = .type "tuple" → h'.get? b = some o) : IsTrip h' v p := by
  obtain ⟨a, o, t, u, r, n, e, h1, h2, h3⟩ := x
  exact ⟨a, o, t, u, r, n, e, k _ _ h1 h2, h2, h3⟩
section
variable {prog : Program} {w : World} {A : Around} {E : Value → Shared → Prop} {s : Shared}
theorem trip_cmp {vs : List Value} {k : Value → Int × Int × Int} (hp : ∀ v ∈ vs, IsTrip s.heap v (k v)) : Cmp prog w A s (tuples' true) (fun p => p.1 ∈ vs) (lt2 fun v u => lt3 (k v) (k u)) := by
  intro p q hm hm'
  have h1 := hp _ hm
  have h2 := hp _ hm'
  show wpAny (model prog w) A (keyLt' (tuples' true) p.1 q.1) (fun r s' => s' = s ∧ r = lt3 (k p.1) (k q.1)) (fun _ _ => False) s
  generalize k p.1 = x at h1 ⊢
  generalize k q.1 = y at h2 ⊢
  obtain ⟨a, o, t, u, r, n, e, ho, hc, hd⟩ := h1
  obtain ⟨a', o', t', u', r', n', e', ho', hc', hd'⟩ := h2
  rw [e, e']
  refine PySem.W.kat_lt ho hd ho' hd' ?_
  show PySem.W.KatLex prog w A true (decide (3 < 3)) _ [(.int x.1 t, .int y.1 t'), (.int x.2.1 u, .int y.2.1 u'), (.int x.2.2 r, .int y.2.2 r')] 0 s
  refine PySem.W.kat_cons (SeqAt.EqAt.int_int x.1 t y.1 t' prog w _ _ ?_)
  refine PySem.W.kat_go (fun e1 => ?_) (fun e1 => ?_)
  · have ex : x.1 = y.1 := by simpa using e1
    refine PySem.W.kat_yes (PySem.W.kat_cons (SeqAt.EqAt.int_int x.2.1 u y.2.1 u' prog w _ _ ?_))
    refine PySem.W.kat_go (fun e2 => ?_) (fun e2 => ?_)
    · have ey : x.2.1 = y.2.1 := by simpa using e2
      refine PySem.W.kat_yes (PySem.W.kat_cons (SeqAt.EqAt.int_int x.2.2 r y.2.2 r' prog w _ _ ?_))
      refine PySem.W.kat_go (fun e3 => ?_) (fun e3 => ?_)
      · have ez : x.2.2 = y.2.2 := by simpa using e3
        refine PySem.W.kat_yes (PySem.W.kat_nil ⟨rfl, ?_⟩)
        have : lt3 x y = false := lt3_no.mpr (by omega)
        rw [this]
        rfl
      · have e4 : lt3 x y = decide (x.2.2 < y.2.2) := by unfold lt3; rw [if_pos ex, if_pos ey]
        refine PySem.W.kat_no (PySem.W.kat_one _ _ (PyProof.Rows.lt_int ?_))
        exact (show s = s ∧ decide (x.2.2 < y.2.2) = lt3 x y from ⟨rfl, e4.symm⟩)
    · have ey : ¬ x.2.1 = y.2.1 := by simpa using e2
      have e4 : lt3 x y = decide (x.2.1 < y.2.1) := by unfold lt3; rw [if_pos ex, if_neg ey]
      refine PySem.W.kat_no (PySem.W.kat_one _ _ (PyProof.Rows.lt_int ?_))
      exact (show s = s ∧ decide (x.2.1 < y.2.1) = lt3 x y from ⟨rfl, e4.symm⟩)
  · have ex : ¬ x.1 = y.1 := by simpa using e1
    have e3 : lt3 x y = decide (x.1 < y.1) := by unfold lt3; rw [if_neg ex]
    exact PySem.W.kat_no (oneLt_int ⟨rfl, e3.symm⟩)
theorem trip_sortableO {a : Addr} {vs : List Value} {k : Value → Int × Int × Int} (h0 : 0 < vs.length) (hp : ∀ v ∈ vs, IsTrip s.heap v (k v)) (ha : ∀ o, s.heap.get? a = some o → o.cls ≠ .type "tuple") : SortableO prog w A s a vs fun v u => lt3 (k v) (k u) := by
  intro h' keep
  have hp' : ∀ v ∈ vs, IsTrip h' v (k v) := fun v hm => (hp v hm).keeps fun b o e c => keep b o (fun z => by subst z; exact ha o e c) e
  have firsts : ∀ vs : List Value, (∀ v ∈ vs, IsTrip h' v (k v)) → ∃ fs, PySem.W.KatTups h' vs fs ∧ fs.length = vs.length ∧ ∀ f ∈ fs, ∃ (i : Int) (t : Tok), f = Value.int i t := by
    intro vs
    induction vs with
    | nil => exact fun _ => ⟨[], PySem.W.KatTups.nil, rfl, fun f hf => by cases hf⟩
    | cons v r ih =>
      intro hv
      obtain ⟨fs, h1, h2, h3⟩ := ih fun u hu => hv u (List.mem_cons_of_mem _ hu)
      obtain ⟨a, o, t, u, r', n, rfl, ho, hc, hd⟩ := hv v List.mem_cons_self
      refine ⟨_ :: fs, PySem.W.KatTups.cons ho hc hd rfl h1, by rw [List.length_cons, List.length_cons, h2], fun f hf => ?_⟩
      rcases List.mem_cons.mp hf with rfl | hf
      · exact ⟨_, _, rfl⟩
      · exact h3 f hf
  obtain ⟨fs, h1, h2, h3⟩ := firsts vs hp'
  refine ⟨tuples' true, fun Q E hq => ?_, trip_cmp hp'⟩
  refine PySem.W.kat_kind (T := .type "int") h1 (by omega) (fun f hm => ?_) (by rfl) ?_
  · obtain ⟨x, t, rfl⟩ := h3 f hm
    exact PySem.W.Looks.now
  · have e : (Value.type "int" != Value.type "tuple") = true := by first | decide +kernel | rfl | decide
    rw [e]
    exact hq
end
theorem vals3' {x y z : V} {us : List Value} (r : Vals [x, y, z] us) : ∃ u w' t', us = [u, w', t'] ∧ RelV x u ∧ RelV y w' ∧ RelV z t' := by
  cases r with
  | cons r1 r =>
    cases r with
    | cons r2 r =>
      cases r with
      | cons r3 r =>
        cases r
        exact ⟨_, _, _, rfl, r1, r2, r3⟩
section
variable {X : Cx}
/-- sorted(xs) of triples of whole numbers: the same again, in a new list -/
def rSort3 (K : PySem.W.Frag) : List V → Hp → VK → Prop := fun vs H Q => ∃ (a : Addr) (xs : List V) (k : V → Int × Int × Int), vs = [V.ref a] ∧ SqL K H a xs ∧ (∀ x ∈ xs, ∃ t, x = V.ref t ∧ SqT K H t [.int (k x).1, .int (k x).2.1, .int (k x).2.2]) ∧
  ∀ ys p, ys.Perm xs → H p = none → Q (.ref p) (upd H p (.lst ys))
theorem cr_sort3 : CallR X (.builtin "sorted") (rSort3 X.K) := by
  intro pins s σ H vs us Q I r h
  obtain ⟨a, xs, k, rfl, hs, hx, q⟩ := h
  obtain ⟨its, rv, hl, hz⟩ := I.list hs
  obtain ⟨u, rfl, ru⟩ := vals1 r
  obtain rfl : u = Value.ref a := ru
  obtain ⟨e1, e2⟩ := refs_back rv fun x m => by
    obtain ⟨t, e, _⟩ := hx x m
    exact ⟨t, e⟩
  have mem : ∀ v ∈ its, backV v ∈ xs := fun v hv => by rw [e1]; exact List.mem_map.mpr ⟨_, hv, rfl⟩
  have hp : ∀ v ∈ its, IsTrip s.heap v (k (backV v)) := fun v hv => by
    obtain ⟨t, rfl⟩ := e2 v hv
    obtain ⟨t', e, ht⟩ := hx _ (mem _ hv)
    cases e
    obtain ⟨its2, r2, ⟨o, ho, hc, n, hd⟩, _⟩ := I.tuple ht
    obtain ⟨u1, u2, u3, rfl, ri, rj, rl⟩ := vals3' r2
    obtain ⟨t1, rfl⟩ := ri
    obtain ⟨t2, rfl⟩ := rj
    obtain ⟨t3, rfl⟩ := rl
    exact ⟨t, o, t1, t2, t3, n, rfl, ho, hc, hd⟩
  refine sorted_ord (swo_lt3 fun u => k (backV u)) hl.isList (by rw [← rv.length]; exact hz) (fun h2 h₁ a' ha kk => ?_) fun out hs' hb => ?_
  · refine trip_sortableO (s := { s with heap := h₁ }) (k := fun u => k (backV u)) (by omega) (fun v hm => (hp v hm).keeps fun b o e _ => (kk b o e).2) fun o e => ?_
    have e' : some o = some (seqObj "list" its.toArray 0) := e.symm.trans ha
    cases e'
    intro c
    exact absurd (Value.type.inj c) (by decide)
  · have h3 : ∀ u ∈ out, ∃ a, u = Value.ref a := fun u hu => e2 u (hb.perm.mem_iff.mp hu)
    obtain ⟨n, hn⟩ := sortedAll_at s.heap its out.toArray
    have hbp : (out.map backV).Perm xs := by
      rw [e1]
      exact hb.perm.map backV
    refine ⟨.ref (s.heap.objs.size + 1), upd H (s.heap.objs.size + 1) (.lst (out.map backV)), I.laid (t' := s.toks) (fun b o e => sortedAll_old e) (Nat.le_succ _) ⟨?_, out, n, vals_back h3, hn⟩, rfl, q _ _ hbp (I.hok.fresh (Nat.le_succ _))⟩
    rw [hbp.length_eq]
    exact hz
end
section
variable {X : Cx} {e : Expr} {te : TE} {p pos : Pos}
theorem pe_sort3 (B : Bt X.mg) (he : PE X e te) (hg : Gl X "sorted" := by rfl) (hst : starEach (e :: []) X.env = (false, eval e X.env) :: starEach [] X.env := by rfl) (hpl : (backTo pos (starEach [] X.env)).any (·.1) = false := by rfl) : PE X (.Call (.Name "sorted" p) [e] [] pos) (tCB (rSort3 X.K) (tCons te tNil)) :=
  pe_callB cr_sort3 hg B.sorted bt_sorted (pa_cons he pa_nil hst) (by decide) (by decide) hst hpl
theorem pe_sortN (B : Bt X.mg) (hu : X.A.units + 64 < cLine) (he : PE X e te) (hg : Gl X "sorted" := by rfl) (hst : starEach (e :: []) X.env = (false, eval e X.env) :: starEach [] X.env := by rfl) (hpl : (backTo pos (starEach [] X.env)).any (·.1) = false := by rfl) : PE X (.Call (.Name "sorted" p) [e] [] pos) (tCB (rSortN X.K) (tCons te tNil)) :=
  pe_callB (cr_sortN hu) hg B.sorted bt_sorted (pa_cons he pa_nil hst) (by decide) (by decide) hst hpl
end
section
variable {K : PySem.W.Frag} {σ : L2.St} {H : Hp} {te : TE}
theorem ims_mem {vs : List V} {ts : List T} {v : V} (h : Ims K H vs ts) (m : v ∈ vs) : ∃ t, t ∈ ts ∧ Im K H v t := by
  obtain ⟨i, hi⟩ := List.mem_iff_getElem?.mp m
  obtain ⟨t, ht, im⟩ := h.get hi
  exact ⟨t, List.mem_of_getElem? ht, im⟩
theorem perm_map_inv {α β : Type} {f : α → β} (inj : ∀ a b, f a = f b → a = b) {us : List β} {xs : List α} (p : us.Perm (xs.map f)) : ∃ ys : List α, us = ys.map f ∧ ys.Perm xs := by
  have h : ∃ ys : List α, us = ys.map f := by
    have all : ∀ u ∈ us, ∃ a, u = f a := fun u hu => by
      obtain ⟨a, _, e⟩ := List.mem_map.mp (p.mem_iff.mp hu)
      exact ⟨a, e.symm⟩
    clear p
    induction us with
    | nil => exact ⟨[], rfl⟩
    | cons u r ih =>
      obtain ⟨ys, e⟩ := ih fun v hv => all v (List.mem_cons_of_mem _ hv)
      obtain ⟨a, e2⟩ := all u List.mem_cons_self
      exact ⟨a :: ys, by rw [e, e2]; rfl⟩
  obtain ⟨ys, rfl⟩ := h
  refine ⟨ys, rfl, ?_⟩
  induction ys generalizing xs with
  | nil =>
    have := p.length_eq
    have : xs = [] := List.length_eq_zero_iff.mp (by simpa using this.symm)
    rw [this]
  | cons y r ih =>
    have hm : f y ∈ xs.map f := p.mem_iff.mp List.mem_cons_self
    obtain ⟨x, hx, e⟩ := List.mem_map.mp hm
    have e := inj _ _ e
    subst e
    obtain ⟨l, m, rfl⟩ := List.append_of_mem hx
    have p2 : (r.map f).Perm ((l ++ m).map f) := by
      have z : ((x :: r).map f).Perm ((x :: (l ++ m)).map f) := p.trans ((List.perm_middle (a := x)).map f)
      exact List.perm_cons _ |>.mp z
    exact ((ih p2).cons x).trans List.perm_middle.symm
theorem moveT_inj (a b : Move) (h : moveT a = moveT b) : a = b := by
  unfold moveT at h
  injection h with h
  injection h with h1 h
  injection h with h2 h
  injection h with h3 h
  injection h1 with h1
  injection h2 with h2
  injection h3 with h3
  exact Prod.ext h1 (Prod.ext h2 h3)
theorem cellT_inj (a b : Cell) (h : cellT a = cellT b) : a = b := by
  unfold cellT at h
  injection h with h
  injection h with h1 h
  injection h with h2 h
  injection h1 with h1
  injection h2 with h2
  exact Prod.ext h1 h2
/-- sorted(rows) of moves -/
theorem n_sort3 {ms : List Move} {Q : VK} (h : Ev K te σ H (.ls (ms.map moveT))) (q : ∀ p vs (ns : List Move) H', Same H H' → H p = none → H' p = some (.lst vs) → Ims K H' vs (ns.map moveT) → ns.Perm ms → Q (.ref p) H') : tCB (rSort3 K) (tCons te tNil) σ H Q := h H (Same.refl H) _ fun v H1 s1 hv => by
  obtain ⟨a, xs, e, hq, hi⟩ := hv
  classical
  have ex : ∀ x : V, ∃ m : Move, x ∈ xs → Im K H1 x (moveT m) := fun x => by
    by_cases c : x ∈ xs
    · obtain ⟨t, ht, im⟩ := ims_mem hi c
      obtain ⟨m, _, rfl⟩ := List.mem_map.mp ht
      exact ⟨m, fun _ => im⟩
    · exact ⟨(0, 0, 0), fun z => absurd z c⟩
  refine ⟨a, xs, fun x => Classical.choose (ex x), by rw [e], hq, fun x hx => ?_, fun ys p hp hn => ?_⟩
  · have im := Classical.choose_spec (ex x) hx
    obtain ⟨b, ws, rfl, sq, iw⟩ := Im.tup_inv (show Im K H1 x (.tup [.int _, .int _, .int _]) from im)
    have e2 := ims_ints (xs := [_, _, _]) iw
    subst e2
    exact ⟨b, rfl, sq⟩
  · obtain ⟨us, hu, iu⟩ := hi.perm_of hp
    obtain ⟨ns, rfl, hns⟩ := perm_map_inv moveT_inj hu
    exact q p ys ns _ (s1.trans (same_new hn)) (s1.free hn) upd_same (iu.mono (keep_new hn)) hns
theorem Ims.of_mem {α : Type} {f : α → V} {g : α → T} : ∀ {l : List α}, (∀ z ∈ l, Im K H (f z) (g z)) → Ims K H (l.map f) (l.map g)
  | [], _ => .nil
  | z :: r, h => .cons (h z List.mem_cons_self) (Ims.of_mem fun y hy => h y (List.mem_cons_of_mem _ hy))
/-- sorted of pairs (key of the cell, the cell) -/
theorem n_sortN {cs : List Cell} {κ : Cell → Cell} {Q : VK} (h : Ev K te σ H (.ls (cs.map fun c => .tup [cellT (κ c), cellT c]))) (inj : ∀ a b, κ a = κ b → a = b)
    (q : ∀ p vs (ds : List Cell) H', Same H H' → H p = none → H' p = some (.lst vs) → Ims K H' vs (ds.map fun c => .tup [cellT (κ c), cellT c]) → ds.Perm cs → ds.Pairwise (fun c d => SrtO.lexB (κ d) (κ c) = false) → Q (.ref p) H') : tCB (rSortN K) (tCons te tNil) σ H Q := h H (Same.refl H) _ fun v H1 s1 hv => by
  obtain ⟨a, xs, e, hq, hi⟩ := hv
  have len : xs.length = cs.length := by rw [hi.length, List.length_map]
  let zs : List (V × PP) := xs.zip (cs.map fun c => (κ c, c))
  have z1 : zs.map (·.1) = xs := List.map_fst_zip (by rw [List.length_map]; omega)
  have z2 : zs.map (·.2) = cs.map fun c => (κ c, c) := List.map_snd_zip (by rw [List.length_map]; omega)
  have zi : ∀ z ∈ zs, Im K H1 z.1 (.tup [cellT z.2.1, cellT z.2.2]) ∧ z.2.1 = κ z.2.2 := by
    intro z hz
    obtain ⟨i, hzi⟩ := List.mem_iff_getElem?.mp hz
    have e1 : xs[i]? = some z.1 := by rw [← z1, List.getElem?_map, hzi] <;> rfl
    have e2 : (cs.map fun c => (κ c, c))[i]? = some z.2 := by rw [← z2, List.getElem?_map, hzi] <;> rfl
    rw [List.getElem?_map] at e2
    obtain ⟨c, hc, ec⟩ := Option.map_eq_some_iff.mp e2
    obtain ⟨t, ht, im⟩ := hi.get e1
    rw [List.getElem?_map, hc] at ht
    have ht := Option.some.inj ht
    rw [← ht] at im
    rw [← ec]
    exact ⟨im, rfl⟩
  refine ⟨a, zs, by rw [e], by rw [z1]; exact hq, fun z hz => ?_, fun z hz y hy e => ?_, fun ys p hp hsr hn => ?_⟩
  · obtain ⟨im, _⟩ := zi z hz
    obtain ⟨t, ws, et, sq, iw⟩ := im.tup_inv
    obtain ⟨u1, u2, rfl, i1, i2⟩ := iw.two_inv
    obtain ⟨t1, w1, e1, sq1, j1⟩ := Im.tup_inv (show Im K H1 u1 (.tup [.int _, .int _]) from i1)
    obtain ⟨t2, w2, e2, sq2, j2⟩ := Im.tup_inv (show Im K H1 u2 (.tup [.int _, .int _]) from i2)
    have f1 := ims_ints (xs := [_, _]) j1
    have f2 := ims_ints (xs := [_, _]) j2
    subst e1 e2 f1 f2
    exact ⟨t, t1, t2, et, sq, sq1, sq2⟩
  · rw [(zi z hz).2, (zi y hy).2] at e
    exact inj _ _ e
  · have s2 : Same H1 (upd H1 p (.lst (ys.map (·.1)))) := same_new hn
    refine q p (ys.map (·.1)) (ys.map (·.2.2)) _ (s1.trans s2) (s1.free hn) upd_same ?_ ?_ ?_
    · rw [List.map_map]
      refine Ims.of_mem fun y hy => ?_
      obtain ⟨im, ek⟩ := zi y (hp.mem_iff.mp hy)
      rw [ek] at im
      exact L2.Same.im s2 im
    · have z := hp.map (fun z : V × PP => z.2.2)
      have e3 : zs.map (fun z : V × PP => z.2.2) = cs := by
        have : zs.map (fun z : V × PP => z.2.2) = (zs.map (·.2)).map (·.2) := by rw [List.map_map]; rfl
        rw [this, z2, List.map_map]
        exact List.map_id' _
      rw [e3] at z
      exact z
    · rw [List.pairwise_map]
      refine hsr.imp_of_mem fun {a b} ha hb h => ?_
      rw [(zi a (hp.mem_iff.mp ha)).2, (zi b (hp.mem_iff.mp hb)).2] at h
      exact h
end
end TW

set_option Elab.async false
set_option linter.all false
set_option maxRecDepth 100000
set_option maxHeartbeats 4000000
namespace TW
open PySem PySem.Spec PyProof.Rows L2
/-! ### a list of lists -/
structure MatAt (K : PySem.W.Frag) (H : Hp) (n : Addr) (ps : List Addr) (h w : Nat) (f : Cell → T) : Prop where
  top : H n = some (.lst (ps.map V.ref))
  len : ps.length = h
  nd : ps.Nodup
  nn : n ∉ ps
  row : ∀ (y : Nat) p, ps[y]? = some p → ∃ vs, H p = some (.lst vs) ∧ Ims K H vs (rowL w fun x => f ((y : Int), x))
theorem MatAt.same {K : PySem.W.Frag} {H H' : Hp} {n : Addr} {ps : List Addr} {h w : Nat} {f : Cell → T} (s : Same H H') (m : MatAt K H n ps h w f) : MatAt K H' n ps h w f :=
  ⟨s _ _ m.top, m.len, m.nd, m.nn, fun y p hp => by
    obtain ⟨vs, e, i⟩ := m.row y p hp
    exact ⟨vs, s _ _ e, L2.Same.ims s i⟩⟩
theorem rowL_len {w : Nat} {f : Int → T} : (rowL w f).length = w := by unfold rowL; simp
/-- a place is set -/
theorem MatAt.set {K : PySem.W.Frag} {H : Hp} {n p : Addr} {ps : List Addr} {h w : Nat} {f : Cell → T} {y x : Nat} {vs : List V} {v : V} {t : T} (m : MatAt K H n ps h w f) (hp : ps[y]? = some p) (e : H p = some (.lst vs)) (hv : Im K H v t) (hx : x < w) :
    MatAt K (upd H p (.lst (vs.set x v))) n ps h w (fun c => if c = ((y : Int), (x : Int)) then t else f c) := by
  have k : Keep H (upd H p (.lst (vs.set x v))) := keep_lst e
  have np : p ∈ ps := List.mem_of_getElem? hp
  refine ⟨?_, m.len, m.nd, m.nn, fun y' p' hp' => ?_⟩
  · rw [upd_ne (fun z : n = p => m.nn (by rw [z]; exact np))]
    exact m.top
  · obtain ⟨vs', e', i'⟩ := m.row y' p' hp'
    by_cases c : y' = y
    · subst c
      rw [hp] at hp'
      cases hp'
      rw [e] at e'
      cases e'
      refine ⟨_, upd_same, ?_⟩
      have z := (i'.set (i := x) hv).mono k
      have e3 : (rowL w fun x => f ((y' : Int), x)).set x t = rowL w fun x' => if ((y' : Int), x') = ((y' : Int), (x : Int)) then t else f ((y' : Int), x') := by
        refine List.ext_getElem? fun j => ?_
        unfold rowL
        rw [List.getElem?_set, List.getElem?_map, List.getElem?_map]
        by_cases d : x = j
        · subst d
          rw [if_pos rfl, if_pos (by simpa using hx), List.getElem?_range hx]
          simp
        · rw [if_neg d]
          by_cases g : j < w
          · rw [List.getElem?_range g]
            simp only [Option.map_some]
            rw [if_neg (fun z : ((y' : Int), (j : Int)) = ((y' : Int), (x : Int)) => by injection z with z1 z2; omega)]
          · rw [List.getElem?_eq_none (by simpa using g)]
            rfl
      rw [e3] at z
      exact z
    · have ne : p' ≠ p := fun z => by
        subst z
        obtain ⟨h1, e1⟩ := List.getElem?_eq_some_iff.mp hp
        obtain ⟨h2, e2⟩ := List.getElem?_eq_some_iff.mp hp'
        rcases Nat.lt_or_gt_of_ne c with l | l
        · exact List.pairwise_iff_getElem.mp m.nd y' y h2 h1 l (e2.trans e1.symm)
        · exact List.pairwise_iff_getElem.mp m.nd y y' h1 h2 l (e1.trans e2.symm)
      refine ⟨vs', by rw [upd_ne ne]; exact e', ?_⟩
      have e3 : (rowL w fun x' => if ((y' : Int), x') = ((y : Int), (x : Int)) then t else f ((y' : Int), x')) = rowL w fun x' => f ((y' : Int), x') := by
        unfold rowL
        refine List.map_congr_left fun j _ => ?_
        exact if_neg (fun z : ((y' : Int), (j : Int)) = ((y : Int), (x : Int)) => by injection z with z1 z2; omega)
      rw [e3]
      exact i'.mono k
section
variable {K : PySem.W.Frag} {σ : L2.St} {H : Hp} {te tl ta tb tc ti : TE} {wi : TI}
/-- [e for x in xs], each e a new list -/
theorem n_genL {α : Type} {enc : α → T} {xs : List α} {f : α → List T} {g : TG} {vs : List Nat} (h : EvI K wi σ H (xs.map enc)) (hlen : xs.length ≤ 100000)
    (hx : ∀ (i : Nat) a x H', xs[i]? = some a → Same H H' → Im K H' x (enc a) → ∃ σ2, (∀ k : L2.St → Hp → Prop, k σ2 H' → g x (wipe σ vs) H' k) ∧ wipe σ2 vs = wipe σ vs ∧ EvN K te σ2 H' (f a)) :
    ∀ H1, Same H H1 → ∀ Q : VK, (∀ n (ps : List Addr) H', H1 n = none → Same H1 H' → H' n = some (.lst (ps.map V.ref)) → ps.length = xs.length → ps.Nodup → n ∉ ps → (∀ p ∈ ps, H1 p = none) → (∀ (i : Nat) p a, ps[i]? = some p → xs[i]? = some a → ∃ ws, H' p = some (.lst ws) ∧ Ims K H' ws (f a)) → Q (.ref n) H') →
    tLc wi g tYes te vs σ H1 Q := fun Ha sa Q q => h Ha sa _ fun J H1 s1 hw D hD => by
  let Inv : Nat → Hp → Prop := fun i H' => Same H1 H' ∧ ∃ ps : List Addr, H' D = some (.lst (ps.map V.ref)) ∧ ps.length = i ∧ ps.Nodup ∧ D ∉ ps ∧ (∀ p ∈ ps, H1 p = none) ∧ ∀ (j : Nat) p a, ps[j]? = some p → xs[j]? = some a → ∃ ws, H' p = some (.lst ws) ∧ Ims K H' ws (f a)
  refine ⟨fun i m H' => m = xs.length - i ∧ i ≤ xs.length ∧ Inv i H', ⟨xs.length, by simp, Nat.zero_le _, same_new hD, [], upd_same, rfl, List.nodup_nil, by simp, fun p hp => (by cases hp), fun j p a e => (by simp at e)⟩, ?_⟩
  rintro i m H' ⟨rfl, hi, s2, ps, hps, hl, hnd, hnn, hfr, hrow⟩
  obtain ⟨w1, w2⟩ := hw i H' s2.stay
  by_cases c : i < xs.length
  · obtain ⟨a, ha⟩ : ∃ a, xs[i]? = some a := ⟨_, List.getElem?_eq_getElem c⟩
    obtain ⟨go, wy⟩ := w1 (enc a) (by rw [List.getElem?_map, ha] <;> rfl)
    refine .inr ⟨go, Inv (i + 1), fun H'' z => ⟨xs.length - (i + 1), by omega, rfl, c, z⟩, fun x H'' y => ?_⟩
    obtain ⟨s3, im⟩ := wy x H'' y
    obtain ⟨σ2, hg, hw2, hf⟩ := hx i a x H'' ha (sa.trans (s1.trans (s2.trans s3))) im
    refine hg _ ⟨hw2, ?_⟩
    unfold tYes
    dsimp only
    rw [if_pos rfl]
    refine hf H'' (Same.refl _) _ fun p ws H4 hp s4 ep iw => ?_
    have s34 := s3.trans s4
    have hD4 := s34 _ _ hps
    have npD : p ≠ D := fun z => by
      rw [z] at hp
      rw [s3 _ _ hps] at hp
      cases hp
    have hp1 : H1 p = none := (s2.trans s3).free hp
    have hpin : p ∉ ps := fun z => by
      obtain ⟨j, hj⟩ := List.mem_iff_getElem?.mp z
      have hjl : j < xs.length := by
        have := (List.getElem?_eq_some_iff.mp hj).1
        omega
      obtain ⟨ws', e', _⟩ := hrow j p _ hj (List.getElem?_eq_getElem hjl)
      rw [s3 _ _ e'] at hp
      cases hp
    refine ⟨ps.map V.ref, hD4, lt_line (by rw [List.length_map]; omega), same_mut (s2.trans s34) hD, ps ++ [p], by rw [upd_same, List.map_append]; rfl, by simp; omega, ?_, ?_, ?_, ?_⟩
    · rw [List.nodup_append]
      refine ⟨hnd, List.pairwise_singleton _ _, fun u hu v hv e => ?_⟩
      rw [List.mem_singleton.mp hv] at e
      exact hpin (by rw [← e]; exact hu)
    · intro z
      rcases List.mem_append.mp z with z | z
      · exact hnn z
      · exact npD (List.mem_singleton.mp z).symm
    · intro p' hp'
      rcases List.mem_append.mp hp' with z | z
      · exact hfr p' z
      · rw [List.mem_singleton.mp z]
        exact hp1
    · intro j p' a' hj ha'
      have k1 : Keep H4 (upd H4 D (.lst (ps.map V.ref ++ [.ref p]))) := keep_lst hD4
      by_cases cj : j < ps.length
      · rw [List.getElem?_append_left cj] at hj
        obtain ⟨ws', e', i'⟩ := hrow j p' a' hj ha'
        have n' : p' ≠ D := fun z => hnn (by rw [← z]; exact List.mem_of_getElem? hj)
        exact ⟨ws', by rw [upd_ne n']; exact s34 _ _ e', (L2.Same.ims s34 i').mono k1⟩
      · have ej : j = ps.length := by
          have := (List.getElem?_eq_some_iff.mp hj).1
          simp at this
          omega
        subst ej
        rw [List.getElem?_append_right (Nat.le_refl _)] at hj
        have ep' : p = p' := by simpa using hj
        subst ep'
        rw [hl] at ha'
        rw [ha] at ha'
        cases ha'
        exact ⟨ws, by rw [upd_ne npD]; exact ep, iw.mono k1⟩
  · have e : i = xs.length := by omega
    subst e
    exact .inl ⟨w2 (by simp), q D ps H' (s1.free hD) (s1.trans s2) hps hl hnd hnn (fun p hp => s1.free (hfr p hp)) hrow⟩
/-- [tuple(row) for row in rows], rows a list of lists -/
theorem n_rows {n : Addr} {ps : List Addr} {h w k i : Nat} {f : Cell → T} (hσ : σ[i]? = some (some (.ref n))) (m : MatAt K H n ps h w f) (hh : h ≤ 1000) (hk : k < σ.length) : EvN K (tLc (iSeq K (tVar i)) (gName k) tYes (tB1 (rTupQ K) (tVar k)) [k]) σ H (rowsL h w f) := fun Ha sa Q q => by
  have m := m.same sa
  refine ⟨_, hσ, n, rfl, .inl ⟨⟨_, .inl (.inl m.top)⟩, fun D hD => ?_⟩⟩
  refine lc_list (xs := ps.map V.ref) (fun i H' => Same Ha H' ∧ ∃ acc, H' D = some (.lst acc) ∧ acc.length = i ∧ Ims K H' acc ((List.range i).map fun y : Nat => T.tup (rowL w fun x => f ((y : Int), x)))) ⟨same_new hD, [], upd_same, rfl, .nil⟩ (fun i H' _ p => .inl (.inl (p.1 _ _ m.top))) (fun i x H' hx p => ?_) fun H' p => ?_
  · obtain ⟨s2, acc, hacc, hl, hims⟩ := p
    rw [List.getElem?_map] at hx
    obtain ⟨p, hp, rfl⟩ := Option.map_eq_some_iff.mp hx
    obtain ⟨ws, ew, iw⟩ := m.row i p hp
    have hi : i < h := by
      have := (List.getElem?_eq_some_iff.mp hp).1
      rw [m.len] at this
      exact this
    refine ⟨?_, ?_⟩
    · show wipe ((wipe σ [k]).set k (some (.ref p))) [k] = wipe σ [k]
      simp [wipe]
    · unfold tYes
      dsimp only
      rw [if_pos rfl]
      refine ⟨.ref p, by simp [wipe, hk], p, ws, rfl, .inl ⟨.inl (.inl (s2 _ _ ew)), fun l hl2 => ?_⟩⟩
      have nl : D ≠ l := fun z => by rw [← z, hacc] at hl2; cases hl2
      have s3 : Same H' (upd H' l (.tup ws)) := same_new hl2
      have e3 : upd H' l (.tup ws) D = some (.lst acc) := s3 _ _ hacc
      refine ⟨acc, e3, lt_line (by omega), same_mut (s2.trans s3) hD, acc ++ [.ref l], upd_same, by simp [hl], ?_⟩
      have k1 : Keep (upd H' l (.tup ws)) (upd (upd H' l (.tup ws)) D (.lst (acc ++ [.ref l]))) := keep_lst e3
      rw [List.range_succ, List.map_append]
      refine ((L2.Same.ims s3 hims).mono k1).snoc ?_
      exact Im.mono k1 (Im.new hl2 (L2.Same.ims s2 iw))
  · obtain ⟨s2, acc, hacc, hl, hims⟩ := p
    rw [List.length_map, m.len] at hims
    exact q D acc H' hD s2 hacc hims
/-- a place of it -/
theorem e_matR {n : Addr} {ps : List Addr} {h w : Nat} {f : Cell → T} {y x : Int} (m : MatAt K H n ps h w f) (ha : EvR K ta σ H n) (hb : Ev K tb σ H (.im (.int y))) (hc : Ev K tc σ H (.im (.int x))) (y0 : 0 ≤ y) (y1 : y < h) (x0 : 0 ≤ x) (x1 : x < w) : Ev K (tOp (rIx K) (tOp (rIx K) ta tb) tc) σ H (.im (f (y, x))) := by
  have hy : y.toNat < ps.length := by rw [m.len]; omega
  have hp : ps[y.toNat]? = some ps[y.toNat] := List.getElem?_eq_getElem hy
  obtain ⟨vs, e, i⟩ := m.row y.toNat _ hp
  rw [Int.toNat_of_nonneg y0] at i
  exact e_ixR (r_ix ha m.top hb (atI_of y0 hp)) e i hc (atI_row (f := fun x => f (y, x)) x0 x1)
variable {nx bk ct : L2.St → Hp → Prop} {rt : VK}
/-- .. is set -/
theorem s_matSet {n : Addr} {ps : List Addr} {h w : Nat} {f : Cell → T} {y x : Int} {t : T} (K : PySem.W.Frag) (m : MatAt K H n ps h w f) (ha : EvR K ta σ H n) (hb : Ev K tb σ H (.im (.int y))) (hc : Ev K tc σ H (.im (.int x))) (y0 : 0 ≤ y) (y1 : y < h) (x0 : 0 ≤ x) (x1 : x < w) (hv : Ev K te σ H (.im t))
    (q : ∀ p vs v H', p ∈ ps → Same H H' → H' p = some (.lst vs) → MatAt K (upd H' p (.lst (vs.set x.toNat v))) n ps h w (fun c => if c = (y, x) then t else f c) → nx σ (upd H' p (.lst (vs.set x.toNat v)))) : tAsg te (gSub (tOp (rIx K) ta tb) tc rSetL) ⟨nx, rt, bk, ct⟩ σ H := by
  have hy : y.toNat < ps.length := by rw [m.len]; omega
  have hp : ps[y.toNat]? = some ps[y.toNat] := List.getElem?_eq_getElem hy
  obtain ⟨vs, e, i⟩ := m.row y.toNat _ hp
  have lv : vs.length = w := by rw [i.length, rowL_len]
  refine s_setAt K (r_ix ha m.top hb (atI_of y0 hp)) e hc (ixN_of x0 (by rw [lv]; exact x1)) hv fun v H' s hv' => ?_
  refine q _ vs v H' (List.mem_of_getElem? hp) s (s _ _ e) ?_
  have z := (m.same s).set (y := y.toNat) (x := x.toNat) (v := v) (t := t) hp (s _ _ e) hv' (by omega)
  rw [Int.toNat_of_nonneg y0, Int.toNat_of_nonneg x0] at z
  exact z
end
/-! ### promises of new lists -/
def spN (K : PySem.W.Frag) (R : List D → List T → Prop) : Sp := fun vs H Q _ => ∃ ds ts, Iss K H vs ds ∧ R ds ts ∧ ∀ p ws H', H p = none → Same H H' → H' p = some (.lst ws) → Ims K H' ws ts → Q (.ref p) H'
theorem spN_len {K : PySem.W.Frag} {R : List D → List T → Prop} {vs : List V} {H : Hp} {Q : VK} {E : XK} {n : Nat} (h : spN K R vs H Q E) (hr : ∀ ds o, R ds o → ds.length = n) : vs.length = n := by
  obtain ⟨ds, o, hi, h1, _⟩ := h
  rw [hi.length]
  exact hr ds o h1
section
variable {K : PySem.W.Frag} {σ : L2.St} {H : Hp} {te tl ta tb tc ti : TE} {args : TA} {ds : List D} {ts : List T} {nx bk ct : L2.St → Hp → Prop} {rt : VK} {g : TG} {tb : TS}
theorem n_call {R : List D → List T → Prop} {E : L2.St → XK} (h : EvA K args σ H ds) (hr : R ds ts) : EvN K (tCallS (spN K R) E args) σ H ts := fun H1 s Q q =>
  h H1 s _ fun vs H2 s2 hv => ⟨ds, ts, hv, hr, fun p ws H' hp s3 e hi => q p ws H' (s2.free hp) (s2.trans s3) e hi⟩
/-- for over a new list -/
theorem for_new {α : Type} {enc : α → T} {xs : List α} (K : PySem.W.Frag) (h : EvN K tl σ H (xs.map enc)) (q : ∀ a vs H1, H a = none → Same H H1 → H1 a = some (.lst vs) → Ims K H1 vs (xs.map enc) → ∃ Pv : Nat → L2.St → Hp → Prop, Pv 0 σ H1 ∧ (∀ i σ' H', i ≤ xs.length → Pv i σ' H' → H' a = some (.lst vs) ∧ Ims K H' vs (xs.map enc)) ∧
    (∀ i b x σ' H', xs[i]? = some b → Pv i σ' H' → Im K H' x (enc b) → g x σ' H' fun σ2 H2 => tb ⟨Pv (i + 1), rt, nx, Pv (i + 1)⟩ σ2 H2) ∧ ∀ σ' H', Pv xs.length σ' H' → nx σ' H') :
    tFor (iSeq K tl) g tb ⟨nx, rt, bk, ct⟩ σ H := h H (Same.refl H) _ fun a vs H1 ha s1 e1 im => by
  obtain ⟨Pv, h0, hl, hs, hd⟩ := q a vs H1 ha s1 e1 im
  have len : vs.length = xs.length := by rw [im.length, List.length_map]
  refine ⟨a, rfl, .inl ⟨⟨vs, .inl (.inl e1)⟩, for_list (D := ⟨nx, rt, bk, ct⟩) (xs := vs) Pv h0 (fun i σ' H' hi p => .inl (.inl (hl i σ' H' (by omega) p).1)) (fun i x σ' H' hx p => ?_) (by rw [len]; exact hd)⟩⟩
  have lt : i < vs.length := (List.getElem?_eq_some_iff.mp hx).1
  obtain ⟨t, ht, hxt⟩ := (hl i σ' H' (by omega) p).2.get hx
  rw [List.getElem?_map] at ht
  obtain ⟨b, hb, rfl⟩ := Option.map_eq_some_iff.mp ht
  exact hs i b x σ' H' hb p hxt
end
theorem s_gN {i : Nat} {x : V} {σ : L2.St} {H : Hp} {k : L2.St → Hp → Prop} (h : k (σ.set i (some x)) H) : gName i x σ H k := h
end TW

set_option Elab.async false
set_option linter.all false
set_option maxRecDepth 100000
set_option maxHeartbeats 4000000
namespace TW
open PySem PySem.Spec PyProof.Rows L2
/-! ### the order of cells -/
theorem srt_uniq {α : Type} {lt : α → α → Bool} : ∀ {l m : List α}, l.Perm m → l.Pairwise (fun a b => lt b a = false) → m.Pairwise (fun a b => lt a b = true) → l = m
  | l, [], p, _, _ => by
    have := p.length_eq
    exact List.length_eq_zero_iff.mp (by simpa using this)
  | [], b :: t, p, _, _ => by
    have := p.length_eq
    simp at this
  | a :: s, b :: t, p, h1, h2 => by
    obtain ⟨a1, a2⟩ := List.pairwise_cons.mp h1
    obtain ⟨b1, b2⟩ := List.pairwise_cons.mp h2
    have e : a = b := by
      have hb : b ∈ a :: s := p.mem_iff.mpr List.mem_cons_self
      have ha : a ∈ b :: t := p.mem_iff.mp List.mem_cons_self
      rcases List.mem_cons.mp hb with z | z
      · exact z.symm
      · rcases List.mem_cons.mp ha with y | y
        · exact y
        · have u := a1 b z
          have v := b1 a y
          rw [u] at v
          cases v
    subst e
    rw [srt_uniq (List.perm_cons _ |>.mp p) a2 b2]
theorem dirs_lt {b : Bool} {n : Nat} : (dirs b n).Pairwise (fun i j => (if b then (1 : Int) else -1) * i < (if b then (1 : Int) else -1) * j) := by
  have e : ((List.range n).map (fun i : Nat => (i : Int))).Pairwise (fun i j => i < j) := by
    rw [List.pairwise_map]
    exact List.pairwise_lt_range.imp fun {a b} h => by omega
  unfold dirs
  cases b with
  | true =>
    simp only [if_true]
    exact e.imp fun {a b} h => by simp; exact h
  | false =>
    simp only [Bool.false_eq_true, if_false]
    rw [List.pairwise_reverse]
    exact e.imp fun {a b} h => by simp; omega
theorem flat_lex {α β γ : Type} {R : α → α → Prop} {S : β → β → Prop} {U : γ → γ → Prop} {f : α → β → γ} (h1 : ∀ a a' b b', R a a' → U (f a b) (f a' b')) (h2 : ∀ a b b', S b b' → U (f a b) (f a b')) : ∀ {xs : List α} {ys : List β}, xs.Pairwise R → ys.Pairwise S → (xs.flatMap fun a => ys.map (f a)).Pairwise U
  | [], _, _, _ => List.Pairwise.nil
  | a :: r, ys, hx, hy => by
    obtain ⟨x1, x2⟩ := List.pairwise_cons.mp hx
    rw [List.flatMap_cons, List.pairwise_append]
    refine ⟨?_, flat_lex h1 h2 x2 hy, ?_⟩
    · rw [List.pairwise_map]
      exact hy.imp fun {b b'} h => h2 a b b' h
    · intro u hu v hv
      obtain ⟨b, _, rfl⟩ := List.mem_map.mp hu
      obtain ⟨a', ha', hv⟩ := List.mem_flatMap.mp hv
      obtain ⟨b', _, rfl⟩ := List.mem_map.mp hv
      exact h1 _ _ _ _ (x1 a' ha')
theorem cells_lt {o : Ord} {h w : Nat} : (o.cells h w).Pairwise (fun c d => SrtO.lexB (o.key c) (o.key d) = true) := by
  unfold Ord.cells
  cases hr : o.r with
  | true =>
    rw [if_pos rfl]
    refine flat_lex (R := fun i j => (if o.d then (1 : Int) else -1) * i < (if o.d then (1 : Int) else -1) * j) (S := fun i j => (if o.x then (1 : Int) else -1) * i < (if o.x then (1 : Int) else -1) * j) (fun a a' b b' h => ?_) (fun a b b' h => ?_) dirs_lt dirs_lt
    · refine SrtO.lexB_iff.mpr (.inl ?_)
      unfold Ord.key Ord.sy
      rw [hr]
      exact h
    · refine SrtO.lexB_iff.mpr (.inr ⟨?_, ?_⟩)
      · unfold Ord.key
        rw [hr]
        rfl
      · unfold Ord.key Ord.sx
        rw [hr]
        exact h
  | false =>
    rw [if_neg Bool.false_ne_true]
    refine flat_lex (f := fun x y => (y, x)) (R := fun i j => (if o.x then (1 : Int) else -1) * i < (if o.x then (1 : Int) else -1) * j) (S := fun i j => (if o.d then (1 : Int) else -1) * i < (if o.d then (1 : Int) else -1) * j) (fun a a' b b' h => ?_) (fun a b b' h => ?_) dirs_lt dirs_lt
    · refine SrtO.lexB_iff.mpr (.inl ?_)
      unfold Ord.key Ord.sx
      rw [hr]
      exact h
    · refine SrtO.lexB_iff.mpr (.inr ⟨?_, ?_⟩)
      · unfold Ord.key
        rw [hr]
        rfl
      · unfold Ord.key Ord.sy
        rw [hr]
        exact h
theorem key_inj {o : Ord} {a b : Cell} (h : o.key a = o.key b) : a = b := by
  unfold Ord.key Ord.sy Ord.sx at h
  obtain ⟨a1, a2⟩ := a
  obtain ⟨b1, b2⟩ := b
  rcases o with ⟨r, d, x⟩
  cases r <;> cases d <;> cases x <;> (simp at h; exact Prod.ext (by omega) (by omega))
theorem mem_all {F : Fl} {c : Cell} : c ∈ F.all ↔ F.ins c = true := by
  rw [fl_ins]
  unfold Fl.all
  rw [List.mem_flatMap]
  constructor
  · rintro ⟨y, hy, hc⟩
    obtain ⟨x, hx, rfl⟩ := List.mem_map.mp hc
    have a := List.mem_range.mp hy
    have b := List.mem_range.mp hx
    exact ⟨by show (0 : Int) ≤ y; omega, by show (y : Int) < _; omega, by show (0 : Int) ≤ x; omega, by show (x : Int) < _; omega⟩
  · rintro ⟨a, b, d, e⟩
    refine ⟨c.1.toNat, List.mem_range.mpr (by omega), List.mem_map.mpr ⟨c.2.toNat, List.mem_range.mpr (by omega), ?_⟩⟩
    exact Prod.ext (Int.toNat_of_nonneg a) (Int.toNat_of_nonneg d)
theorem nodup_all {F : Fl} : F.all.Nodup := by
  unfold Fl.all
  exact nodup_flat (f := fun (y x : Nat) => ((y : Int), (x : Int))) (fun a b a' b' e => by injection e with e1 e2; exact ⟨by omega, by omega⟩) List.nodup_range List.nodup_range
theorem mem_opens {F : Fl} {c : Cell} : c ∈ F.opens ↔ F.op c = true := by
  unfold Fl.opens Fl.op
  rw [List.mem_filter, mem_all, Bool.and_eq_true]
theorem nodup_opens {F : Fl} : F.opens.Nodup := nodup_all.sublist (List.filter_sublist)
theorem perm_of_nodup {α : Type} : ∀ {l m : List α}, l.Nodup → m.Nodup → (∀ a, a ∈ l ↔ a ∈ m) → l.Perm m
  | [], m, _, _, h => by
    have : m = [] := List.eq_nil_iff_forall_not_mem.mpr fun a ha => by have := (h a).mpr ha; cases this
    rw [this]
  | a :: r, m, hl, hm, h => by
    obtain ⟨h1, h2⟩ := List.nodup_cons.mp hl
    obtain ⟨s, t, rfl⟩ := List.append_of_mem ((h a).mp List.mem_cons_self)
    have hm' : (a :: (s ++ t)).Nodup := List.perm_middle.nodup_iff.mp hm
    obtain ⟨m1, m2⟩ := List.nodup_cons.mp hm'
    refine (List.Perm.cons a (perm_of_nodup h2 m2 fun b => ?_)).trans List.perm_middle.symm
    constructor
    · intro hb
      have z := (h b).mp (List.mem_cons_of_mem _ hb)
      rcases List.mem_cons.mp (List.perm_middle.mem_iff.mp z) with y | y
      · subst y
        exact absurd hb h1
      · exact y
    · intro hb
      have z := (h b).mpr (List.perm_middle.mem_iff.mpr (List.mem_cons_of_mem _ hb))
      rcases List.mem_cons.mp z with y | y
      · subst y
        exact absurd hb m1
      · exact y
/-- the law's cells in order are the program's, open ones -/
theorem ordered_cells {F : Fl} {o : Ord} {ds : List Cell} (p : ds.Perm F.opens) (h : ds.Pairwise (fun c d => SrtO.lexB (o.key d) (o.key c) = false)) : ds = (o.cells F.h F.w).filter F.op := by
  refine srt_uniq (lt := fun c d => SrtO.lexB (o.key c) (o.key d)) (p.trans (perm_of_nodup nodup_opens (nodup_cells.sublist List.filter_sublist) fun c => ?_)) h (cells_lt.sublist List.filter_sublist)
  rw [mem_opens, List.mem_filter, mem_cells, ← fl_ins]
  constructor
  · intro z
    refine ⟨?_, z⟩
    unfold Fl.op at z
    exact (Bool.and_eq_true_iff.mp z).1
  · exact fun z => z.2
/-! ### arrows, distances -/
abbrev Arrow := Cell × Cell × Int
def arrT (a : Arrow) : T := .tup [.int a.1.1, .int a.1.2, .int a.2.1.1, .int a.2.1.2, .int a.2.2]
def goal (c : Cell) (m : Move) : Cell := (c.1 + m.1, c.2 + m.2.1)
def Fl.arrows (F : Fl) (mask : List Move) : List Arrow := F.opens.flatMap fun c => (mask.filter fun m => F.op (goal c m)).map fun m => (c, goal c m, m.2.2)
def putG (g : Grid) (c : Cell) (v : Option Int) : Grid := fun d => if d = c then v else g d
def relax (s : Grid × Bool) (a : Arrow) : Grid × Bool := match s.1 a.1 with
  | none => s
  | some n => match s.1 a.2.1 with
    | none => (putG s.1 a.2.1 (some (n + a.2.2)), true)
    | some h => if n + a.2.2 < h then (putG s.1 a.2.1 (some (n + a.2.2)), true) else s
def grow (as : List Arrow) : Nat → Grid → Grid
  | 0, g => g
  | k + 1, g => if (as.foldl relax (g, false)).2 then grow as k (as.foldl relax (g, false)).1 else (as.foldl relax (g, false)).1
def Fl.dist (F : Fl) (mask : List Move) : Grid := grow (F.arrows mask) 200 F.start
theorem opens_len {F : Fl} : F.opens.length ≤ 196 := by
  have h1 : F.opens.length ≤ F.all.length := List.length_filter_le _ _
  have h2 : F.all.length = F.h * F.w := by
    have e : ∀ (n : Nat), ((List.range n).flatMap fun y : Nat => (List.range F.w).map fun x : Nat => ((y : Int), (x : Int))).length = n * F.w := fun n => by
      induction n with
      | zero => simp
      | succ n ih => rw [List.range_succ, List.flatMap_append, List.length_append, ih, Nat.succ_mul]; simp
    exact e F.h
  have h3 : F.h * F.w ≤ 14 * 14 := Nat.mul_le_mul F.hm F.wm
  omega
theorem op_ins {F : Fl} {c : Cell} (h : F.op c = true) : F.ins c = true := by
  unfold Fl.op at h
  exact (Bool.and_eq_true_iff.mp h).1
theorem mem_arrows {F : Fl} {m : List Move} {a : Arrow} : a ∈ F.arrows m ↔ F.op a.1 = true ∧ ∃ q ∈ m, a.2.1 = goal a.1 q ∧ a.2.2 = q.2.2 ∧ F.op a.2.1 = true := by
  unfold Fl.arrows
  rw [List.mem_flatMap]
  constructor
  · rintro ⟨c, hc, ha⟩
    obtain ⟨q, hq, rfl⟩ := List.mem_map.mp ha
    obtain ⟨h1, h2⟩ := List.mem_filter.mp hq
    exact ⟨mem_opens.mp hc, q, h1, rfl, rfl, h2⟩
  · rintro ⟨h1, q, hq, e1, e2, h2⟩
    refine ⟨a.1, mem_opens.mpr h1, List.mem_map.mpr ⟨q, List.mem_filter.mpr ⟨hq, by rw [← e1]; exact h2⟩, ?_⟩⟩
    rw [← e1, ← e2]
theorem arrows_ins {F : Fl} {m : List Move} {a : Arrow} (h : a ∈ F.arrows m) : F.ins a.1 = true ∧ F.ins a.2.1 = true := by
  obtain ⟨h1, q, _, _, _, h2⟩ := mem_arrows.mp h
  exact ⟨op_ins h1, op_ins h2⟩
theorem flatMap_len {α β : Type} {f : α → List β} {n : Nat} (h : ∀ a, (f a).length ≤ n) : ∀ l : List α, (l.flatMap f).length ≤ l.length * n
  | [] => by simp
  | a :: r => by
    rw [List.flatMap_cons, List.length_append, List.length_cons, Nat.succ_mul]
    have := h a
    have := flatMap_len h r
    omega
theorem arrows_len {F : Fl} {m : List Move} (h : m.length ≤ 100) : (F.arrows m).length ≤ 100000 := by
  have h1 := flatMap_len (f := fun c => (m.filter fun q => F.op (goal c q)).map fun q => ((c, goal c q, q.2.2) : Arrow)) (n := 100) (fun c => by rw [List.length_map]; exact Nat.le_trans (List.length_filter_le _ _) h) F.opens
  have h2 := opens_len (F := F)
  unfold Fl.arrows
  omega
/-! ### steps of a sweep -/
theorem sweepS_filter {op : Cell → Bool} {fw : List Move} {g : Grid} : ∀ {xs : List Cell} {S : Tab}, sweepS op fw g (xs.filter op) S = sweepS op fw g xs S
  | [], _ => rfl
  | c :: r, S => by
    by_cases h : op c = true
    · rw [List.filter_cons_of_pos h]
      unfold sweepS
      rw [sweepS_filter]
    · rw [List.filter_cons_of_neg h]
      rw [sweepS_filter]
      show _ = sweepS op fw g r (if op c then S ++ [(c, least S fw c (g c))] else S)
      rw [if_neg h]
theorem lookup_snoc {S : Tab} {c d : Cell} {v : Option Int} (h : c ∉ S.map (·.1)) : (S ++ [(c, v)]).lookup d = if d = c then some v else S.lookup d := by
  induction S with
  | nil =>
    rw [List.nil_append, List.lookup_cons]
    by_cases e : d = c
    · subst e
      simp
    · rw [show (d == c) = false from by simpa using e, if_neg e]
  | cons e r ih =>
    obtain ⟨k, u⟩ := e
    rw [List.map_cons, List.mem_cons, not_or] at h
    rw [List.cons_append, List.lookup_cons, List.lookup_cons, ih h.2]
    by_cases e : d = k
    · subst e
      rw [show (d == d) = true from by simp]
      show some u = if d = c then some v else some u
      rw [if_neg (fun z : d = c => h.1 z.symm)]
    · rw [show (d == k) = false from by simpa using e]
theorem look_snoc {S : Tab} {c d : Cell} {v : Option Int} (h : c ∉ S.map (·.1)) : look (S ++ [(c, v)]) d = if d = c then v else look S d := by
  unfold look
  rw [lookup_snoc h]
  by_cases e : d = c
  · rw [if_pos e, if_pos e]
  · rw [if_neg e, if_neg e]
theorem leastO_snoc : ∀ {l : List Int} {n : Int}, leastO (l ++ [n]) = match leastO l with
    | none => some n
    | some m => some (if n < m then n else m)
  | [], n => rfl
  | k :: r, n => by
    have ih := leastO_snoc (l := r) (n := n)
    cases e : leastO r with
    | none =>
      rw [e] at ih
      show leastO (k :: (r ++ [n])) = _
      have a : leastO (k :: (r ++ [n])) = some (if k ≤ n then k else n) := by rw [leastO, ih]
      have b : leastO (k :: r) = some k := by rw [leastO, e]
      rw [a, b]
      show some _ = some _
      congr 1
      (repeat' split) <;> omega
    | some m =>
      rw [e] at ih
      show leastO (k :: (r ++ [n])) = _
      have a : leastO (k :: (r ++ [n])) = some (if k ≤ (if n < m then n else m) then k else (if n < m then n else m)) := by rw [leastO, ih]
      have b : leastO (k :: r) = some (if k ≤ m then k else m) := by rw [leastO, e]
      rw [a, b]
      show some _ = some _
      congr 1
      (repeat' split) <;> omega
theorem look_op {F : Fl} {fw : List Move} {g : Grid} {xs : List Cell} {c : Cell} {n : Int} (h : look (sweepS F.op fw g xs []) c = some n) : F.op c = true ∧ c ∈ xs := by
  have m : c ∈ (sweepS F.op fw g xs []).map (·.1) := by
    by_cases z : c ∈ (sweepS F.op fw g xs []).map (·.1)
    · exact z
    · unfold look at h
      rw [lookup_none z] at h
      cases h
  rcases sweepS_keys m with z | z
  · cases z
  · exact ⟨z.2, z.1⟩
/-- what a relaxed grid keeps -/
theorem relax_at {s : Grid × Bool} {a : Arrow} : relax s a = s ∨ ∃ n, s.1 a.1 = some n ∧ (s.1 a.2.1 = none ∨ ∃ h, s.1 a.2.1 = some h ∧ n + a.2.2 < h) ∧ relax s a = (putG s.1 a.2.1 (some (n + a.2.2)), true) := by
  unfold relax
  cases e : s.1 a.1 with
  | none => exact .inl rfl
  | some n =>
    cases f : s.1 a.2.1 with
    | none => exact .inr ⟨n, rfl, .inl rfl, rfl⟩
    | some h =>
      by_cases c : n + a.2.2 < h
      · exact .inr ⟨n, rfl, .inr ⟨h, rfl, c⟩, by show (if _ then _ else _) = _; rw [if_pos c]⟩
      · exact .inl (by show (if _ then _ else _) = _; rw [if_neg c])
end TW

namespace TW
open PySem
def top (i : Nat) : Stmt := PySem.Challenge.pw_twosweeps_k81_settle.main.body.getD i (.Pass ⟨0, 0, 0, 0⟩)
end TW

set_option linter.all false
namespace TW
open PySem PySem.Spec PyProof.Rows L2
def otherLetters : List (Str × Str) := [("d", "u"), ("u", "d"), ("r", "l"), ("l", "r")]
/-- what the top of the program gives -/
structure Tx (w : World) (K : PySem.W.Frag) (mg : Str → Option Value) (CF : Addr) : Prop where
  bt : Bt mg
  fl : FlC K CF
  ORDERS : ∃ a, mg "ORDERS" = some (.ref a) ∧ ∀ H, Im K H (.ref a) (.tup (orderStrs.map T.str))
  OTHER_LETTERS : ∃ a, mg "OTHER_LETTERS" = some (.ref a) ∧ ∀ q ∈ otherLetters, KDct K w a q.1 (.str q.2)
  MOST_SIDE : ∃ t, mg "MOST_SIDE" = some (.int 14 t)
  MOST_WORD : ∃ t, mg "MOST_WORD" = some (.int 36 t)
  WALL_floors : ∃ t, mg "WALL_floors" = some (.str "#" t)
  WALL_sweeps : ∃ t, mg "WALL_sweeps" = some (.str "#" t)
end TW

open PySem PySem.Spec PyProof.Rows L2
namespace TW
/-- x is True, any x -/
def rIsA : R2 := fun x y H Q => ∃ b : Bool, y = .bl b ∧ Q (.bl (decide (x = .bl b))) H
theorem op_isA {X : Cx} : OpR X (compareOp .Is) rIsA := by
  intro pins s σ H x y v u Q I rx ry h
  obtain ⟨b, rfl, q⟩ := h
  cases (show u = Value.bool b from ry)
  by_cases e : x = .bl b
  · subst e
    cases (show v = Value.bool b from rx)
    exact wpAny_is_self rfl ⟨.bl true, H, I, rfl, by simpa using q⟩
  · have q' : Q (.bl false) H := by simpa [e] using q
    have z : Value.bool b ≠ v := fun z => e (by
      rw [← z] at rx
      cases x with
      | non => cases (show Value.bool b = Value.none from rx)
      | bl c => cases (show Value.bool b = Value.bool c from rx); rfl
      | int i => obtain ⟨t, ht⟩ := (show ∃ t, Value.bool b = Value.int i t from rx); cases ht
      | str i => obtain ⟨t, ht⟩ := (show ∃ t, Value.bool b = Value.str i t from rx); cases ht
      | byt i => obtain ⟨t, ht⟩ := (show ∃ t, Value.bool b = Value.bytes i t from rx); cases ht
      | flt i => obtain ⟨t, ht⟩ := (show ∃ t, Value.bool b = Value.float i t from rx); cases ht
      | ref a => cases (show Value.bool b = Value.ref a from rx)
      | ty n => cases (show Value.bool b = Value.type n from rx))
    refine wpAny_is_other ?_ (fun y => z y.symm) ⟨.bl false, H, I, rfl, q'⟩
    cases x with
    | non => cases (show v = Value.none from rx); rfl
    | bl c => cases (show v = Value.bool c from rx); rfl
    | int i => obtain ⟨t, ht⟩ := (show ∃ t, v = Value.int i t from rx); cases ht; rfl
    | str i => obtain ⟨t, ht⟩ := (show ∃ t, v = Value.str i t from rx); cases ht; rfl
    | byt i => obtain ⟨t, ht⟩ := (show ∃ t, v = Value.bytes i t from rx); cases ht; rfl
    | flt i => obtain ⟨t, ht⟩ := (show ∃ t, v = Value.float i t from rx); cases ht; rfl
    | ref a => cases (show v = Value.ref a from rx); rfl
    | ty n => cases (show v = Value.type n from rx); rfl
end TW

set_option Elab.async false
set_option linter.all false
set_option maxRecDepth 100000
set_option maxHeartbeats 4000000
open PySem PySem.Spec PyProof.Rows L2
namespace TW
/-! ### isinstance of a caught error with fields; its class as a value -/
def rIsEC (K : PySem.W.Frag) (a : Addr) (cls : Value) (d : Option Addr) : List V → Hp → VK → Prop := fun xs H Q => ∃ (c : V) (cv : Value) (b : Bool) (D dd : Addr) (fs : List (Str × V)), xs = [.ref a, c] ∧ (∀ u, RelV c u → u = cv) ∧ cls = .ref D ∧ ExcC K D ∧ d = some dd ∧ H dd = some (.xd fs) ∧ PySem.W.kitOne K (.ref D) cv = some b ∧ Q (.bl b) H
theorem call_isEC {X : Cx} {a : Addr} {cls : Value} {d : Option Addr} {oe : Obj} {pn : List (Addr × Obj)} (hz : Zc cls d oe) (hf : ∃ vs, oe.data = .fields vs) : CallR (X.suite a ((a, oe) :: pn)) (.builtin "isinstance") (rIsEC X.K a cls d) := by
  intro pins s σ H xs us Q I r h
  obtain ⟨c, cv, b, D, dd, fs, rfl, hcv, rfl, C, rfl, hd, e, q⟩ := h
  cases r with
  | cons rx rr =>
    cases rr with
    | cons rt rr =>
      cases rr
      cases rx
      have ec := hcv _ rt
      subst ec
      obtain ⟨hget, _⟩ := I.pin (a, oe) (List.mem_append.mpr (.inl List.mem_cons_self))
      obtain ⟨vs, hv⟩ := hf
      have hx : ObjOk X.prog X.w H s.heap dd (.xd fs) := I.hok dd _ hd
      obtain ⟨mA, hns, hr⟩ := hx
      obtain ⟨od, ho, hl⟩ := lookIn_ns hns
      have J : PySem.W.InstAt s.heap a oe D (some od) := ⟨hget, hz.1, by unfold PySem.W.notCls; rw [hv] <;> rfl, by rw [hz.2]; exact ho⟩
      have hcl : (PySem.W.clsIn X.K D).isSome = true := by
        obtain ⟨cdD, hcD, _⟩ := PySem.W.any_some C.hd
        rw [hcD]
        rfl
      exact PySem.W.kia_one (PySem.W.kitx_exc (gt := none) hcl C.hg C.hk C.hs C.ha C.hn C.ht C.hm) I.kIn J e (fun z => nomatch z) fun tk => ⟨.bl b, H, I.kept (t' := tk) fun _ _ z => z, rfl, q⟩
/-- a class of the module's own, as a value -/
def tGC (mg : Str → Option Value) (x : Str) : TE := fun _ H Q => ∀ C, mg x = some (.ref C) → Q (.ref C) H
section
variable {X : Cx} {x : Str} {pos : Pos}
theorem pe_gc (hm : ∃ C, X.mg x = some (.ref C)) (hg : Gl X x := by rfl) (hd : (x == ("__debug__" : Str)) = false := by decide) : PE X (.Name x pos) (tGC X.mg x) := by
  obtain ⟨C, hm⟩ := hm
  refine ⟨fun pins s σ H Q I h => ?_⟩
  exact ld_glob I hg hm ⟨.ref C, H, I, rfl, h C hm⟩ hd
end
section
variable {X : Cx} {x : Str} {e : Expr} {te : TE} {p p2 pos : Pos} {a : Addr} {cls : Value} {d : Option Addr} {oe : Obj} {pn : List (Addr × Obj)}
theorem pe_isEC (B : Bt X.mg) (hm : ∃ C, X.mg x = some (.ref C)) (hz : Zc cls d oe) (hf : ∃ vs, oe.data = .fields vs) (he : PE (X.suite a ((a, oe) :: pn)) e te) (hgx : Gl X x := by rfl) (hg : Gl X "isinstance" := by rfl) (hdx : (x == ("__debug__" : Str)) = false := by decide)
    (hst : starEach (e :: [.Name x p2]) X.env = (false, eval e X.env) :: starEach [.Name x p2] X.env := by rfl) (hst2 : starEach (.Name x p2 :: []) X.env = (false, eval (.Name x p2) X.env) :: starEach [] X.env := by rfl)
    (hpl : (backTo pos (starEach [.Name x p2] X.env)).any (·.1) = false := by rfl) : PE (X.suite a ((a, oe) :: pn)) (.Call (.Name "isinstance" p) [e, .Name x p2] [] pos) (tCB (rIsEC X.K a cls d) (tCons te (tCons (tGC X.mg x) tNil))) :=
  pe_callB (X := X.suite a ((a, oe) :: pn)) (call_isEC hz hf) hg B.isi bt_isi (pa_cons he (pa_cons (pe_gc (X := X.suite a ((a, oe) :: pn)) hm hgx hdx) pa_nil hst2) hst) (by decide) (by decide) hst hpl
theorem pe_isVE (B : Bt X.mg) (hz : Zc cls d oe) (hf : ∃ vs, oe.data = .fields vs) (he : PE (X.suite a ((a, oe) :: pn)) e te) (hgx : Gl X "ValueError" := by rfl) (hg : Gl X "isinstance" := by rfl)
    (hst : starEach (e :: [.Name "ValueError" p2]) X.env = (false, eval e X.env) :: starEach [.Name "ValueError" p2] X.env := by rfl) (hst2 : starEach (.Name "ValueError" p2 :: []) X.env = (false, eval (.Name "ValueError" p2) X.env) :: starEach [] X.env := by rfl)
    (hpl : (backTo pos (starEach [.Name "ValueError" p2] X.env)).any (·.1) = false := by rfl) : PE (X.suite a ((a, oe) :: pn)) (.Call (.Name "isinstance" p) [e, .Name "ValueError" p2] [] pos) (tCB (rIsEC X.K a cls d) (tCons te (tCons (tC (.ty "ValueError")) tNil))) :=
  pe_callB (X := X.suite a ((a, oe) :: pn)) (call_isEC hz hf) hg B.isi bt_isi (pa_cons he (pa_cons (pe_bltn (X := X.suite a ((a, oe) :: pn)) (v := .ty "ValueError") hgx B.ve bt_ve rfl (by decide) (by decide)) pa_nil hst2) hst) (by decide) (by decide) hst hpl
end
/-! ### xs.count(True) -/
def rCntB (K : PySem.W.Frag) : V → List V → Hp → VK → Prop := fun x xs H Q => ∃ (p : Addr) (bs : List Bool) (k : Bool), x = .ref p ∧ xs = [.bl k] ∧ SqL K H p (bs.map V.bl) ∧ Q (.int (bs.count k : Nat)) H
theorem mt_lcountB {X : Cx} : MtR X "list.count" (rCntB X.K) := by
  intro pins s σ H x xs v us Q I rx rxs h
  obtain ⟨p, bs, k, rfl, rfl, hs, q⟩ := h
  cases rx
  obtain ⟨u, rfl, ru⟩ := rxs.one
  obtain rfl : u = Value.bool k := ru
  obtain ⟨its, rv, ⟨⟨cls, dd, data, sl⟩, n, ho, hc, hdn, hd⟩, hlen⟩ := I.list hs
  simp only at hc hd
  subst hc hd
  have ei : its = bs.map Value.bool := by
    clear hs ho hlen q hdn
    induction bs generalizing its with
    | nil => cases rv; rfl
    | cons b r ih =>
      cases rv with
      | cons h1 h2 =>
        rw [ih _ h2]
        rename_i u us
        obtain rfl : u = Value.bool b := h1
        rfl
  subst ei
  have eq : ∀ b : Bool, (match Value.bool b with | .bool c => c == k | _ => false) = (b == k) := fun b => rfl
  refine call_meets PySem.F.slot_list_count ⟨_, ho, rfl⟩ PySem.F.entry_list_count (PySem.F.args_list_count_2 _ _)
    (SeqAt.list_countAt p (bs.map Value.bool).toArray n dd sl (.bool k) (fun v => match v with | .bool c => c == k | _ => false)) ⟨ho, fun y hy => ?_, ?_⟩
  · have hy : y ∈ bs.map Value.bool := by simpa using hy
    obtain ⟨b, _, rfl⟩ := List.mem_map.mp hy
    exact SeqAt.EqAt.bool_bool b k
  have ec : (bs.map Value.bool).toArray.toList.countP (fun v => match v with | .bool c => c == k | _ => false) = bs.count k := by
    rw [List.count]
    show List.countP _ (bs.map Value.bool) = _
    rw [List.countP_map]
    rfl
  refine ⟨.int (bs.count k : Nat), H, I.tok _, ⟨s.toks, ?_⟩, q⟩
  show Value.int (((bs.map Value.bool).toArray.toList.countP _ : Nat) : Int) s.toks = Value.int ((bs.count k : Nat) : Int) s.toks
  rw [ec]
section
variable {X : Cx} {K : PySem.W.Frag}
theorem op_eqDK (hK : X.K = K) (hu : X.A.units + 64 < cLine) : OpR X (compareOp .Eq) (rEqD K) := hK ▸ op_eqD hu
theorem op_neDK (hK : X.K = K) (hu : X.A.units + 64 < cLine) : OpR X (compareOp .NotEq) (rNeD K) := hK ▸ op_neD hu
theorem pe_countK {o e : Expr} {to : TE} {t : TA} {es : List Expr} {apos cpos : Pos} (hK : X.K = K) (ho : PE X o to) (ha : PA X (e :: es) t)
    (hbase : attributeBase o "count" X.env (eval o X.env) = eval o X.env := by rfl)
    (hfew : ((backTo cpos (starEach (e :: es) X.env)).all (fun x => !x.1) && (backToKw cpos (keywordEach [] X.env)).all (fun x => x.1.isSome)
      && decide ((e :: es).length + ([] : List Keyword).length + (if ([] : List Keyword).isEmpty then 0 else 1) < 30)) = true := by rfl)
    (hline : (apos.endLine == cpos.line) = true := by rfl) (hs : starEach (e :: es) X.env = (false, eval e X.env) :: starEach es X.env := by rfl) (hplain : (backTo cpos (starEach es X.env)).any (·.1) = false := by rfl) :
    PE X (.Call (.Attribute o "count" apos) (e :: es) [] cpos) (tBM K "list" (rCntB K) to t) := by
  subst hK
  exact pe_bm PySem.F.plainAttrs_list PySem.F.slot_list_count PySem.F.type_list_count mt_lcountB ho ha hbase hfew hline hs hplain
end
/-! ### what the errors' classes say -/
def excN : List Str := ["BadText", "Malformed", "BadOrder", "Unknown", "Empty", "BadSize", "BadCell", "BadMove", "BadPrice", "Doubled", "BadWalk", "Free", "TooMany", "NotFan", "NotYes", "Stuck"]
/-- the classes xs of the errors that are met here, with their fields -/
structure ExcT (K : PySem.W.Frag) (mg : Str → Option Value) (met : List (Str × List Str)) : Prop where
  cls : ∀ x ∈ excN, ∃ C, mg x = some (.ref C)
  ref : ∃ R, mg "Refused" = some (.ref R) ∧ ∀ x ∈ met, ∀ C, mg x.1 = some (.ref C) → PySem.W.exmOne K (.ref C) (.ref R) = some true
  is : ∀ x ∈ met, ∀ C, mg x.1 = some (.ref C) → ExcC K C ∧ XfC K C ∧ PySem.W.kitOne K (.ref C) (.type "ValueError") = some true ∧ (∀ y ∈ excN, ∀ C', mg y = some (.ref C') → PySem.W.kitOne K (.ref C) (.ref C') = some (decide (x.1 = y))) ∧ ∀ f ∈ x.2, PySem.W.findIn K (.ref C) f = some none
section
variable {K : PySem.W.Frag} {σ : L2.St} {H : Hp} {te tl : TE} {mg : Str → Option Value} {met : List (Str × List Str)}
/-- isinstance(e, y) of a caught error of the class x -/
theorem e_isEC {a D dd : Addr} {i : Nat} {x y : Str} {fl : List Str} {fs : List (Str × V)} {cls : Value} {d : Option Addr} (ET : ExcT K mg met) (hx : (x, fl) ∈ met) (hy : y ∈ excN) (hσ : σ[i]? = some (some (.ref a))) (hc : cls = .ref D) (hm : mg x = some (.ref D)) (hd : d = some dd) (hh : H dd = some (.xd fs)) :
    Ev K (tCB (rIsEC K a cls d) (tCons (tVar i) (tCons (tGC mg y) tNil))) σ H (.im (.bl (decide (x = y)))) := fun H1 s Q q =>
  ⟨_, hσ, fun C' hC' => ⟨.ref C', .ref C', decide (x = y), D, dd, fs, rfl, fun u hu => hu, hc, (ET.is _ hx _ hm).1, hd, s _ _ hh, (ET.is _ hx _ hm).2.2.2.1 y hy C' hC', q _ _ (Same.refl _) (Im.bl _)⟩⟩
theorem e_isVE {a D dd : Addr} {i : Nat} {x : Str} {fl : List Str} {fs : List (Str × V)} {cls : Value} {d : Option Addr} (ET : ExcT K mg met) (hx : (x, fl) ∈ met) (hσ : σ[i]? = some (some (.ref a))) (hc : cls = .ref D) (hm : mg x = some (.ref D)) (hd : d = some dd) (hh : H dd = some (.xd fs)) :
    Ev K (tCB (rIsEC K a cls d) (tCons (tVar i) (tCons (tC (.ty "ValueError")) tNil))) σ H (.im (.bl true)) := fun H1 s Q q =>
  ⟨_, hσ, .ty "ValueError", .type "ValueError", true, D, dd, fs, rfl, fun u hu => hu, hc, (ET.is _ hx _ hm).1, hd, s _ _ hh, (ET.is _ hx _ hm).2.2.1, q _ _ (Same.refl _) (Im.bl _)⟩
/-- e.f of a caught error -/
theorem e_xf {a D dd : Addr} {i : Nat} {x f : Str} {fl : List Str} {fs : List (Str × V)} {cls : Value} {d : Option Addr} {v : V} {t : TW.D} (ET : ExcT K mg met) (hx : (x, fl) ∈ met) (hσ : σ[i]? = some (some (.ref a))) (hc : cls = .ref D) (hm : mg x = some (.ref D)) (hd : d = some dd) (hh : H dd = some (.xd fs)) (hf : f ∈ fl) (hl : fs.lookup f = some v) (hv : Is K H v t) :
    Ev K (fun σ H Q => tVar i σ H fun w H1 => w = .ref a ∧ ∃ D dd fs v, XfC K D ∧ PySem.W.findIn K (.ref D) f = some none ∧ cls = .ref D ∧ d = some dd ∧ H1 dd = some (.xd fs) ∧ fs.lookup f = some v ∧ Q v H1) σ H t := fun H1 s Q q =>
  ⟨_, hσ, rfl, D, dd, fs, v, (ET.is _ hx _ hm).2.1, (ET.is _ hx _ hm).2.2.2.2 f hf, hc, hd, s _ _ hh, hl, q _ _ (Same.refl _) (s.is hv)⟩
end
/-- e.f, e the exception that the suite holds, of a class that is told by the reading -/
def tXc (K : PySem.W.Frag) (a : Addr) (cls : Value) (d : Option Addr) (f : Str) (te : TE) : TE := fun σ H Q => te σ H fun w H1 => w = .ref a ∧ ∃ D dd fs v, XfC K D ∧ PySem.W.findIn K (.ref D) f = some none ∧ cls = .ref D ∧ d = some dd ∧ H1 dd = some (.xd fs) ∧ fs.lookup f = some v ∧ Q v H1
theorem pe_xc {X : Cx} {a : Addr} {oe : Obj} {cls : Value} {d : Option Addr} {pn : List (Addr × Obj)} {e : Expr} {te : TE} {pos : Pos} {n : Str}
    (hz : Zc cls d oe) (hf : ∃ vs, oe.data = .fields vs) (he : PE (X.suite a ((a, oe) :: pn)) e te) (hb : attributeBase e n X.env (eval e X.env) = eval e X.env := by rfl) :
    PE (X.suite a ((a, oe) :: pn)) (.Attribute e n pos) (tXc X.K a cls d n te) := by
  refine ⟨fun pins s σ H Q I h => ?_⟩
  refine attr_of hb (thn (he.run pins s σ H _ I h) fun u s1 hh => ?_)
  obtain ⟨x, H1, I1, rx, ex, D, dd, fs, v, T, hno, ec, ed, ea, l, q⟩ := hh
  subst ex
  obtain rfl : u = Value.ref a := rx
  subst ec
  subst ed
  obtain ⟨ha, _⟩ := I1.pin (a, oe) (List.mem_append_left _ List.mem_cons_self)
  obtain ⟨vs, hd⟩ := hf
  have hx : ObjOk X.prog X.w H1 s1.heap dd (.xd fs) := I1.hok dd _ ea
  obtain ⟨mA, hns, hr⟩ := hx
  obtain ⟨od, ho, hl⟩ := lookIn_ns hns
  obtain ⟨u, hu, ru⟩ := RelO.some_of (v := v) (o := mA n) (by rw [← l]; exact hr n)
  have J : PySem.W.InstAt s1.heap a oe D (some od) := ⟨ha, hz.1, by unfold PySem.W.notCls; rw [hd] <;> rfl, by rw [hz.2]; exact ho⟩
  exact HandSPX.exc_get I1.kIn J T.ga T.gg T.exC (PySem.W.findObj_own T.hdC hno rfl (by rw [hl, hu])) (handed_of ru) ⟨v, H1, I1.tok _, ru, q⟩
end TW

set_option Elab.async false
set_option linter.all false
set_option maxRecDepth 100000
set_option maxHeartbeats 4000000
namespace TW
open PySem PySem.Spec PyProof.Rows L2
/-! ### what the head's Hook looks at -/
def downF : Nat → List Addr
  | 0 => []
  | n + 1 => n :: downF n
def asN (n : Nat) : List Addr := mainGlobals :: downF n
def frL {α β : Type} : List α → (List α → β) → β
  | [], f => f []
  | x :: xs, f => frL xs fun ys => f (x :: ys)
theorem frL_eq {α β : Type} : ∀ (l : List α) (f : List α → β), frL l f = f l
  | [], _ => rfl
  | x :: xs, f => frL_eq xs fun ys => f (x :: ys)
def kwOf : List Arg → List (Option Expr) → List (Str × He.Dv)
  | a :: as, some (.Constant (.str x) _ _) :: es => (a.arg, .str x) :: kwOf as es
  | a :: as, some (.Constant (.int i) _ _) :: es => (a.arg, .int i) :: kwOf as es
  | a :: as, some (.Constant .none _ _) :: es => (a.arg, .non) :: kwOf as es
  | _, _ => []
def mkM (c : Str) : List Stmt → List He.DefD
  | .FunctionDef n a b _ _ _ sc _ _ _ :: r => if n = "__init__" then ⟨(c, some n), n, c ++ "." ++ n, a, b, sc, [], kwOf a.kwonlyargs a.kw_defaults⟩ :: mkM c r else mkM c r
  | _ :: r => mkM c r
  | [] => []
def mkD : List Stmt → List He.DefD
  | .FunctionDef n a b _ _ _ sc _ _ _ :: r => ⟨(n, none), n, n, a, b, sc, [], kwOf a.kwonlyargs a.kw_defaults⟩ :: mkD r
  | .ClassDef n _ _ body _ _ _ _ _ _ _ :: r => mkM n body ++ mkD r
  | _ :: r => mkD r
  | [] => []
/-- an error's class with an __init__ of its own -/
def excB (K : PySem.W.Frag) (x : Str) : Bool :=
  (match K.lookup (He.ga K x) with
    | some ⟨.type c, _, .cls cd, sl⟩ => decide (c = "type") && (match cd.mro, sl.toList with
      | .ref C :: bm, [_, _, _, _, some (.builtin n), _] => decide (C = He.ga K x) && (decide (n = "ValueError.__new__") && (!cd.hasDel && (cd.hasDict && PySem.HandSPX.refsVE bm)))
      | _, _ => false)
    | _ => false) &&
  (He.eqO (PySem.W.findIn K (.ref (He.ga K x)) "__setattr__") (some (some (.builtin "object.__setattr__"))) &&
  (decide (PySem.W.subIn K (.ref (He.ga K x)) (.type "BaseException") = some true) &&
  (decide (PySem.W.typeIn K (.ref (He.ga K x)) = some (.type "type")) &&
  (PySem.W.keepIn K (.ref (He.ga K x)) &&
  (He.eqO (PySem.W.findIn K (.ref (He.ga K x)) "__init__") (some (some (.ref (He.ma K (He.ga K x) "__init__")))) &&
  (decide (PySem.W.typeIn K (.ref (He.ma K (He.ga K x) "__init__")) = some (.type "function")) &&
  (xfB K (He.ga K x) &&
  (He.eqO (PySem.W.findIn K (.ref (He.ga K x)) "__class__") (some (some (.builtin "object.__class__"))) &&
  (He.eqO (PySem.W.specialIn K (.builtin "object.__class__") "__get__") (some (some (.builtin "getset_descriptor.__get__"))) &&
  (decide (PySem.W.takesIn K (.builtin "object.__class__") = some true) &&
  decide (PySem.W.mroIn K (He.ga K x) (.type "object") = some true)))))))))))
def metB (K : PySem.W.Frag) (x : Str × List Str) : Bool :=
  excB K x.1 && (decide (PySem.W.exmOne K (.ref (He.ga K x.1)) (.ref (He.ga K "Refused")) = some true) && (decide (PySem.W.kitOne K (.ref (He.ga K x.1)) (.type "ValueError") = some true) &&
  ((excN.all fun y => decide (PySem.W.kitOne K (.ref (He.ga K x.1)) (.ref (He.ga K y)) = some (decide (x.1 = y)))) && x.2.all fun f => He.eqO (PySem.W.findIn K (.ref (He.ga K x.1)) f) (some none))))
def keyOf : Value → Option Str
  | .str x _ => some x
  | _ => none
/-- a dict of the top: its keys with their hashes -/
def dctO (K : PySem.W.Frag) (x : Str) : Option (List (Option Str × Int) × Nat) := match K.lookup (He.ga K x) with
  | some ⟨.type c, none, .dict es _, sl⟩ => if c = "dict" then some (es.toList.map fun e => (keyOf e.key, e.hash), sl.size) else none
  | _ => none
def dctV (w : World) (kvs : List (Str × Str)) : Option (List (Option Str × Int) × Nat) := some (kvs.map fun q => (some q.1, PyData.keyHash w.params q.1), 0)
def dctB (K : PySem.W.Frag) (x : Str) (kvs : List (Str × Str)) : Bool := kvs.all fun q => match PySem.W.nsIn K (He.ga K x) q.1 with
  | some (some u) => He.relB (.str q.2) u
  | _ => false
abbrev HkA : Type := Bool × Option (List (Option Str × Int) × Nat) × He.AlD
def hkO (fa : List He.Fa) (fn : List He.DefD) (met : List (Str × List Str)) (K : PySem.W.Frag) : HkA :=
  (met.all (metB K) && (He.tupB K "ORDERS" (orderStrs.map He.Dv.str) && dctB K "OTHER_LETTERS" otherLetters), dctO K "OTHER_LETTERS", He.obsD fa fn K)
def hkV (fn : List He.DefD) (w : World) : HkA := (true, dctV w otherLetters, He.valD fn)
def hkS (fa : List He.Fa) (fn : List He.DefD) (met : List (Str × List Str)) (w : World) (K : PySem.W.Frag) : Prop := hkO fa fn met K = hkV fn w
def hkL (fa : List He.Fa) (fn : List He.DefD) (met : List (Str × List Str)) (g : Addr → Option Obj) (n : Nat) : HkA := frL (He.frG g (asN n)) fun K => hkO fa fn met K
def hk (fa : List He.Fa) (fn : List He.DefD) (met : List (Str × List Str)) : PySem.W.Hook where
  α := HkA
  obs := fun s => hkL fa fn met s.heap.get? s.heap.objs.size
  val := hkV fn
  says := fun w h => ∃ K : PySem.W.Frag, K.In h ∧ hkS fa fn met w K
  of := fun _ _ e => ⟨_, He.frG_in, (frL_eq _ _).symm.trans e⟩
  keeps := fun _ _ _ ⟨K, hK, c⟩ k => ⟨K, PySem.W.Frag.In.keeps hK k, c⟩
def hkT (fa : List He.Fa) (fn : List He.DefD) (met : List (Str × List Str)) (s : PySem.W.SharedT) : HkA := hkL fa fn met (HandSHeadRun.getT s) s.n
theorem hkT_eq {fa : List He.Fa} {fn : List He.DefD} {met : List (Str × List Str)} (s : PySem.W.SharedT) : hkT fa fn met s = (hk fa fn met).obs s.abs := by
  have e : HandSHeadRun.getT s = s.abs.heap.get? := funext (HandSHeadRun.getT_eq s)
  have e2 : s.abs.heap.objs.size = s.n := by
    show (PySem.W.absHeap s.tree s.n s.life).objs.size = s.n
    exact PySem.W.absHeap_size _ _ _
  show hkL fa fn met (HandSHeadRun.getT s) s.n = hkL fa fn met s.abs.heap.get? s.abs.heap.objs.size
  rw [e, e2]
/-! ### what it tells -/
section
variable {K : PySem.W.Frag} {h base : Heap} {mg : Str → Option Value} {P : Program} {w : World} {fa : List He.Fa} {fn : List He.DefD} {met : List (Str × List Str)}
theorem hkS.f (c : hkS fa fn met w K) : He.SaysD fa fn K := congrArg (fun z : HkA => z.2.2) c
theorem hkS.d (c : hkS fa fn met w K) : dctO K "OTHER_LETTERS" = dctV w otherLetters := congrArg (fun z : HkA => z.2.1) c
theorem hkS.b (c : hkS fa fn met w K) : (∀ x ∈ met, metB K x = true) ∧ He.tupB K "ORDERS" (orderStrs.map He.Dv.str) = true ∧ dctB K "OTHER_LETTERS" otherLetters = true := by
  have z : (met.all (metB K) && (He.tupB K "ORDERS" (orderStrs.map He.Dv.str) && dctB K "OTHER_LETTERS" otherLetters)) = true := congrArg (fun z : HkA => z.1) c
  obtain ⟨z1, z⟩ := He.ba z
  obtain ⟨z2, z3⟩ := He.ba z
  exact ⟨List.all_eq_true.mp z1, z2, z3⟩
structure ExcF (K : PySem.W.Frag) (x : Str) : Prop where
  o : OexC K (He.ga K x)
  i : PySem.W.findIn K (.ref (He.ga K x)) "__init__" = some (some (.ref (He.ma K (He.ga K x) "__init__")))
  t : PySem.W.typeIn K (.ref (He.ma K (He.ga K x) "__init__")) = some (.type "function")
  e : ExcC K (He.ga K x)
  x : XfC K (He.ga K x)
theorem excB_ok {x : Str} (h : excB K x = true) : ExcF K x := by
  obtain ⟨h1, h⟩ := He.ba h
  obtain ⟨h2, h⟩ := He.ba h
  obtain ⟨h3, h⟩ := He.ba h
  obtain ⟨h4, h⟩ := He.ba h
  obtain ⟨h5, h⟩ := He.ba h
  obtain ⟨h6, h⟩ := He.ba h
  obtain ⟨h7, h⟩ := He.ba h
  obtain ⟨h8, h⟩ := He.ba h
  obtain ⟨h9, h⟩ := He.ba h
  obtain ⟨h10, h⟩ := He.ba h
  obtain ⟨h11, h12⟩ := He.ba h
  have xf := xfB_ok h8
  refine ⟨⟨?_, He.eqO_ok h2, of_decide_eq_true h3, of_decide_eq_true h4, h5⟩, He.eqO_ok h6, of_decide_eq_true h7, ⟨xf.ga, xf.gg, xf.exC, xf.hdC, He.eqO_ok h9, He.eqO_ok h10, of_decide_eq_true h11, of_decide_eq_true h12⟩, xf⟩
  split at h1
  · rename_i c dd cd sl ho
    obtain ⟨hc, _⟩ := He.ba h1
    have hc := of_decide_eq_true hc
    subst hc
    obtain ⟨nm, bs, mr, N, qn, hD, sn, sub, ab, col, hDel⟩ := cd
    split at h1
    · rename_i C bm k0 k1 k2 k3 n k5 em es
      obtain ⟨_, h1⟩ := He.ba h1
      obtain ⟨a1, h1⟩ := He.ba h1
      obtain ⟨a2, h1⟩ := He.ba h1
      obtain ⟨a3, h1⟩ := He.ba h1
      obtain ⟨a4, a5⟩ := He.ba h1
      have a1 := of_decide_eq_true a1
      have a2 := of_decide_eq_true a2
      dsimp only at em a3 a4
      subst a2
      subst em
      have e3 : hDel = false := by simpa using a3
      subst e3
      have e4 : hD = true := a4
      subst e4
      have es2 : sl = #[k0, k1, k2, k3, some (.builtin "ValueError.__new__"), k5] := by
        apply Array.toList_inj.mp
        exact es
      rw [es2, a1] at ho
      exact ⟨nm, qn, N, bs, bm, sn, sub, ab, col, dd, k0, k1, k2, k3, k5, ho, a5⟩
    · cases h1
  · cases h1
theorem glo_ga (X : K.In h) (G : h.Ns mainGlobals mg) {x : Str} {C : Addr} (e : mg x = some (.ref (He.ga K x))) (hm : mg x = some (.ref C)) : C = He.ga K x := by
  rw [e] at hm
  cases hm
  rfl
theorem excT_ok (c : hkS fa fn met w K) (X : K.In h) (G : h.Ns mainGlobals mg) (hx : ∀ x ∈ excN, mg x = some (.ref (He.ga K x))) (hr : mg "Refused" = some (.ref (He.ga K "Refused"))) (hm : ∀ x ∈ met, mg x.1 = some (.ref (He.ga K x.1))) : ExcT K mg met := by
  have b := c.b.1
  refine ⟨fun x h => ⟨_, hx x h⟩, ⟨_, hr, fun x h C e => ?_⟩, fun x h C e => ?_⟩
  · obtain ⟨b1, b2⟩ := He.ba (b x h)
    obtain ⟨b2, b3⟩ := He.ba b2
    have ec := glo_ga X G (hm x h) e
    subst ec
    exact of_decide_eq_true b2
  · obtain ⟨b1, b2⟩ := He.ba (b x h)
    obtain ⟨b2, b3⟩ := He.ba b2
    obtain ⟨b3, b4⟩ := He.ba b3
    obtain ⟨b4, b5⟩ := He.ba b4
    have ec := glo_ga X G (hm x h) e
    subst ec
    have z := excB_ok b1
    refine ⟨z.e, z.x, of_decide_eq_true b3, fun y hy C' e' => ?_, fun f hf => ?_⟩
    · have ec := glo_ga X G (hx y hy) e'
      subst ec
      exact of_decide_eq_true (List.all_eq_true.mp b4 y hy)
    · exact He.eqO_ok (List.all_eq_true.mp b5 f hf)
theorem kdct_ok (c : hkS fa fn met w K) : ∀ q ∈ otherLetters, KDct K w (He.ga K "OTHER_LETTERS") q.1 (.str q.2) := by
  intro q hq
  have d := c.d
  have b := List.all_eq_true.mp c.b.2.2 q hq
  unfold dctO at d
  split at d
  · rename_i ct es n sl ho
    split at d
    · rename_i hc
      subst hc
      have d := Option.some.inj d
      have d1 : es.toList.map (fun e => (keyOf e.key, e.hash)) = otherLetters.map fun q => (some q.1, PyData.keyHash w.params q.1) := congrArg Prod.fst d
      have d2 : sl.size = 0 := congrArg Prod.snd d
      have e2 : sl = #[] := Array.eq_empty_of_size_eq_zero d2
      subst e2
      have kl : ∀ {l : List DictEntry} {m : List (Str × Str)}, l.map (fun e => (keyOf e.key, e.hash)) = m.map (fun q => (some q.1, PyData.keyHash w.params q.1)) → PySem.W.KeysLit w.params l := by
        intro l
        induction l with
        | nil => exact fun _ => trivial
        | cons e r ih =>
          intro m hm
          cases m with
          | nil => cases hm
          | cons q m =>
            rw [List.map_cons, List.map_cons] at hm
            injection hm with h1 h2
            have k1 : keyOf e.key = some q.1 := congrArg Prod.fst h1
            have k2 : e.hash = PyData.keyHash w.params q.1 := congrArg Prod.snd h1
            refine ⟨?_, ih h2⟩
            unfold keyOf at k1
            split at k1
            · rename_i x t ek
              have k1 := Option.some.inj k1
              exact ⟨x, t, ek, by rw [k2, k1]⟩
            · cases k1
      split at b
      · rename_i u hu
        exact ⟨es, n, u, ho, kl d1, hu, He.relB_ok b⟩
      · cases b
    · cases d
  · cases d
theorem orders_ok (c : hkS fa fn met w K) (H : Hp) : Im K H (.ref (He.ga K "ORDERS")) (.tup (orderStrs.map T.str)) := by
  have z := He.tupB_ok c.b.2.1 H
  have e : (orderStrs.map He.Dv.str).map (He.Dv.v K) = orderStrs.map V.str := by
    rw [List.map_map]
    rfl
  rw [e] at z
  have im : ∀ xs : List Str, Ims K H (xs.map V.str) (xs.map T.str) := fun xs => by
    induction xs with
    | nil => exact .nil
    | cons x r ih => exact .cons (.str x) ih
  exact .tup z (im _)
/-- a def by its name -/
theorem gf_of {x : Str} {params : Arguments} {body : List Stmt} {scope : Scope} {f : Addr} {fd : FuncData} {k : Nat} {ps : List Str} {sp : Sp} (F : FunD K x x params body scope [] [] f fd) (ok : FnOk P w K mg base (L2.CX P w) k f fd ps sp) (hm : mg x = some (.ref f)) (hb : Binds K fd ps []) : Gf P w K mg base x k sp := ⟨f, fd, ps, ok, hm, F.kp, hb⟩
theorem gk_of {x : Str} {params : Arguments} {body : List Stmt} {scope : Scope} {kws : List (Str × V)} {f : Addr} {fd : FuncData} {k n : Nat} {ps : List Str} {sp : Sp} (F : FunD K x x params body scope [] kws f fd) (ok : FnOk P w K mg base (L2.CX P w) k f fd ps sp) (hm : mg x = some (.ref f))
    (hk : kws ≠ []) (h : ∀ (D : Addr) (doc pm : Value) (an : Option Addr) (cdv ct : Value) (us ws : List Value), us.length = n → ws.length = 1 → bindArgs (PySem.W.fnOf x x params body scope .none (.ref D) doc pm an cdv ct) ⟨us, [Str.ofString "order"].zip ws⟩ = pure (ps.zip (us ++ ws))) : Gk P w K mg base x k n sp := by
  obtain ⟨mv, hb⟩ := FunD.kbinds0 F n [Str.ofString "order"] [] (fun us _ ws => us ++ ws) hk (fun q hq => by cases hq) (fun {vs mz zs us mv ws} r1 _ r3 => Vals.append r1 r3) (fun D doc pm an cdv ct us mv ws l1 _ l3 => h D doc pm an cdv ct us ws l1 l3)
  exact ⟨f, fd, ps, _, ok, hm, F.kp, hb⟩
theorem xf_of {x : Str} {fs : List Str} {fd : FuncData} {k : Nat} {ps : List Str} (c : hkS fa fn met w K) (hx : (x, fs) ∈ met) (ok : FnOk P w K mg base (L2.CX P w) k (He.ma K (He.ga K x) "__init__") fd ps (spInit K fs)) (hb : Binds K fd ps []) (hm : mg x = some (.ref (He.ga K x))) : Xf P w K mg base x k fs := by
  obtain ⟨b1, b2⟩ := He.ba (c.b.1 _ hx)
  obtain ⟨_, b3⟩ := He.ba b2
  obtain ⟨_, b4⟩ := He.ba b3
  obtain ⟨_, b5⟩ := He.ba b4
  have z := excB_ok b1
  exact ⟨_, _, fd, ps, z.o, z.i, z.t, ok, hb, hm, fun f hf => He.eqO_ok (List.all_eq_true.mp b5 f hf)⟩
end
end TW

set_option Elab.async false
set_option linter.all false
set_option maxRecDepth 100000
set_option maxHeartbeats 4000000
namespace TW
open PySem PySem.Spec PyProof.Rows L2
/-! ### promises: the store's defs -/
section
/-- a number of moderate size -/
def Small (m : Int) : Prop := m.natAbs < 2 ^ 8000
theorem small_of {m : Int} (h : m.natAbs < 2 ^ 200) : Small m := Nat.lt_of_lt_of_le h (Nat.pow_le_pow_right (by decide) (by decide))
theorem small_lit {m : Int} (h0 : -1000000000000000000000000000000000000000000 ≤ m) (h1 : m ≤ 1000000000000000000000000000000000000000000) : Small m := small_of (Nat.lt_of_le_of_lt (show m.natAbs ≤ 1000000000000000000000000000000000000000000 by omega) (by decide))
def mixF (n t : Int) : Int :=
  let first := (n % 2147483647 * 48271 + t * 69621 + 17) % 2147483647
  let second := (first * first + first * 16807 + t * 39373 + 5) % 2147483629
  (second * 40692 + second / 4096 + 11) % 2147483587
def R_law_mix : List D → O → Prop := fun ds o => ∃ n t : Int, ds = [.im (.int n), .im (.int t)] ∧ o = .ok (.im (.int (mixF n t)))
abbrev sp_law_mix (K : PySem.W.Frag) (mg : Str → Option Value) (CF : Addr) : Sp := spO K mg R_law_mix
def sp_law_mixed (K : PySem.W.Frag) (mg : Str → Option Value) (CF : Addr) : Sp := fun vs H Q _ => ∃ n t m : Int, vs = [.int n, .int t, .int m] ∧ 2 ≤ m ∧ ∀ r H', Same H H' → 0 ≤ r → r < m → Q (.int r) H'
/-- a draw below m -/
def sp_law_take (K : PySem.W.Frag) (mg : Str → Option Value) (CF : Addr) : Sp := fun vs H Q _ => ∃ (a b : Addr) (m : Int), vs = [.ref a, .int m] ∧ StoreOk H a b ∧ Small m ∧
  ∀ r H', Sm a H H' → StoreOk H' a b → (m < 2 → r = 0) → (2 ≤ m → 0 ≤ r ∧ r < m) → Q (.int r) H'
def sp_law_hit (K : PySem.W.Frag) (mg : Str → Option Value) (CF : Addr) : Sp := fun vs H Q _ => ∃ (a b : Addr) (m : Int), vs = [.ref a, .int m] ∧ StoreOk H a b ∧ Small m ∧
  ∀ c H', Sm a H H' → StoreOk H' a b → Q (.bl c) H'
/-- one of the items -/
def sp_law_pick (K : PySem.W.Frag) (mg : Str → Option Value) (CF : Addr) : Sp := fun vs H Q _ => ∃ (a b p : Addr) (xs : List V), vs = [.ref a, .ref p] ∧ StoreOk H a b ∧ (SqL K H p xs ∨ SqT K H p xs) ∧ xs ≠ [] ∧ xs.length ≤ 100000 ∧
  ∀ v H', v ∈ xs → Sm a H H' → StoreOk H' a b → Q v H'
def sp_law_span (K : PySem.W.Frag) (mg : Str → Option Value) (CF : Addr) : Sp := fun vs H Q _ => ∃ (a b : Addr) (lo hi : Int), vs = [.ref a, .int lo, .int hi] ∧ StoreOk H a b ∧ Small (hi - lo + 1) ∧
  ∀ r H', Sm a H H' → StoreOk H' a b → lo ≤ r → (lo ≤ hi → r ≤ hi) → Q (.int r) H'
/-- some of the items, in a new list -/
def sp_law_some (K : PySem.W.Frag) (mg : Str → Option Value) (CF : Addr) : Sp := fun vs H Q _ => ∃ (a b p : Addr) (xs : List V) (m : Int), vs = [.ref a, .ref p, .int m] ∧ StoreOk H a b ∧ (SqL K H p xs ∨ SqT K H p xs) ∧ xs.length ≤ 100000 ∧
  ∀ (q : Addr) (ys zs : List V) H', Sm a H H' → StoreOk H' a b → (ys ++ zs).Perm xs → ((ys.length : Nat) : Int) ≤ max 0 m → H q = none → H' q = some (.lst ys) → Q (.ref q) H'
/-- the items, in a list or in a tuple -/
def sp_law_sequence (K : PySem.W.Frag) (mg : Str → Option Value) (CF : Addr) : Sp := fun vs H Q _ => ∃ (a b p : Addr) (xs : List V), vs = [.ref a, .ref p] ∧ StoreOk H a b ∧ (SqL K H p xs ∨ SqT K H p xs) ∧
  ∀ (q : Addr) H', Sm a H H' → StoreOk H' a b → (SqL K H' q xs ∨ SqT K H' q xs) → Q (.ref q) H'
/-- the store of a script -/
def sp_law_store (K : PySem.W.Frag) (mg : Str → Option Value) (CF : Addr) : Sp := fun vs H Q _ => ∃ (p : Addr) (ns : List Int), vs = [.ref p] ∧ SqL K H p (ns.map V.int) ∧
  ∀ a b H', Same H H' → H a = none → H b = none → StoreOk H' a b → Q (.ref a) H'
end
end TW

set_option Elab.async false
set_option linter.all false
set_option maxRecDepth 100000
set_option maxHeartbeats 4000000
namespace TW
open PySem PySem.Spec PyProof.Rows L2
/-! ### promises: the program's defs -/
section
def R_need_order : List D → O → Prop := fun ds o => ∃ x : Str, ds = [.im (.str x)] ∧ o = if x ∈ orderStrs then .ok (.im .non) else .ex "BadOrder" [("order", .str x)]
abbrev sp_need_order (K : PySem.W.Frag) (mg : Str → Option Value) (CF : Addr) : Sp := spO K mg R_need_order
abbrev sp_check_order (K : PySem.W.Frag) (mg : Str → Option Value) (CF : Addr) : Sp := spO K mg R_need_order
def R_is_by_rows : List D → O → Prop := fun ds o => ∃ a : Ord, ds = [.im (.str a.str)] ∧ o = .ok (.im (.bl a.r))
abbrev sp_is_by_rows (K : PySem.W.Frag) (mg : Str → Option Value) (CF : Addr) : Sp := spO K mg R_is_by_rows
def R_signs_of : List D → O → Prop := fun ds o => ∃ a : Ord, ds = [.im (.str a.str)] ∧ o = .ok (.im (cellT (a.sy, a.sx)))
abbrev sp_signs_of (K : PySem.W.Frag) (mg : Str → Option Value) (CF : Addr) : Sp := spO K mg R_signs_of
def R_order_key : List D → O → Prop := fun ds o => ∃ (a : Ord) (c : Cell), ds = [.im (.str a.str), .im (cellT c)] ∧ o = .ok (.im (cellT (a.key c)))
abbrev sp_order_key (K : PySem.W.Frag) (mg : Str → Option Value) (CF : Addr) : Sp := spO K mg R_order_key
def R_is_forward : List D → O → Prop := fun ds o => ∃ (a : Ord) (c : Cell), ds = [.im (.str a.str), .im (cellT c)] ∧ o = .ok (.im (.bl (lex2 (0, 0) (a.key c))))
abbrev sp_is_forward (K : PySem.W.Frag) (mg : Str → Option Value) (CF : Addr) : Sp := spO K mg R_is_forward
def R_opposite : List D → O → Prop := fun ds o => ∃ a : Ord, ds = [.im (.str a.str)] ∧ o = .ok (.im (.str a.opp.str))
abbrev sp_opposite (K : PySem.W.Frag) (mg : Str → Option Value) (CF : Addr) : Sp := spO K mg R_opposite
def R_forward_part : List D → O → Prop := fun ds o => ∃ (a : Ord) (m : List Move), ds = [.im (.str a.str), .im (maskT m)] ∧ m.length ≤ 1000 ∧ o = .ok (.im (maskT (a.part m)))
abbrev sp_forward_part (K : PySem.W.Frag) (mg : Str → Option Value) (CF : Addr) : Sp := spO K mg R_forward_part
def R_moves_of : List D → O → Prop := fun ds o => ∃ (m : List Move), ds = [.im (maskT m)] ∧ m.length ≤ 1000 ∧ o = .ok (.im (.tup (m.map fun q => cellT (q.1, q.2.1))))
abbrev sp_moves_of (K : PySem.W.Frag) (mg : Str → Option Value) (CF : Addr) : Sp := spO K mg R_moves_of
def R_indexes_by : List D → O → Prop := fun ds o => ∃ (b : Bool) (n : Nat), ds = [.im (.int (if b then 1 else -1)), .im (.int (n : Int))] ∧ n ≤ 100 ∧ o = .ok (.ls ((dirs b n).map T.int))
abbrev sp_indexes_by (K : PySem.W.Frag) (mg : Str → Option Value) (CF : Addr) : Sp := spO K mg R_indexes_by
def R_cells_in : List D → O → Prop := fun ds o => ∃ (a : Ord) (h w : Nat), ds = [.im (.str a.str), .im (.int (h : Int)), .im (.int (w : Int))] ∧ h ≤ 100 ∧ w ≤ 100 ∧ o = .ok (.im (.tup ((a.cells h w).map cellT)))
abbrev sp_cells_in (K : PySem.W.Frag) (mg : Str → Option Value) (CF : Addr) : Sp := spO K mg R_cells_in
def R_start_grid (CF : Addr) : List D → O → Prop := fun ds o => ∃ F : Fl, ds = [F.d CF] ∧ o = .ok (.im (F.gridT F.start))
abbrev sp_start_grid (K : PySem.W.Frag) (mg : Str → Option Value) (CF : Addr) : Sp := spO K mg (R_start_grid CF)
def sp_least_item (K : PySem.W.Frag) (mg : Str → Option Value) (CF : Addr) : Sp := fun vs H Q _ => ∃ (p : Addr) (S : Tab) (fw : List Move) (c : Cell) (own : Option Int) (v2 v3 v4 : V), vs = [.ref p, v2, v3, v4] ∧ TabAt H p S ∧ Is K H v2 (.im (maskT fw)) ∧ Is K H v3 (.im (cellT c)) ∧ Is K H v4 (.im (oT own)) ∧ fw.length ≤ 1000 ∧
  ∀ v H', Same H H' → Is K H' v (.im (oT (least S fw c own))) → Q v H'
def sp_settled_by (K : PySem.W.Frag) (mg : Str → Option Value) (CF : Addr) : Sp := fun vs H Q _ => ∃ (F : Fl) (mask : List Move) (a : Ord) (g : Grid) (v1 v2 v3 v4 : V), vs = [v1, v2, v3, v4] ∧ Is K H v1 (F.d CF) ∧ Is K H v2 (.im (maskT mask)) ∧ Is K H v3 (.im (F.gridT g)) ∧ Is K H v4 (.im (.str a.str)) ∧ mask.length ≤ 1000 ∧
  ∀ p H', Same H H' → H p = none → TabAt H' p (F.sweepT mask a g) → Q (.ref p) H'
def R_sweep_once (CF : Addr) : List D → O → Prop := fun ds o => ∃ (F : Fl) (mask : List Move) (a : Ord) (g : Grid), ds = [F.d CF, .im (maskT mask), .im (F.gridT g), .im (.str a.str)] ∧ mask.length ≤ 1000 ∧ o = .ok (.im (F.gridT (F.sweep mask a g)))
abbrev sp_sweep_once (K : PySem.W.Frag) (mg : Str → Option Value) (CF : Addr) : Sp := spO K mg (R_sweep_once CF)
def R_changed_cells : List D → O → Prop := fun ds o => ∃ (F : Fl) (a b : Grid), ds = [.im (F.gridT a), .im (F.gridT b)] ∧ o = .ok (.im (.tup ((F.all.filter fun c => !decide (a c = b c)).map cellT)))
abbrev sp_changed_cells (K : PySem.W.Frag) (mg : Str → Option Value) (CF : Addr) : Sp := spO K mg R_changed_cells
def needW (ws : List Str) : O := match ws.find? fun x => !decide (x ∈ orderStrs) with
  | some x => .ex "BadOrder" [("order", .str x)]
  | none => if 36 < ws.length then .ex "TooMany" [("limit", .int 36), ("what", .str "word")] else .ok (.im .non)
def R_need_word : List D → O → Prop := fun ds o => ∃ ws : List Str, ds = [.sq (ws.map T.str)] ∧ ws.length ≤ 1000 ∧ o = needW ws
abbrev sp_need_word (K : PySem.W.Frag) (mg : Str → Option Value) (CF : Addr) : Sp := spO K mg R_need_word
def settleT (F : Fl) (mask : List Move) (a : Ord) (n : Nat) : T := .tup [F.gridT (F.run mask (altO a) n), .int n, .tup ((F.chL (F.run mask (altO a)) n).map T.int)]
def R_settle (CF : Addr) : List D → O → Prop := fun ds o => ∃ (F : Fl) (mask : List Move) (x : Str), ds = [F.d CF, .im (maskT mask), .im (.str x)] ∧ mask.length ≤ 1000 ∧
  ((x ∉ orderStrs ∧ o = .ex "BadOrder" [("order", .str x)]) ∨ ∃ (a : Ord) (n : Nat), x = a.str ∧ 2 ≤ n ∧ n ≤ 10000 ∧ F.nch (F.run mask (altO a) (n - 1)) (F.run mask (altO a) n) = 0 ∧ (∀ k, 2 ≤ k → k < n → F.nch (F.run mask (altO a) (k - 1)) (F.run mask (altO a) k) ≠ 0) ∧ o = .ok (.im (settleT F mask a n)))
abbrev sp_settle (K : PySem.W.Frag) (mg : Str → Option Value) (CF : Addr) : Sp := spO K mg (R_settle CF)
def R_settle_by (CF : Addr) : List D → O → Prop := fun ds o => ∃ (F : Fl) (mask : List Move) (ws : List Str), ds = [F.d CF, .im (maskT mask), .sq (ws.map T.str)] ∧ mask.length ≤ 1000 ∧ ws.length ≤ 1000 ∧
  ((∃ x fs, needW ws = .ex x fs ∧ o = .ex x fs) ∨ (needW ws = .ok (.im .non) ∧ ws = [] ∧ o = .ex "Empty" [("what", .str "word")]) ∨
    ∃ os : List Ord, ws = os.map Ord.str ∧ os ≠ [] ∧ os.length ≤ 36 ∧ ((∃ m ∈ mask, (∀ a ∈ os, a.fwd m = false) ∧ o = .ex "NotYes" [("what", .str "word")]) ∨
      ((∀ m ∈ mask, ∃ a ∈ os, a.fwd m = true) ∧ ∃ n : Nat, n ≤ 10000 ∧ F.idle (F.run mask (wordO os)) n = os.length ∧ (∀ k, k < n → F.idle (F.run mask (wordO os)) k < os.length) ∧ o = .ok (.im (.tup [F.gridT (F.run mask (wordO os) n), .int n])))))
abbrev sp_settle_by (K : PySem.W.Frag) (mg : Str → Option Value) (CF : Addr) : Sp := spO K mg (R_settle_by CF)
def R_check_size : List D → O → Prop := fun ds o => ∃ (h w : Nat), ds = [.im (.int (h : Int)), .im (.int (w : Int))] ∧ h ≤ 14 ∧ w ≤ 14 ∧ o = .ok (.im .non)
abbrev sp_check_size (K : PySem.W.Frag) (mg : Str → Option Value) (CF : Addr) : Sp := spO K mg R_check_size
def R_check_rows : List D → O → Prop := fun ds o => ∃ F : Fl, ds = [.im (.tup F.rows)] ∧ o = .ok (.im .non)
abbrev sp_check_rows (K : PySem.W.Frag) (mg : Str → Option Value) (CF : Addr) : Sp := spO K mg R_check_rows
def sp_Floor_init (K : PySem.W.Frag) (mg : Str → Option Value) (CF : Addr) : Sp := fun vs H Q _ => ∃ (a dx : Addr) (v : V) (F : Fl), vs = [.ref a, v] ∧ H a = some (.ins CF dx []) ∧ Is K H v (.im (.tup F.rows)) ∧
  ∀ H', Sm a H H' → Is K H' (.ref a) (F.d CF) → Q .non H'
abbrev sp_BadOrder_init (K : PySem.W.Frag) (mg : Str → Option Value) (CF : Addr) : Sp := spInit K ["order"]
abbrev sp_Empty_init (K : PySem.W.Frag) (mg : Str → Option Value) (CF : Addr) : Sp := spInit K ["what"]
abbrev sp_NotYes_init (K : PySem.W.Frag) (mg : Str → Option Value) (CF : Addr) : Sp := spInit K ["what"]
abbrev sp_TooMany_init (K : PySem.W.Frag) (mg : Str → Option Value) (CF : Addr) : Sp := spInit K ["what", "limit"]
/- letters of an order -/
theorem ord_c0 (a : Ord) : atI a.str.cps.toList 0 = some (if a.r then 114 else 99) := by rcases a with ⟨r, d, x⟩; cases r <;> cases d <;> cases x <;> rfl
theorem ord_c1 (a : Ord) : atI a.str.cps.toList 1 = some (if a.d then 100 else 117) := by rcases a with ⟨r, d, x⟩; cases r <;> cases d <;> cases x <;> rfl
theorem ord_c2 (a : Ord) : atI a.str.cps.toList 2 = some (if a.x then 114 else 108) := by rcases a with ⟨r, d, x⟩; cases r <;> cases d <;> cases x <;> rfl
theorem ord_len (a : Ord) : a.str.length = 3 := by rcases a with ⟨r, d, x⟩; cases r <;> cases d <;> cases x <;> rfl
theorem ord_len' (a : Ord) : a.str.length ≤ 1000 := by rw [ord_len]; omega
theorem beq_r (b : Bool) : T.beq (.str ⟨#[if b then 114 else 99]⟩) (.str "r") = b := by cases b <;> decide
theorem beq_d (b : Bool) : T.beq (.str ⟨#[if b then 100 else 117]⟩) (.str "d") = b := by cases b <;> decide
theorem beq_x (b : Bool) : T.beq (.str ⟨#[if b then 114 else 108]⟩) (.str "r") = b := by cases b <;> decide
theorem beq_u (b : Bool) : T.beq (.str ⟨#[if b then 100 else 117]⟩) (.str "u") = !b := by cases b <;> decide
theorem beq_l (b : Bool) : T.beq (.str ⟨#[if b then 114 else 108]⟩) (.str "l") = !b := by cases b <;> decide
theorem okd_s {x : Str} {n : Nat} (h : PyData.strOk x = true) : T.okd (.str x) n = true := h
theorem okd_c (n : Nat) (h : n < 1000) : T.okd (.str ⟨#[n]⟩) 5 = true := by
  show PyData.strOk _ = true
  simp [PyData.strOk, h]
  omega
theorem ord_mem (a : Ord) : a.str ∈ orderStrs := by rcases a with ⟨r, d, x⟩; cases r <;> cases d <;> cases x <;> decide
theorem needW_ok {os : List Ord} (h : os.length ≤ 36) : needW (os.map Ord.str) = .ok (.im .non) := by
  unfold needW
  rw [List.find?_eq_none.mpr (fun x hx => by
    obtain ⟨a, _, rfl⟩ := List.mem_map.mp hx
    simpa using ord_mem a)]
  show (if _ then _ else _) = _
  rw [if_neg (by rw [List.length_map]; omega)]
theorem ev_bls {K : PySem.W.Frag} {te : TE} {σ : L2.St} {H : Hp} {α : Type} {xs : List α} {f : α → Bool} (h : EvN K te σ H (xs.map fun a => T.bl (f a))) : EvN K te σ H ((xs.map f).map T.bl) := by
  rw [List.map_map]
  exact h
end
end TW

set_option Elab.async false
set_option linter.all false
set_option maxRecDepth 100000
set_option maxHeartbeats 4000000
namespace TW
open PySem PySem.Spec PyProof.Rows L2
/-! ### promises: the law's defs -/
section
def R_law_is_integer : List D → O → Prop := fun ds o => ∃ t : T, ds = [.im t] ∧ o = .ok (.im (.bl (decide (t.ty = "int"))))
abbrev sp_law_is_integer (K : PySem.W.Frag) (mg : Str → Option Value) (CF : Addr) : Sp := spO K mg R_law_is_integer
def R_law_orders : List D → O → Prop := fun ds o => ds = [] ∧ o = .ok (.im (.tup (orderStrs.map T.str)))
abbrev sp_law_orders (K : PySem.W.Frag) (mg : Str → Option Value) (CF : Addr) : Sp := spO K mg R_law_orders
abbrev sp_law_key (K : PySem.W.Frag) (mg : Str → Option Value) (CF : Addr) : Sp := spO K mg R_order_key
abbrev sp_law_is_ahead (K : PySem.W.Frag) (mg : Str → Option Value) (CF : Addr) : Sp := spO K mg R_is_forward
abbrev sp_law_counter (K : PySem.W.Frag) (mg : Str → Option Value) (CF : Addr) : Sp := spO K mg R_opposite
def R_law_part : List D → O → Prop := fun ds o => ∃ (a : Ord) (m : List Move), ds = [.im (.str a.str), .im (maskT m), .im (.bl true)] ∧ m.length ≤ 1000 ∧ o = .ok (.im (maskT (a.part m)))
abbrev sp_law_part (K : PySem.W.Frag) (mg : Str → Option Value) (CF : Addr) : Sp := spO K mg R_law_part
def R_law_is_open : List D → O → Prop := fun ds o => ∃ (F : Fl) (c : Cell), ds = [.im (.tup F.rows), .im (cellT c)] ∧ o = .ok (.im (.bl (F.op c)))
abbrev sp_law_is_open (K : PySem.W.Frag) (mg : Str → Option Value) (CF : Addr) : Sp := spO K mg R_law_is_open
def R_law_changed : List D → O → Prop := fun ds o => ∃ (F : Fl) (a b : Grid), ds = [.im (F.gridT a), .im (F.gridT b)] ∧ o = .ok (.im (.int (F.nch a b : Nat)))
abbrev sp_law_changed (K : PySem.W.Frag) (mg : Str → Option Value) (CF : Addr) : Sp := spO K mg R_law_changed
def R_law_start_grid : List D → O → Prop := fun ds o => ∃ F : Fl, ds = [.im (.tup F.rows)] ∧ o = .ok (.im (F.gridT F.start))
abbrev sp_law_start_grid (K : PySem.W.Frag) (mg : Str → Option Value) (CF : Addr) : Sp := spO K mg R_law_start_grid
def R_law_cells_where : List D → List T → Prop := fun ds ts => ∃ F : Fl, ds = [.im (.tup F.rows), .im (.str "open")] ∧ ts = F.opens.map cellT
abbrev sp_law_cells_where (K : PySem.W.Frag) (mg : Str → Option Value) (CF : Addr) : Sp := spN K R_law_cells_where
def R_law_arrows : List D → O → Prop := fun ds o => ∃ (F : Fl) (m : List Move), ds = [.im (.tup F.rows), .im (maskT m)] ∧ m.length ≤ 100 ∧ o = .ok (.ls ((F.arrows m).map arrT))
abbrev sp_law_arrows (K : PySem.W.Frag) (mg : Str → Option Value) (CF : Addr) : Sp := spO K mg R_law_arrows
def R_law_grown : List D → O → Prop := fun ds o => ∃ (F : Fl) (g : Grid) (as : List Arrow), ds = [.im (F.gridT g), .ls (as.map arrT)] ∧ as.length ≤ 100000 ∧ (∀ a ∈ as, F.ins a.1 = true ∧ F.ins a.2.1 = true) ∧ o = .ok (.im (F.gridT (grow as 200 g)))
abbrev sp_law_grown (K : PySem.W.Frag) (mg : Str → Option Value) (CF : Addr) : Sp := spO K mg R_law_grown
def R_law_distances : List D → O → Prop := fun ds o => ∃ (F : Fl) (m : List Move), ds = [.im (.tup F.rows), .im (maskT m)] ∧ m.length ≤ 100 ∧ o = .ok (.im (F.gridT (F.dist m)))
abbrev sp_law_distances (K : PySem.W.Frag) (mg : Str → Option Value) (CF : Addr) : Sp := spO K mg R_law_distances
def R_law_ordered_cells : List D → List T → Prop := fun ds ts => ∃ (F : Fl) (a : Ord), ds = [.im (.tup F.rows), .im (.str a.str)] ∧ ts = ((a.cells F.h F.w).filter F.op).map cellT
abbrev sp_law_ordered_cells (K : PySem.W.Frag) (mg : Str → Option Value) (CF : Addr) : Sp := spN K R_law_ordered_cells
def R_law_sweep : List D → O → Prop := fun ds o => ∃ (F : Fl) (m : List Move) (a : Ord) (g : Grid), ds = [.im (.tup F.rows), .im (maskT m), .im (.str a.str), .im (F.gridT g)] ∧ m.length ≤ 1000 ∧ o = .ok (.im (F.gridT (F.sweep m a g)))
abbrev sp_law_sweep (K : PySem.W.Frag) (mg : Str → Option Value) (CF : Addr) : Sp := spO K mg R_law_sweep
end
end TW

set_option Elab.async false
set_option linter.all false
set_option maxRecDepth 100000
set_option maxHeartbeats 4000000
namespace TW
open PySem PySem.Spec PyProof.Rows L2
/-! ### promises: the law's draws -/
section
def sp_law_price (K : PySem.W.Frag) (mg : Str → Option Value) (CF : Addr) : Sp := fun vs H Q _ => ∃ (a b : Addr) (lo hi : Int), vs = [.ref a, .int lo, .int hi] ∧ StoreOk H a b ∧ -1000000000000 ≤ lo ∧ lo ≤ hi ∧ hi ≤ 1000000000000 ∧
  ∀ r H', Sm a H H' → StoreOk H' a b → lo ≤ r → r ≤ hi → Q (.int r) H'
def sp_law_order (K : PySem.W.Frag) (mg : Str → Option Value) (CF : Addr) : Sp := fun vs H Q _ => ∃ (a b : Addr), vs = [.ref a] ∧ StoreOk H a b ∧ ∀ (o : Ord) H', Sm a H H' → StoreOk H' a b → Q (.str o.str) H'
def badStrs : List Str := ["", "r", "rd", "rdrr", "RDR", "rrd", "drr", "rdx", "xdr", "cdd", "rdr ", " rdr", "urd"]
def sp_law_bad_order (K : PySem.W.Frag) (mg : Str → Option Value) (CF : Addr) : Sp := fun vs H Q _ => ∃ (a b : Addr), vs = [.ref a] ∧ StoreOk H a b ∧ ∀ x H', x ∈ badStrs → Sm a H H' → StoreOk H' a b → Q (.str x) H'
def sp_law_word (K : PySem.W.Frag) (mg : Str → Option Value) (CF : Addr) : Sp := fun vs H Q _ => ∃ (a b : Addr) (most : Int), vs = [.ref a, .int most] ∧ StoreOk H a b ∧ 0 ≤ most ∧ most ≤ 100 ∧ ∀ p (os : List Ord) H', H p = none → Sm a H H' → StoreOk H' a b → H' p = some (.lst (os.map fun o => V.str o.str)) → ((os.length : Nat) : Int) ≤ most → Q (.ref p) H'
def sp_law_moves (K : PySem.W.Frag) (mg : Str → Option Value) (CF : Addr) : Sp := fun vs H Q _ => ∃ (r : Int), vs = [.int r] ∧ 1 ≤ r ∧ r ≤ 3 ∧ ∀ p ws (ms : List Cell) H', H p = none → Same H H' → H' p = some (.lst ws) → Ims K H' ws (ms.map cellT) → (∀ c ∈ ms, c ≠ (0, 0)) → ms.length ≤ 100 → Q (.ref p) H'
/-- a mask as it is drawn -/
structure GoodMask (ms : List Move) : Prop where
  len : ms.length ≤ 8
  nz : ∀ m ∈ ms, ¬ (m.1 = 0 ∧ m.2.1 = 0)
  pos : ∀ m ∈ ms, 0 ≤ m.2.2
def sp_law_free_mask (K : PySem.W.Frag) (mg : Str → Option Value) (CF : Addr) : Sp := fun vs H Q _ => ∃ (a b : Addr) (r most hi : Int), vs = [.ref a, .int r, .int most, .int 0, .int hi] ∧ StoreOk H a b ∧ 1 ≤ r ∧ r ≤ 3 ∧ 0 ≤ most ∧ most ≤ 8 ∧ 0 ≤ hi ∧ hi ≤ 1000000000000 ∧
  ∀ v ms H', Sm a H H' → StoreOk H' a b → Is K H' v (.im (maskT ms)) → GoodMask ms → Q v H'
def sp_law_eights (K : PySem.W.Frag) (mg : Str → Option Value) (CF : Addr) : Sp := fun vs H Q _ => ∃ (a b : Addr) (hi : Int), vs = [.ref a, .int 0, .int hi] ∧ StoreOk H a b ∧ 0 ≤ hi ∧ hi ≤ 1000000000 ∧
  ∀ v ms H', Sm a H H' → StoreOk H' a b → Is K H' v (.im (maskT ms)) → GoodMask ms → Q v H'
def sp_law_drawn_mask (K : PySem.W.Frag) (mg : Str → Option Value) (CF : Addr) : Sp := fun vs H Q _ => ∃ (a b : Addr), vs = [.ref a, .int 0] ∧ StoreOk H a b ∧
  ∀ v ms H', Sm a H H' → StoreOk H' a b → Is K H' v (.im (maskT ms)) → GoodMask ms → Q v H'
def GoodWord (ws : List Str) : Prop := ws.length ≤ 100 ∧ ∀ x ∈ ws, x ∈ orderStrs ∨ x ∈ badStrs
def sp_law_drawn_word (K : PySem.W.Frag) (mg : Str → Option Value) (CF : Addr) : Sp := fun vs H Q _ => ∃ (a b : Addr), vs = [.ref a] ∧ StoreOk H a b ∧
  ∀ p ws H', H p = none → Sm a H H' → StoreOk H' a b → H' p = some (.lst (ws.map V.str)) → GoodWord ws → Q (.ref p) H'
def sp_law_drawn_floor (K : PySem.W.Frag) (mg : Str → Option Value) (CF : Addr) : Sp := fun vs H Q _ => ∃ (a b : Addr), vs = [.ref a] ∧ StoreOk H a b ∧
  ∀ v (F : Fl) H', Sm a H H' → StoreOk H' a b → Is K H' v (.im (.tup F.rows)) → Q v H'
def sideL : List Cell := [(0, 1), (1, 0), (0, -1), (-1, 0)]
theorem ims_ords : ∀ {K : PySem.W.Frag} {H : Hp} {vs : List V} {os : List Ord}, Ims K H vs (os.map fun o => T.str o.str) → vs = os.map fun o => V.str o.str := fun {K H vs os} h => by
  have e : (os.map fun o => T.str o.str) = (os.map Ord.str).map T.str := by rw [List.map_map]; rfl
  rw [e] at h
  rw [ims_strs h, List.map_map]
  rfl
theorem orders_all (o : Ord) : o ∈ orders := by rcases o with ⟨r, d, x⟩; cases r <;> cases d <;> cases x <;> decide
/-! items of a floor as values -/
def Item.v : Item → V
  | .wall => .str "#"
  | .free => .non
  | .num i => .int i
theorem Item.im {K : PySem.W.Frag} {H : Hp} (i : Item) : Im K H i.v i.t := by
  cases i with
  | wall => exact .str _
  | free => exact .non
  | num j => exact .int j
theorem Item.of_im {K : PySem.W.Frag} {H : Hp} {v : V} {i : Item} (h : Im K H v i.t) : v = i.v := by
  cases i with
  | wall => exact h.str_inv
  | free => exact h.non_inv
  | num j => exact h.int_inv
theorem Item.of_ims {K : PySem.W.Frag} {H : Hp} : ∀ {vs : List V} {is : List Item}, Ims K H vs (is.map Item.t) → vs = is.map Item.v
  | [], [], _ => rfl
  | _, i :: r, h => by
    obtain ⟨v, ws, rfl, h1, h2⟩ := h.cons_inv
    rw [Item.of_im h1, Item.of_ims h2] <;> rfl
/-- a list of items -/
def LV (H : Hp) (v : V) : Prop := ∃ q is, v = .ref q ∧ H q = some (.lst (is.map Item.v)) ∧ is ≠ [] ∧ is.length ≤ 100
theorem LV.same {H H' : Hp} {v : V} (s : Same H H') (h : LV H v) : LV H' v := by
  obtain ⟨q, is, e, h1, h2, h3⟩ := h
  exact ⟨q, is, e, s _ _ h1, h2, h3⟩
theorem LV.sm {H H' : Hp} {v : V} {a b : Addr} (m : Sm a H H') (ok : StoreOk H a b) (h : LV H v) : LV H' v := by
  obtain ⟨q, is, e, h1, h2, h3⟩ := h
  obtain ⟨kvs, ea⟩ := ok.dk
  exact ⟨q, is, e, m q _ (fun z => by rw [z, ea] at h1; cases h1) h1, h2, h3⟩
def sizeL : List (Nat × Nat) := [(1, 14), (14, 1), (7, 7), (2, 12), (14, 14)]
theorem fl_of {rows : List (List Item)} {hh ww : Nat} (l : rows.length = hh) (w : ∀ r ∈ rows, r.length = ww) (h1 : 1 ≤ hh ∧ hh ≤ 14) (w1 : 1 ≤ ww ∧ ww ≤ 14) : ∃ F : Fl, F.rows = rows.map fun r => T.tup (r.map Item.t) := by
  refine ⟨⟨hh, ww, fun c => (rows.getD c.1.toNat []).getD c.2.toNat .wall, h1.1, w1.1, h1.2, w1.2⟩, ?_⟩
  refine List.ext_getElem? fun i => ?_
  unfold Fl.rows rowsL
  rw [List.getElem?_map, List.getElem?_map]
  by_cases hi : i < hh
  · rw [List.getElem?_range hi]
    have hr : rows[i]? = some rows[i] := List.getElem?_eq_getElem (by omega)
    rw [hr]
    show some (T.tup _) = some (T.tup _)
    congr 2
    have wr := w _ (List.mem_of_getElem? hr)
    refine List.ext_getElem? fun j => ?_
    unfold rowL
    rw [List.getElem?_map, List.getElem?_map]
    by_cases hj : j < ww
    · rw [List.getElem?_range hj, List.getElem?_eq_getElem (show j < rows[i].length by omega)]
      show some (Item.t _) = some (Item.t _)
      congr 2
      show (rows.getD ((i : Int)).toNat []).getD ((j : Int)).toNat .wall = rows[i][j]
      rw [Int.toNat_natCast, Int.toNat_natCast, List.getD_eq_getElem?_getD, List.getD_eq_getElem?_getD, hr]
      show (rows[i][j]?).getD .wall = rows[i][j]
      rw [List.getElem?_eq_getElem (show j < rows[i].length by omega)]
      rfl
    · rw [List.getElem?_eq_none (by simpa using hj), List.getElem?_eq_none (by omega)]
      rfl
  · rw [List.getElem?_eq_none (by simpa using hi), List.getElem?_eq_none (by omega)]
    rfl
section
variable {K : PySem.W.Frag} {σ : L2.St} {H : Hp} {te ta tb : TE} {args : TA} {ts us : List T} {n : Nat}
/-- arguments that are lists of items -/
def EvAL (K : PySem.W.Frag) (ta : TA) (σ : L2.St) (H : Hp) (n : Nat) : Prop := ∀ H1, Same H H1 → ∀ Q : List V → Hp → Prop, (∀ vs H', Same H1 H' → vs.length = n → (∀ v ∈ vs, LV H' v) → Q vs H') → ta σ H1 Q
theorem al_nil : EvAL K tNil σ H 0 := fun H1 _ _ q => q [] H1 (Same.refl H1) rfl fun _ h => absurd h List.not_mem_nil
theorem al_cons {is : List Item} (h : EvN K te σ H (is.map Item.t)) (h0 : is ≠ []) (h1 : is.length ≤ 100) (r : EvAL K args σ H n) : EvAL K (tCons te args) σ H (n + 1) := fun H1 s Q q =>
  h H1 s _ fun p vs H2 hp s2 e im => r H2 (s.trans s2) _ fun xs H3 s3 l hl => q (.ref p :: xs) H3 (s2.trans s3) (by rw [List.length_cons, l]) fun v hv => by
    rcases List.mem_cons.mp hv with z | z
    · rw [z]
      have ev := Item.of_ims im
      subst ev
      exact ⟨p, is, rfl, s3 _ _ e, h0, h1⟩
    · exact hl v z
theorem e_lists (K : PySem.W.Frag) {Q : VK} (h : EvAL K args σ H n) (hn : n ≤ 1000) (q : ∀ l lv H', Same H H' → H l = none → H' l = some (.lst lv) → lv.length = n → (∀ v ∈ lv, LV H' v) → Q (.ref l) H') : tLst args σ H Q := h H (Same.refl H) _ fun vs H1 s1 hl hv => by
  refine ⟨by rw [hl]; exact Nat.le_of_lt (small1000 hn), fun p hp => ?_⟩
  exact q p vs _ (s1.trans (same_new hp)) (s1.free hp) upd_same hl fun v hv' => (hv v hv').same (same_new hp)
theorem rng_go (K : PySem.W.Frag) {R : It → Hp → Prop} {j : Int} (h : EvA K args σ H [.im (.int j)]) (hj : -(2 ^ 62) ≤ j ∧ j < 2 ^ 62) (q : ∀ H', Same H H' → R (Itr 0 j.toNat) H') : iRng1 args σ H R := h H (Same.refl H) _ fun vs H1 s1 hv => by
  obtain ⟨v, rfl, h1⟩ := hv.one_inv
  exact ⟨j, by rw [h1.iv], hj.1, hj.2, q H1 s1⟩
theorem s_retI {te : TE} {nx bk ct : L2.St → Hp → Prop} {rt : VK} (h : te σ H rt) : tRet te ⟨nx, rt, bk, ct⟩ σ H := h
theorem b1_i {r : V → Hp → VK → Prop} {te : TE} {Q : VK} (h : te σ H fun x H1 => r x H1 Q) : tB1 r te σ H Q := h
/-- [e for x in range(n)], what it leaves told step by step -/
theorem s_lcR (K : PySem.W.Frag) {j : Int} {g : TG} {te : TE} {vs : List Nat} {Q : VK} (h : EvA K args σ H [.im (.int j)]) (hj : -(2 ^ 62) ≤ j ∧ j < 2 ^ 62) (q : ∀ H1, Same H H1 → ∀ D, H1 D = none → ∃ Pv : Nat → Hp → Prop, Pv 0 (upd H1 D (.lst [])) ∧
    (∀ (i : Nat) H', i < j.toNat → Pv i H' → g (.int (i : Int)) (wipe σ vs) H' fun σ2 H2 => wipe σ2 vs = wipe σ vs ∧ te σ2 H2 fun y H4 => ∃ acc, H4 D = some (.lst acc) ∧ acc.length < sizeLine ∧ Pv (i + 1) (upd H4 D (.lst (acc ++ [y])))) ∧ ∀ H', Pv j.toNat H' → Q (.ref D) H') :
    tLc (iRng1 args) g tYes te vs σ H Q := rng_go K h hj fun H1 s1 D hD => by
  obtain ⟨Pv, h0, hs, hd⟩ := q H1 s1 D hD
  refine lc_range (lo := 0) (n := j.toNat) Pv h0 (fun i H' hi p => ?_) hd
  have z := hs i H' hi p
  have e : (0 : Int) + (i : Int) = i := Int.zero_add _
  rw [e]
  refine (show (fun (k : L2.St → Hp → Prop) => g (.int (i : Int)) (wipe σ vs) H' k) _ from ?_)
  have e2 : (fun σ2 H2 => wipe σ2 vs = wipe σ vs ∧ tYes σ2 H2 fun b H3 => if b = true then te σ2 H3 fun y H4 => ∃ acc, H4 D = some (.lst acc) ∧ acc.length < sizeLine ∧ Pv (i + 1) (upd H4 D (.lst (acc ++ [y]))) else Pv (i + 1) H3) = fun σ2 H2 => wipe σ2 vs = wipe σ vs ∧ te σ2 H2 fun y H4 => ∃ acc, H4 D = some (.lst acc) ∧ acc.length < sizeLine ∧ Pv (i + 1) (upd H4 D (.lst (acc ++ [y]))) := by
    funext σ2 H2
    unfold tYes
    dsimp only
    rw [if_pos rfl]
  rw [e2]
  exact z
theorem n_cat (ha : EvN K ta σ H ts) (hb : EvN K tb σ H us) (hl : ts.length + us.length ≤ 1000) : EvN K (tOp rCat ta tb) σ H (ts ++ us) := fun H1 s Q q =>
  ha H1 s _ fun p vs H2 hp s2 e im => hb H2 (s.trans s2) _ fun p2 ws H3 hp2 s3 e3 im3 => by
    have e2 := s3 _ _ e
    have im2 := L2.Same.ims s3 im
    refine ⟨p, p2, vs, ws, rfl, rfl, e2, e3, ?_, fun r hr => ?_⟩
    · rw [im.length, im3.length]
      exact Nat.le_of_lt (small1000 hl)
    · exact q r _ _ ((s2.trans s3).free hr) ((s2.trans s3).trans (same_new hr)) upd_same ((im2.append im3).mono (keep_new hr))
theorem ims_rep {vs : List V} {ts : List T} (h : Ims K H vs ts) : ∀ k : Nat, Ims K H (List.replicate k vs).flatten (List.replicate k ts).flatten
  | 0 => .nil
  | k + 1 => by
    rw [List.replicate_succ, List.replicate_succ, List.flatten_cons, List.flatten_cons]
    exact h.append (ims_rep h k)
theorem n_rep {k : Nat} (ha : EvN K ta σ H ts) (hl : ts.length * k ≤ 1000) (hk : k ≤ 1000) : EvN K (tOp rRep ta (tC (.int (k : Int)))) σ H (List.replicate k ts).flatten := fun H1 s Q q =>
  ha H1 s _ fun p vs H2 hp s2 e im => ⟨p, (k : Int), vs, rfl, rfl, e, by omega, by omega, by
    rw [im.length, Int.toNat_natCast]
    exact Nat.le_of_lt (small1000 hl), fun r hr => by
    rw [Int.toNat_natCast]
    exact q r _ _ (s2.free hr) (s2.trans (same_new hr)) upd_same ((ims_rep im k).mono (keep_new hr))⟩
end
end
end TW

set_option Elab.async false
set_option linter.all false
set_option maxRecDepth 100000
set_option maxHeartbeats 4000000
namespace TW
open PySem PySem.Spec PyProof.Rows L2
/-! ### promises: the law's judgement -/
/-- a tree of depth below d, its tuples short -/
def Low : Nat → T → Prop
  | 0, _ => False
  | d + 1, .tup ts => ts.length ≤ 1000 ∧ ∀ x ∈ ts, Low d x
  | _ + 1, t => t.okd 5 = true ∧ t.pure = true
/-- what is the same is told so (all that is asked of it) -/
def R_law_same (d : Nat) : List D → O → Prop := fun ds o => ∃ t : T, ds = [.im t, .im t] ∧ Low d t ∧ o = .ok (.im (.bl true))
abbrev sp_law_same (d : Nat) (K : PySem.W.Frag) (mg : Str → Option Value) (CF : Addr) : Sp := spO K mg (R_law_same d)
def T.isB (b : Bool) : T → Bool
  | .bl c => decide (c = b)
  | _ => false
theorem e_isA {K : PySem.W.Frag} {σ : L2.St} {H : Hp} {ta : TE} {t : T} {b c : Bool} (ha : Ev K ta σ H (.im t)) (hc : c = t.isB b) : Ev K (tOp rIsA ta (tC (.bl b))) σ H (.im (.bl c)) := fun H1 s Q q =>
  ha H1 s _ fun v H2 s2 hv => ⟨b, rfl, by
    have e : decide (v = V.bl b) = t.isB b := by
      have hv' : Im K H2 v t := hv
      cases hv' with
      | bl c => exact decide_eq_decide.mpr ⟨fun z => V.bl.inj z, fun z => by rw [z]⟩
      | non => rfl
      | int i => rfl
      | str i => rfl
      | tup _ _ => rfl
    rw [e, ← hc]
    exact q _ H2 s2 (Im.bl c)⟩
/-- what was answered is what is due -/
def R_law_holds : List D → O → Prop := fun ds o => ∃ p d e : T, ds = [.im p, .im d, .im e] ∧ (∃ t, Low 4 t ∧ ((p = .tup [.str "told", t] ∧ d = .non ∧ e = t) ∨ (t.isN = false ∧ p = .tup [.str "refused", t] ∧ d = t))) ∧ o = .ok (.im (.bl true))
abbrev sp_law_holds (K : PySem.W.Frag) (mg : Str → Option Value) (CF : Addr) : Sp := spO K mg R_law_holds
/-- what is due to a word: a refusal, or none -/
def dueT (mask : List Move) (ws : List Str) : T := match ws.find? fun x => !decide (x ∈ orderStrs) with
  | some x => .tup [.str "BadOrder", .str x]
  | none => if ws.length = 0 then .tup [.str "Empty", .str "word"] else if 36 < ws.length then .tup [.str "TooMany", .str "word", .int 36] else
    if mask.any fun m => !(orders.any fun a => decide (a.str ∈ ws) && a.fwd m) then .tup [.str "NotYes", .str "word"] else .non
def R_law_word_due : List D → O → Prop := fun ds o => ∃ (m : List Move) (ws : List Str), ds = [.im (maskT m), .sq (ws.map T.str)] ∧ m.length ≤ 1000 ∧ ws.length ≤ 1000 ∧ o = .ok (.im (dueT m ws))
abbrev sp_law_word_due (K : PySem.W.Frag) (mg : Str → Option Value) (CF : Addr) : Sp := spO K mg R_law_word_due
theorem strs_ords : ∀ {ws : List Str}, (∀ x ∈ ws, x ∈ orderStrs) → ∃ os : List Ord, ws = os.map Ord.str
  | [], _ => ⟨[], rfl⟩
  | x :: r, h => by
    obtain ⟨os, e⟩ := strs_ords (ws := r) fun y hy => h y (List.mem_cons_of_mem _ hy)
    obtain ⟨a, _, ea⟩ := List.mem_map.mp (h x List.mem_cons_self)
    exact ⟨a :: os, by rw [e, ← ea]; rfl⟩
theorem ord_inj {a b : Ord} (h : a.str = b.str) : a = b := by
  rcases a with ⟨r, d, x⟩
  rcases b with ⟨r', d', x'⟩
  revert h
  cases r <;> cases d <;> cases x <;> cases r' <;> cases d' <;> cases x' <;> decide
theorem ords_any {os : List Ord} {m : Move} : (orders.any fun a => decide (a.str ∈ os.map Ord.str) && a.fwd m) = os.any fun a => a.fwd m := by
  rw [Bool.eq_iff_iff, List.any_eq_true, List.any_eq_true]
  constructor
  · rintro ⟨a, _, h⟩
    obtain ⟨h1, h2⟩ := Bool.and_eq_true_iff.mp h
    obtain ⟨b, hb, e⟩ := List.mem_map.mp (of_decide_eq_true h1)
    exact ⟨a, ord_inj e ▸ hb, h2⟩
  · rintro ⟨a, ha, h⟩
    exact ⟨a, orders_all a, Bool.and_eq_true_iff.mpr ⟨decide_eq_true (List.mem_map.mpr ⟨a, ha, rfl⟩), h⟩⟩
end TW

set_option Elab.async false
set_option linter.all false
set_option maxRecDepth 100000
set_option maxHeartbeats 4000000
/-! plain mathematics: sweeps over a floor come to the least prices of walks -/
namespace TW
open PySem PySem.Spec PyProof.Rows L2
/-- c is reached by k moves, with the number n -/
inductive Wk (F : Fl) (ms : List Move) : Nat → Cell → Int → Prop
  | base {c : Cell} {n : Int} : F.start c = some n → Wk F ms 0 c n
  | step {k : Nat} {c : Cell} {n : Int} {m : Move} : Wk F ms k c n → m ∈ ms → F.op (goal c m) = true → Wk F ms (k + 1) (goal c m) (n + m.2.2)
section
variable {F : Fl} {ms : List Move}
theorem start_op {c : Cell} {n : Int} (h : F.start c = some n) : F.op c = true := by
  unfold Fl.start at h
  by_cases z : F.op c = true
  · exact z
  · rw [if_neg z] at h
    cases h
theorem wk_op {k : Nat} {c : Cell} {n : Int} (h : Wk F ms k c n) : F.op c = true := by
  cases h with
  | base h => exact start_op h
  | step _ _ h => exact h
def Sound (F : Fl) (ms : List Move) (g : Grid) : Prop := ∀ c n, g c = some n → ∃ k, Wk F ms k c n
def Cov (F : Fl) (ms : List Move) (g : Grid) (k : Nat) : Prop := ∀ c n, Wk F ms k c n → ∃ h, g c = some h ∧ h ≤ n
def Full (F : Fl) (ms : List Move) (g : Grid) : Prop := ∀ k, Cov F ms g k
/-- g' is nowhere greater than g -/
def Le (g g' : Grid) : Prop := ∀ c n, g c = some n → ∃ h, g' c = some h ∧ h ≤ n
theorem Le.refl (g : Grid) : Le g g := fun c n h => ⟨n, h, Int.le_refl _⟩
theorem Le.trans {a b c : Grid} (h : Le a b) (h' : Le b c) : Le a c := fun d n e => by
  obtain ⟨x, e1, l1⟩ := h d n e
  obtain ⟨y, e2, l2⟩ := h' d x e1
  exact ⟨y, e2, by omega⟩
theorem Cov.le {g g' : Grid} {k : Nat} (h : Cov F ms g k) (l : Le g g') : Cov F ms g' k := fun c n w => by
  obtain ⟨x, e, lx⟩ := h c n w
  obtain ⟨y, e', ly⟩ := l c x e
  exact ⟨y, e', by omega⟩
theorem uniq {g g' : Grid} (s : Sound F ms g) (f : Full F ms g) (s' : Sound F ms g') (f' : Full F ms g') : g = g' := by
  have one : ∀ {a b : Grid}, Sound F ms a → Full F ms b → Le a b := fun sa fb c n e => by
    obtain ⟨k, w⟩ := sa c n e
    exact fb k c n w
  funext c
  have h1 := one s f' c
  have h2 := one s' f c
  cases e : g c with
  | none =>
    cases e' : g' c with
    | none => rfl
    | some n =>
      obtain ⟨x, z, _⟩ := h2 n e'
      rw [e] at z
      cases z
  | some n =>
    obtain ⟨x, z, lx⟩ := h1 n e
    obtain ⟨y, z', ly⟩ := h2 x z
    rw [e] at z'
    have := Option.some.inj z'
    rw [z]
    congr 1
    omega
/-! ### walks without a cell twice -/
inductive SW (F : Fl) (ms : List Move) : List Cell → Cell → Int → Prop
  | base {c : Cell} {n : Int} : F.start c = some n → SW F ms [c] c n
  | step {vs : List Cell} {c : Cell} {n : Int} {m : Move} : SW F ms vs c n → m ∈ ms → F.op (goal c m) = true → goal c m ∉ vs → SW F ms (goal c m :: vs) (goal c m) (n + m.2.2)
theorem sw_wk {vs : List Cell} {c : Cell} {n : Int} (h : SW F ms vs c n) : ∃ k, vs.length = k + 1 ∧ Wk F ms k c n := by
  induction h with
  | base h => exact ⟨0, rfl, .base h⟩
  | step _ hm ho _ ih =>
    obtain ⟨k, e, w⟩ := ih
    exact ⟨k + 1, by rw [List.length_cons, e], .step w hm ho⟩
theorem sw_nodup {vs : List Cell} {c : Cell} {n : Int} (h : SW F ms vs c n) : vs.Nodup ∧ ∀ d ∈ vs, F.op d = true := by
  induction h with
  | base h => exact ⟨by simp, fun d hd => by rw [List.mem_singleton.mp hd]; exact start_op h⟩
  | step _ hm ho hn ih =>
    refine ⟨List.nodup_cons.mpr ⟨hn, ih.1⟩, fun d hd => ?_⟩
    rcases List.mem_cons.mp hd with z | z
    · rw [z]; exact ho
    · exact ih.2 d z
theorem sw_pre (hp : ∀ m ∈ ms, 0 ≤ m.2.2) {vs : List Cell} {c : Cell} {n : Int} (h : SW F ms vs c n) : ∀ d ∈ vs, ∃ ws n', SW F ms ws d n' ∧ n' ≤ n := by
  induction h with
  | base h => exact fun d hd => by rw [List.mem_singleton.mp hd]; exact ⟨_, _, .base h, Int.le_refl _⟩
  | step hw hm ho hn ih =>
    intro d hd
    rcases List.mem_cons.mp hd with z | z
    · rw [z]; exact ⟨_, _, .step hw hm ho hn, Int.le_refl _⟩
    · obtain ⟨ws, n', h1, h2⟩ := ih d z
      have := hp _ hm
      exact ⟨ws, n', h1, by omega⟩
theorem wk_sw (hp : ∀ m ∈ ms, 0 ≤ m.2.2) {k : Nat} {c : Cell} {n : Int} (h : Wk F ms k c n) : ∃ vs n', SW F ms vs c n' ∧ n' ≤ n := by
  induction h with
  | base h => exact ⟨_, _, .base h, Int.le_refl _⟩
  | @step k c n m hw hm ho ih =>
    obtain ⟨vs, n', h1, h2⟩ := ih
    have := hp _ hm
    by_cases z : goal c m ∈ vs
    · obtain ⟨ws, n2, h3, h4⟩ := sw_pre hp h1 _ z
      exact ⟨ws, n2, h3, by omega⟩
    · exact ⟨_, _, .step h1 hm ho z, by omega⟩
theorem nodup_len {α : Type} : ∀ {l m : List α}, l.Nodup → (∀ a ∈ l, a ∈ m) → l.length ≤ m.length
  | [], _, _, _ => Nat.zero_le _
  | a :: r, m, h, hs => by
    obtain ⟨h1, h2⟩ := List.nodup_cons.mp h
    obtain ⟨s, t, rfl⟩ := List.append_of_mem (hs a List.mem_cons_self)
    have := nodup_len (l := r) (m := s ++ t) h2 fun b hb => by
      have z := hs b (List.mem_cons_of_mem _ hb)
      rcases List.mem_cons.mp (List.perm_middle.mem_iff.mp z) with y | y
      · subst y; exact absurd hb h1
      · exact y
    simp only [List.length_cons, List.length_append] at this ⊢
    omega
/-- few moves are enough -/
theorem wk_short (hp : ∀ m ∈ ms, 0 ≤ m.2.2) {k : Nat} {c : Cell} {n : Int} (h : Wk F ms k c n) : ∃ k' n', k' ≤ 195 ∧ Wk F ms k' c n' ∧ n' ≤ n := by
  obtain ⟨vs, n', h1, h2⟩ := wk_sw hp h
  obtain ⟨k', e, w⟩ := sw_wk h1
  obtain ⟨d1, d2⟩ := sw_nodup h1
  have := nodup_len (m := F.opens) d1 fun a ha => mem_opens.mpr (d2 a ha)
  have := opens_len (F := F)
  exact ⟨k', n', by omega, w, h2⟩
theorem full_of (hp : ∀ m ∈ ms, 0 ≤ m.2.2) {g : Grid} (h : ∀ k, k ≤ 195 → Cov F ms g k) : Full F ms g := fun k c n w => by
  obtain ⟨k', n', l, w', ln⟩ := wk_short hp w
  obtain ⟨x, e, lx⟩ := h k' l c n' w'
  exact ⟨x, e, by omega⟩
theorem cov_start : Cov F ms F.start 0 := fun c n w => by
  cases w with
  | base h => exact ⟨n, h, Int.le_refl _⟩
theorem sound_start : Sound F ms F.start := fun c n h => ⟨0, .base h⟩
/-- what is closed under all moves is full -/
theorem full_closed {g : Grid} (h0 : Cov F ms g 0) (h : ∀ c n m, m ∈ ms → g c = some n → F.op (goal c m) = true → ∃ x, g (goal c m) = some x ∧ x ≤ n + m.2.2) : Full F ms g := fun k => by
  induction k with
  | zero => exact h0
  | succ k ih =>
    intro c n w
    cases w with
    | step w hm ho =>
      obtain ⟨x, e, lx⟩ := ih _ _ w
      obtain ⟨y, e', ly⟩ := h _ _ _ hm e ho
      exact ⟨y, e', by omega⟩
/-! ### growing -/
theorem putG_eq {g : Grid} {c : Cell} {v : Option Int} : putG g c v c = v := if_pos rfl
theorem putG_ne {g : Grid} {c d : Cell} {v : Option Int} (h : d ≠ c) : putG g c v d = g d := if_neg h
theorem relax_le {s : Grid × Bool} {a : Arrow} : Le s.1 (relax s a).1 := by
  rcases relax_at (s := s) (a := a) with z | ⟨n, e, h, z⟩
  · rw [z]; exact Le.refl _
  · rw [z]
    intro c k hk
    by_cases y : c = a.2.1
    · subst y
      rcases h with h | ⟨x, h, l⟩
      · rw [h] at hk; cases hk
      · rw [h] at hk
        have := Option.some.inj hk
        exact ⟨_, putG_eq, by omega⟩
    · exact ⟨k, by rw [← hk]; exact putG_ne y, Int.le_refl _⟩
theorem relax_cov {s : Grid × Bool} {a : Arrow} {n : Int} (e : s.1 a.1 = some n) : ∃ x, (relax s a).1 a.2.1 = some x ∧ x ≤ n + a.2.2 := by
  unfold relax
  rw [e]
  cases f : s.1 a.2.1 with
  | none => exact ⟨_, putG_eq, Int.le_refl _⟩
  | some h =>
    by_cases c : n + a.2.2 < h
    · refine ⟨n + a.2.2, ?_, Int.le_refl _⟩
      show (if _ then _ else _ : Grid × Bool).1 _ = _
      rw [if_pos c]
      exact putG_eq
    · refine ⟨h, ?_, by omega⟩
      show (if _ then _ else _ : Grid × Bool).1 _ = _
      rw [if_neg c]
      exact f
theorem relax_sound {s : Grid × Bool} {a : Arrow} (ha : a ∈ F.arrows ms) (h : Sound F ms s.1) : Sound F ms (relax s a).1 := by
  rcases relax_at (s := s) (a := a) with z | ⟨n, e, _, z⟩
  · rw [z]; exact h
  · rw [z]
    intro c k hk
    by_cases y : c = a.2.1
    · rw [y, show (putG s.1 a.2.1 (some (n + a.2.2)), true).1 a.2.1 = some (n + a.2.2) from putG_eq] at hk
      obtain ⟨j, w⟩ := h _ _ e
      obtain ⟨_, q, hq, e1, e2, ho⟩ := mem_arrows.mp ha
      have w2 := Wk.step w hq (by rw [← e1]; exact ho)
      have := Option.some.inj hk
      rw [y, e1, ← this, e2]
      exact ⟨_, w2⟩
    · rw [show (putG s.1 a.2.1 (some (n + a.2.2)), true).1 c = s.1 c from putG_ne y] at hk
      exact h c k hk
theorem relax_idle {s : Grid × Bool} {a : Arrow} (h : (relax s a).2 = false) : relax s a = s := by
  rcases relax_at (s := s) (a := a) with z | ⟨n, e, _, z⟩
  · exact z
  · rw [z] at h; cases h
theorem fold_le : ∀ {as : List Arrow} {s : Grid × Bool}, Le s.1 (as.foldl relax s).1
  | [], s => Le.refl _
  | a :: r, s => relax_le.trans (fold_le (as := r) (s := relax s a))
theorem fold_sound : ∀ {as : List Arrow} {s : Grid × Bool}, (∀ a ∈ as, a ∈ F.arrows ms) → Sound F ms s.1 → Sound F ms (as.foldl relax s).1
  | [], s, _, h => h
  | a :: r, s, ha, h => fold_sound (as := r) (fun b hb => ha b (List.mem_cons_of_mem _ hb)) (relax_sound (ha a List.mem_cons_self) h)
theorem fold_idle : ∀ {as : List Arrow} {s : Grid × Bool}, (as.foldl relax s).2 = false → as.foldl relax s = s
  | [], s, _ => rfl
  | a :: r, s, h => by
    have e := fold_idle (as := r) (s := relax s a) h
    show r.foldl relax (relax s a) = s
    rw [e]
    refine relax_idle ?_
    rw [← e]
    exact h
theorem fold_cov : ∀ {as : List Arrow} {s : Grid × Bool} {a : Arrow} {n : Int}, a ∈ as → s.1 a.1 = some n → ∃ x, (as.foldl relax s).1 a.2.1 = some x ∧ x ≤ n + a.2.2
  | b :: r, s, a, n, ha, e => by
    rcases List.mem_cons.mp ha with z | z
    · subst z
      obtain ⟨x, e1, l1⟩ := relax_cov e
      obtain ⟨y, e2, l2⟩ := fold_le (as := r) (s := relax s a) _ _ e1
      exact ⟨y, e2, by omega⟩
    · obtain ⟨x, e1, l1⟩ := relax_le (s := s) (a := b) _ _ e
      obtain ⟨y, e2, l2⟩ := fold_cov (as := r) (s := relax s b) z e1
      exact ⟨y, e2, by omega⟩
theorem grow_math {j : Nat} : ∀ {k : Nat} {g : Grid}, Sound F ms g → (∀ i, i ≤ j → Cov F ms g i) → Sound F ms (grow (F.arrows ms) k g) ∧ (Full F ms (grow (F.arrows ms) k g) ∨ ∀ i, i ≤ j + k → Cov F ms (grow (F.arrows ms) k g) i)
  | 0, g, s, h => ⟨s, .inr h⟩
  | k + 1, g, s, h => by
    have s1 : Sound F ms ((F.arrows ms).foldl relax (g, false)).1 := fold_sound (fun _ h => h) s
    unfold grow
    by_cases z : ((F.arrows ms).foldl relax (g, false)).2 = true
    · rw [if_pos z]
      have := grow_math (j := j + 1) (k := k) s1 fun i hi => by
        by_cases y : i ≤ j
        · exact (h i y).le (fold_le (s := (g, false)))
        · have ei : i = j + 1 := by omega
          subst ei
          intro c n w
          cases w with
          | @step _ c' n' m w hm ho =>
            obtain ⟨x, e, lx⟩ := h j (Nat.le_refl _) _ _ w
            obtain ⟨y, e', ly⟩ := fold_cov (as := F.arrows ms) (s := (g, false)) (a := (c', goal c' m, m.2.2)) (mem_arrows.mpr ⟨wk_op w, m, hm, rfl, rfl, ho⟩) e
            refine ⟨y, e', ?_⟩
            have ly : y ≤ x + m.2.2 := ly
            omega
      refine ⟨this.1, ?_⟩
      rcases this.2 with y | y
      · exact .inl y
      · exact .inr fun i hi => y i (by omega)
    · rw [if_neg z]
      have z : ((F.arrows ms).foldl relax (g, false)).2 = false := by simpa using z
      have e := fold_idle z
      refine ⟨s1, .inl ?_⟩
      refine full_closed ((h 0 (Nat.zero_le _)).le (fold_le (s := (g, false)))) fun c n m hm hn ho => ?_
      rw [e] at hn ⊢
      obtain ⟨k', w⟩ := s c n hn
      have := fold_cov (as := F.arrows ms) (s := (g, false)) (a := (c, goal c m, m.2.2)) (mem_arrows.mpr ⟨wk_op w, m, hm, rfl, rfl, ho⟩) hn
      rw [e] at this
      exact this
theorem dist_math (hp : ∀ m ∈ ms, 0 ≤ m.2.2) : Sound F ms (F.dist ms) ∧ Full F ms (F.dist ms) := by
  have := grow_math (F := F) (ms := ms) (j := 0) (k := 200) sound_start fun i hi => by
    rw [show i = 0 by omega]
    exact cov_start
  refine ⟨this.1, ?_⟩
  rcases this.2 with h | h
  · exact h
  · exact full_of hp fun k hk => h k (by omega)
/-! ### a sweep -/
theorem look_app_ne {S : Tab} {c d : Cell} {v : Option Int} (h : c ≠ d) : look (S ++ [(d, v)]) c = look S c := by
  have e : (S ++ [(d, v)]).lookup c = S.lookup c := by
    induction S with
    | nil => rw [List.nil_append, List.lookup_cons, show (c == d) = false from by simpa using h]
    | cons x r ih =>
      obtain ⟨k, u⟩ := x
      rw [List.cons_append, List.lookup_cons, List.lookup_cons, ih]
  unfold look
  rw [e]
theorem look_app_some {S : Tab} {c d : Cell} {v : Option Int} {n : Int} (h : look (S ++ [(d, v)]) c = some n) : look S c = some n ∨ (c = d ∧ v = some n) := by
  by_cases z : c = d
  · subst z
    by_cases y : c ∈ S.map (·.1)
    · refine .inl ?_
      have e : (S ++ [(c, v)]).lookup c = S.lookup c := by
        induction S with
        | nil => cases y
        | cons x r ih =>
          obtain ⟨k, u⟩ := x
          rw [List.cons_append, List.lookup_cons, List.lookup_cons]
          by_cases q : c = k
          · subst q
            rw [show (c == c) = true from by simp]
          · rw [show (c == k) = false from by simpa using q]
            refine ih ?_ ?_
            · unfold look at h ⊢
              rw [List.cons_append, List.lookup_cons, show (c == k) = false from by simpa using q] at h
              exact h
            · rw [List.map_cons] at y
              rcases List.mem_cons.mp y with y | y
              · exact absurd y q
              · exact y
      unfold look at h ⊢
      rw [e] at h
      exact h
    · rw [look_snoc y, if_pos rfl] at h
      exact .inr ⟨rfl, h⟩
  · rw [look_app_ne z] at h
    exact .inl h
theorem sweepS_old {op : Cell → Bool} {fw : List Move} {g : Grid} {c : Cell} : ∀ {xs : List Cell} {S : Tab}, c ∉ xs → look (sweepS op fw g xs S) c = look S c
  | [], _, _ => rfl
  | d :: r, S, h => by
    rw [List.mem_cons, not_or] at h
    unfold sweepS
    rw [sweepS_old h.2]
    split
    · exact look_app_ne h.1
    · rfl
theorem sweepS_at {op : Cell → Bool} {fw : List Move} {g : Grid} {c : Cell} {as bs : List Cell} (hd : (as ++ c :: bs).Nodup) (ho : op c = true) : look (sweepS op fw g (as ++ c :: bs) []) c = least (sweepS op fw g as []) fw c (g c) := by
  rw [sweepS_app]
  have hp := List.nodup_append.mp hd
  have hn : c ∉ bs := (List.nodup_cons.mp hp.2.1).1
  have ha : c ∉ as := fun z => hp.2.2 c z c List.mem_cons_self rfl
  show look (sweepS op fw g bs (if op c then sweepS op fw g as [] ++ [(c, least (sweepS op fw g as []) fw c (g c))] else sweepS op fw g as [])) c = _
  rw [if_pos ho, sweepS_old hn, look_snoc, if_pos rfl]
  intro z
  rcases sweepS_keys z with y | y
  · cases y
  · exact ha y.1
theorem fwd_key {o : Ord} {m : Move} {c : Cell} (h : o.fwd m = true) (h' : c = came c m ∨ SrtO.lexB (o.key c) (o.key (came c m)) = true) : False := by
  have h1 : SrtO.lexB (0, 0) (o.key (m.1, m.2.1)) = true := h
  rw [SrtO.lexB_iff] at h1
  rw [SrtO.lexB_iff] at h'
  obtain ⟨a, b⟩ := c
  obtain ⟨p, q, r⟩ := m
  unfold Ord.key Ord.sy Ord.sx came at *
  rcases o with ⟨r, d, x⟩
  cases r <;> cases d <;> cases x <;> simp at h1 h' <;> omega
theorem goal_came {c : Cell} {m : Move} : goal (came c m) m = c := Prod.ext (show c.1 - m.1 + m.1 = c.1 by omega) (show c.2 - m.2.1 + m.2.1 = c.2 by omega)
theorem came_goal {c : Cell} {m : Move} : came (goal c m) m = c := Prod.ext (show c.1 + m.1 - m.1 = c.1 by omega) (show c.2 + m.2.1 - m.2.1 = c.2 by omega)
theorem filterMap_congr' {α β : Type} {f g : α → Option β} : ∀ {l : List α}, (∀ a ∈ l, f a = g a) → l.filterMap f = l.filterMap g
  | [], _ => rfl
  | a :: r, h => by
    rw [List.filterMap_cons, List.filterMap_cons, h a List.mem_cons_self, filterMap_congr' fun b hb => h b (List.mem_cons_of_mem _ hb)]
theorem sweep_eq {o : Ord} {g : Grid} {c : Cell} (hc : F.op c = true) : F.sweep ms o g c = leastO (oL (g c) ++ (o.part ms).filterMap fun m => (F.sweep ms o g (came c m)).map (· + m.2.2)) := by
  have hm : c ∈ o.cells F.h F.w := mem_cells.mpr (fl_ins.mp (op_ins hc))
  obtain ⟨as, bs, e⟩ := List.append_of_mem hm
  have nd : (as ++ c :: bs).Nodup := e ▸ nodup_cells
  have lt := e ▸ cells_lt (o := o) (h := F.h) (w := F.w)
  have later := (List.pairwise_cons.mp (List.pairwise_append.mp lt).2.1).1
  unfold Fl.sweep Fl.sweepT
  rw [e, sweepS_at nd hc]
  unfold least sums
  congr 2
  refine filterMap_congr' fun m hm => ?_
  have fm := (List.mem_filter.mp hm).2
  congr 1
  rw [sweepS_app, sweepS_old (xs := c :: bs)]
  intro z
  rcases List.mem_cons.mp z with y | y
  · exact fwd_key fm (.inl y.symm)
  · exact fwd_key fm (.inr (later _ y))
theorem sweep_op {o : Ord} {g : Grid} {c : Cell} {n : Int} (h : F.sweep ms o g c = some n) : F.op c = true := (look_op h).1
theorem leastO_le {l : List Int} {n : Int} (h : n ∈ l) : ∃ x, leastO l = some x ∧ x ≤ n := by
  cases e : leastO l with
  | none => rw [leastO_none e] at h; cases h
  | some x => exact ⟨x, rfl, (leastO_some e).2 n h⟩
theorem sweep_le {o : Ord} {g : Grid} (s : Sound F ms g) : Le g (F.sweep ms o g) := fun c n h => by
  obtain ⟨k, w⟩ := s c n h
  rw [sweep_eq (wk_op w)]
  refine leastO_le (List.mem_append.mpr (.inl ?_))
  rw [h]
  exact List.mem_singleton.mpr rfl
theorem sweep_fwd {o : Ord} {g : Grid} {c : Cell} {n : Int} {m : Move} (hm : m ∈ ms) (hf : o.fwd m = true) (h : F.sweep ms o g c = some n) (ho : F.op (goal c m) = true) : ∃ x, F.sweep ms o g (goal c m) = some x ∧ x ≤ n + m.2.2 := by
  rw [sweep_eq ho]
  refine leastO_le (List.mem_append.mpr (.inr (List.mem_filterMap.mpr ⟨m, List.mem_filter.mpr ⟨hm, hf⟩, ?_⟩)))
  rw [came_goal, h]
  rfl
theorem sweepS_sound {fw : List Move} {g : Grid} (hf : ∀ m ∈ fw, m ∈ ms) (hg : Sound F ms g) : ∀ {xs : List Cell} {S : Tab}, Sound F ms (look S) → Sound F ms (look (sweepS F.op fw g xs S))
  | [], _, h => h
  | d :: r, S, h => by
    unfold sweepS
    refine sweepS_sound hf hg ?_
    by_cases ho : F.op d = true
    · rw [if_pos ho]
      intro c n e
      rcases look_app_some e with e | ⟨rfl, e⟩
      · exact h c n e
      · have hm := (leastO_some e).1
        rcases List.mem_append.mp hm with z | z
        · cases y : g c with
          | none => rw [y] at z; cases z
          | some k =>
            rw [y] at z
            rw [List.mem_singleton.mp z]
            exact hg c k y
        · obtain ⟨m, hm, e⟩ := List.mem_filterMap.mp z
          cases y : look S (came c m) with
          | none => rw [y] at e; cases e
          | some k =>
            rw [y] at e
            have e : k + m.2.2 = n := Option.some.inj e
            obtain ⟨j, w⟩ := h _ _ y
            have w2 := Wk.step w (hf m hm) (by rw [goal_came]; exact ho)
            rw [goal_came, e] at w2
            exact ⟨_, w2⟩
    · rw [if_neg ho]
      exact h
theorem sweep_sound {o : Ord} {g : Grid} (hg : Sound F ms g) : Sound F ms (F.sweep ms o g) := sweepS_sound (fun m hm => (List.mem_filter.mp hm).1) hg fun c n h => by cases h
theorem sweep_dist (hp : ∀ m ∈ ms, 0 ≤ m.2.2) {o : Ord} : F.sweep ms o (F.dist ms) = F.dist ms := by
  obtain ⟨s, f⟩ := dist_math (F := F) hp
  exact uniq (sweep_sound s) (fun k => (f k).le (sweep_le s)) s f
/-! ### runs of sweeps -/
theorem run_sound {od : Nat → Ord} : ∀ {k : Nat}, Sound F ms (F.run ms od k)
  | 0 => sound_start
  | k + 1 => sweep_sound run_sound
theorem run_le {od : Nat → Ord} {k : Nat} : Le (F.run ms od k) (F.run ms od (k + 1)) := sweep_le run_sound
theorem run_les {od : Nat → Ord} {k : Nat} : ∀ {j : Nat}, Le (F.run ms od k) (F.run ms od (k + j))
  | 0 => Le.refl _
  | j + 1 => (run_les (j := j)).trans run_le
theorem run_cov0 {od : Nat → Ord} {k : Nat} : Cov F ms (F.run ms od k) 0 := by
  have := (cov_start (F := F) (ms := ms)).le (run_les (F := F) (ms := ms) (od := od) (k := 0) (j := k))
  rw [Nat.zero_add] at this
  exact this
theorem run_fix (hp : ∀ m ∈ ms, 0 ≤ m.2.2) {od : Nat → Ord} {k : Nat} (h : F.run ms od k = F.dist ms) : ∀ j, F.run ms od (k + j) = F.dist ms
  | 0 => h
  | j + 1 => by
    show F.sweep ms (od (k + j)) (F.run ms od (k + j)) = _
    rw [run_fix hp h j, sweep_dist hp]
theorem run_full (hp : ∀ m ∈ ms, 0 ≤ m.2.2) {od : Nat → Ord} {k : Nat} (h : Full F ms (F.run ms od k)) : F.run ms od k = F.dist ms := uniq run_sound h (dist_math hp).1 (dist_math hp).2
theorem fwd_or {o : Ord} {m : Move} (h : ¬ (m.1 = 0 ∧ m.2.1 = 0)) : o.fwd m = true ∨ o.opp.fwd m = true := by
  show SrtO.lexB (0, 0) (o.key (m.1, m.2.1)) = true ∨ SrtO.lexB (0, 0) (o.opp.key (m.1, m.2.1)) = true
  rw [SrtO.lexB_iff, SrtO.lexB_iff]
  obtain ⟨p, q, r⟩ := m
  unfold Ord.opp Ord.key Ord.sy Ord.sx
  rcases o with ⟨r, d, x⟩
  cases r <;> cases d <;> cases x <;> simp at h ⊢ <;> omega
/-- alternating sweeps: a walk is covered by one sweep more than it has moves -/
theorem alt_cov (hz : ∀ m ∈ ms, ¬ (m.1 = 0 ∧ m.2.1 = 0)) {a : Ord} : ∀ {j : Nat}, (∀ i, i ≤ j → Cov F ms (F.run ms (altO a) (j + 1)) i) ∧ ∀ c n m, Wk F ms j c n → m ∈ ms → (altO a j).fwd m = true → F.op (goal c m) = true → ∃ x, F.run ms (altO a) (j + 1) (goal c m) = some x ∧ x ≤ n + m.2.2
  | 0 => by
    have h0 := run_cov0 (F := F) (ms := ms) (od := altO a) (k := 1)
    refine ⟨fun i hi => by rw [show i = 0 by omega]; exact h0, fun c n m w hm hf ho => ?_⟩
    obtain ⟨x, e, l⟩ := h0 c n w
    obtain ⟨y, e', l'⟩ := sweep_fwd hm hf e ho
    exact ⟨y, e', by omega⟩
  | j + 1 => by
    obtain ⟨h1, h2⟩ := alt_cov hz (a := a) (j := j)
    have h3 : ∀ i, i ≤ j + 1 → Cov F ms (F.run ms (altO a) (j + 1 + 1)) i := fun i hi => by
      by_cases z : i ≤ j
      · exact (h1 i z).le run_le
      · rw [show i = j + 1 by omega]
        intro c n w
        cases w with
        | @step _ c n m w hm ho =>
          rcases fwd_or (o := altO a j) (hz m hm) with f | f
          · obtain ⟨x, e, l⟩ := h2 c n m w hm f ho
            obtain ⟨y, e', l'⟩ := run_le _ _ e
            exact ⟨y, e', by omega⟩
          · rw [← altO_succ] at f
            obtain ⟨x, e, l⟩ := ((h1 j (Nat.le_refl _)).le run_le) c n w
            obtain ⟨y, e', l'⟩ := sweep_fwd hm f e ho
            exact ⟨y, e', by omega⟩
    refine ⟨h3, fun c n m w hm hf ho => ?_⟩
    obtain ⟨x, e, l⟩ := h3 _ (Nat.le_refl _) c n w
    obtain ⟨y, e', l'⟩ := sweep_fwd hm hf e ho
    exact ⟨y, e', by omega⟩
theorem alt_dist (hz : ∀ m ∈ ms, ¬ (m.1 = 0 ∧ m.2.1 = 0)) (hp : ∀ m ∈ ms, 0 ≤ m.2.2) {a : Ord} : F.run ms (altO a) 196 = F.dist ms :=
  run_full hp (full_of hp fun k hk => (alt_cov hz (a := a) (j := 195)).1 k hk)
/-- a sweep that changes nothing is closed for its moves -/
theorem still_fwd {o : Ord} {g : Grid} (h : F.sweep ms o g = g) {c : Cell} {n : Int} {m : Move} (hm : m ∈ ms) (hf : o.fwd m = true) (e : g c = some n) (ho : F.op (goal c m) = true) : ∃ x, g (goal c m) = some x ∧ x ≤ n + m.2.2 := by
  have := sweep_fwd (g := g) hm hf (by rw [h]; exact e) ho
  rw [h] at this
  exact this
theorem own_fwd {o : Ord} {g g' : Grid} (h : F.sweep ms o g' = g) {c : Cell} {n : Int} {m : Move} (hm : m ∈ ms) (hf : o.fwd m = true) (e : g c = some n) (ho : F.op (goal c m) = true) : ∃ x, g (goal c m) = some x ∧ x ≤ n + m.2.2 := by
  have := sweep_fwd (g := g') hm hf (by rw [h]; exact e) ho
  rw [h] at this
  exact this
/-- from the second sweep on: one that changes nothing has the distances -/
theorem alt_still (hz : ∀ m ∈ ms, ¬ (m.1 = 0 ∧ m.2.1 = 0)) (hp : ∀ m ∈ ms, 0 ≤ m.2.2) {a : Ord} {k : Nat} (h : F.run ms (altO a) (k + 2) = F.run ms (altO a) (k + 1)) : F.run ms (altO a) (k + 1) = F.dist ms := by
  refine run_full hp (full_closed run_cov0 fun c n m hm e ho => ?_)
  rcases fwd_or (o := altO a k) (hz m hm) with f | f
  · exact own_fwd (g' := F.run ms (altO a) k) rfl hm f e ho
  · rw [← altO_succ] at f
    exact still_fwd h hm f e ho
/-! ### grids that are none off the open cells -/
theorem sound_off {g : Grid} (s : Sound F ms g) {c : Cell} (h : F.ins c ≠ true) : g c = none := by
  cases e : g c with
  | none => rfl
  | some n =>
    obtain ⟨k, w⟩ := s c n e
    exact absurd (op_ins (wk_op w)) h
theorem same_eq {g g' : Grid} (s : Sound F ms g) (s' : Sound F ms g') : F.same g g' = true ↔ g = g' := by
  rw [same_iff]
  constructor
  · intro h
    funext c
    by_cases z : F.ins c = true
    · exact h c z
    · rw [sound_off s z, sound_off s' z]
  · intro h c _
    rw [h]
theorem nch_zero {g g' : Grid} (s : Sound F ms g) (s' : Sound F ms g') : F.nch g g' = 0 ↔ g = g' := by
  unfold Fl.nch
  rw [List.length_eq_zero_iff, List.filter_eq_nil_iff]
  constructor
  · intro h
    funext c
    by_cases z : F.ins c = true
    · have := h c (mem_all.mpr z)
      simpa using this
    · rw [sound_off s z, sound_off s' z]
  · intro h c _
    rw [h]
    simp
/-- the least count with a property -/
theorem least_nat {p : Nat → Prop} [DecidablePred p] : ∀ {n : Nat}, p n → ∃ k, k ≤ n ∧ p k ∧ ∀ j, j < k → ¬ p j
  | 0, h => ⟨0, Nat.le_refl _, h, fun j hj => absurd hj (Nat.not_lt_zero _)⟩
  | n + 1, h => by
    by_cases z : ∃ j, j ≤ n ∧ p j
    · obtain ⟨j, hj, pj⟩ := z
      clear h
      induction n generalizing j with
      | zero => 
        have : j = 0 := by omega
        subst this
        exact ⟨0, by omega, pj, fun j hj => absurd hj (Nat.not_lt_zero _)⟩
      | succ n ih =>
        by_cases y : ∃ i, i ≤ n ∧ p i
        · obtain ⟨i, hi, pi⟩ := y
          obtain ⟨k, hk, r⟩ := ih i hi pi
          exact ⟨k, by omega, r⟩
        · refine ⟨j, by omega, pj, fun i hi pi => y ⟨i, by omega, pi⟩⟩
    · exact ⟨n + 1, Nat.le_refl _, h, fun j hj pj => z ⟨j, by omega, pj⟩⟩
/-- the least count of alternating sweeps that tells the distances, and what settle tells -/
theorem settle_math (hz : ∀ m ∈ ms, ¬ (m.1 = 0 ∧ m.2.1 = 0)) (hp : ∀ m ∈ ms, 0 ≤ m.2.2) (a : Ord) : ∃ K, K ≤ 196 ∧ F.run ms (altO a) K = F.dist ms ∧ (∀ k, k < K → F.run ms (altO a) k ≠ F.dist ms) ∧
    (∀ j, K ≤ j → F.run ms (altO a) j = F.dist ms) ∧ ∀ k, 2 ≤ k → k ≤ K → F.nch (F.run ms (altO a) (k - 1)) (F.run ms (altO a) k) ≠ 0 := by
  classical
  obtain ⟨K, h1, h2, h3⟩ := least_nat (p := fun k => F.run ms (altO a) k = F.dist ms) (n := 196) (alt_dist hz hp)
  refine ⟨K, h1, h2, h3, fun j hj => ?_, fun k k2 kK e => ?_⟩
  · have := run_fix hp h2 (j - K)
    rw [show K + (j - K) = j by omega] at this
    exact this
  · have e := (nch_zero (ms := ms) run_sound run_sound).mp e
    have := alt_still hz hp (F := F) (ms := ms) (a := a) (k := k - 2) (by
      rw [show k - 2 + 2 = k by omega, show k - 2 + 1 = k - 1 by omega]
      exact e.symm)
    exact h3 (k - 1) (by omega) (by rw [show k - 1 = k - 2 + 1 by omega]; exact this)
/-! ### words -/
theorem word_pass {os : List Ord} (ho : os ≠ []) (hf : ∀ m ∈ ms, ∃ a ∈ os, a.fwd m = true) : ∀ {j : Nat}, ∀ i, i ≤ j → Cov F ms (F.run ms (wordO os) (j * os.length)) i
  | 0, i, hi => by
    rw [show i = 0 by omega]
    exact run_cov0
  | j + 1, i, hi => by
    have e : (j + 1) * os.length = j * os.length + os.length := Nat.succ_mul _ _
    rw [e]
    by_cases z : i ≤ j
    · exact (word_pass ho hf (j := j) i z).le run_les
    · rw [show i = j + 1 by omega]
      intro c n w
      cases w with
      | @step _ c n m w hm h =>
        obtain ⟨a, ha, fa⟩ := hf m hm
        obtain ⟨p, hp, ea⟩ := List.getElem_of_mem ha
        have ew : wordO os (j * os.length + p) = a := by
          unfold wordO
          rw [Nat.mul_comm, Nat.mul_add_mod, Nat.mod_eq_of_lt hp, List.getD_eq_getElem?_getD, List.getElem?_eq_getElem hp, ea]
          rfl
        obtain ⟨x, ex, lx⟩ := ((word_pass ho hf (j := j) j (Nat.le_refl _)).le (run_les (j := p + 1))) c n w
        have fs : F.run ms (wordO os) (j * os.length + (p + 1)) = F.sweep ms a (F.run ms (wordO os) (j * os.length + p)) := by
          rw [← ew]
          rfl
        rw [fs] at ex
        obtain ⟨y, ey, ly⟩ := sweep_fwd hm fa ex h
        rw [← fs] at ey
        obtain ⟨u, eu, lu⟩ := run_les (F := F) (ms := ms) (od := wordO os) (k := j * os.length + (p + 1)) (j := os.length - (p + 1)) _ _ ey
        rw [show j * os.length + (p + 1) + (os.length - (p + 1)) = j * os.length + os.length by omega] at eu
        exact ⟨u, eu, by omega⟩
theorem idle_le {r : Nat → Grid} : ∀ {k : Nat}, F.idle r k ≤ k
  | 0 => Nat.le_refl _
  | k + 1 => by
    unfold Fl.idle
    have := idle_le (r := r) (k := k)
    split <;> omega
theorem idle_same {od : Nat → Ord} : ∀ {k : Nat}, ∀ i, k - F.idle (F.run ms od) k ≤ i → i ≤ k → F.run ms od i = F.run ms od k
  | 0, i, _, h => by rw [show i = 0 by omega]
  | k + 1, i, h1, h2 => by
    by_cases z : i = k + 1
    · rw [z]
    · unfold Fl.idle at h1
      by_cases y : F.same (F.run ms od (k + 1)) (F.run ms od k) = true
      · rw [if_pos y] at h1
        rw [(same_eq (ms := ms) run_sound run_sound).mp y]
        exact idle_same i (by omega) (by omega)
      · rw [if_neg y] at h1
        omega
theorem idle_dist (hp : ∀ m ∈ ms, 0 ≤ m.2.2) {od : Nat → Ord} {k : Nat} (h : F.run ms od k = F.dist ms) : ∀ j, j ≤ F.idle (F.run ms od) (k + j)
  | 0 => Nat.zero_le _
  | j + 1 => by
    show j + 1 ≤ (if F.same (F.run ms od (k + j + 1)) (F.run ms od (k + j)) = true then F.idle (F.run ms od) (k + j) + 1 else 0)
    rw [if_pos ((same_eq (ms := ms) run_sound run_sound).mpr (by rw [run_fix hp h j]; exact run_fix hp h (j + 1)))]
    have := idle_dist hp h j
    omega
theorem word_math (hp : ∀ m ∈ ms, 0 ≤ m.2.2) {os : List Ord} (ho : os ≠ []) (hl : os.length ≤ 36) (hf : ∀ m ∈ ms, ∃ a ∈ os, a.fwd m = true) :
    ∃ n, n ≤ 8000 ∧ F.idle (F.run ms (wordO os)) n = os.length ∧ (∀ k, k < n → F.idle (F.run ms (wordO os)) k < os.length) ∧ F.run ms (wordO os) n = F.dist ms := by
  have hD : F.run ms (wordO os) (195 * os.length) = F.dist ms := run_full hp (full_of hp fun k hk => word_pass ho hf (j := 195) k hk)
  have hpos : 0 < os.length := List.length_pos_iff.mpr ho
  obtain ⟨n, h1, h2, h3⟩ := least_nat (p := fun k => os.length ≤ F.idle (F.run ms (wordO os)) k) (n := 195 * os.length + os.length) (idle_dist hp hD os.length)
  have h4 : F.idle (F.run ms (wordO os)) n = os.length := by
    cases n with
    | zero =>
      have z : os.length ≤ F.idle (F.run ms (wordO os)) 0 := h2
      have y : F.idle (F.run ms (wordO os)) 0 = 0 := rfl
      omega
    | succ n =>
      have a := h3 n (Nat.lt_succ_self _)
      have b : F.idle (F.run ms (wordO os)) (n + 1) ≤ F.idle (F.run ms (wordO os)) n + 1 := by
        rw [Fl.idle]
        split <;> omega
      omega
  refine ⟨n, by omega, h4, fun k hk => Nat.lt_of_not_le (h3 k hk), ?_⟩
  refine run_full hp (full_closed run_cov0 fun c x m hm e h => ?_)
  obtain ⟨a, ha, fa⟩ := hf m hm
  obtain ⟨p, hpl, ea⟩ := List.getElem_of_mem ha
  have hn := idle_le (F := F) (r := F.run ms (wordO os)) (k := n)
  -- the sweep among the last ones that has this order
  have : ∃ i, n - os.length ≤ i ∧ i < n ∧ i % os.length = p := by
    have q := Nat.div_add_mod (n - os.length) os.length
    have ml := Nat.mod_lt (n - os.length) hpos
    by_cases z : (n - os.length) % os.length ≤ p
    · refine ⟨os.length * ((n - os.length) / os.length) + p, by omega, by omega, ?_⟩
      rw [Nat.mul_add_mod, Nat.mod_eq_of_lt hpl]
    · refine ⟨os.length * ((n - os.length) / os.length + 1) + p, ?_, ?_, ?_⟩
      · rw [Nat.mul_add]; omega
      · rw [Nat.mul_add]; omega
      · rw [Nat.mul_add_mod, Nat.mod_eq_of_lt hpl]
  obtain ⟨i, i1, i2, i3⟩ := this
  have ew : wordO os i = a := by
    unfold wordO
    rw [i3, List.getD_eq_getElem?_getD, List.getElem?_eq_getElem hpl, ea]
    rfl
  have s1 := idle_same (F := F) (ms := ms) (od := wordO os) (k := n) i (by omega) (by omega)
  have s2 := idle_same (F := F) (ms := ms) (od := wordO os) (k := n) (i + 1) (by omega) (by omega)
  have st : F.sweep ms a (F.run ms (wordO os) n) = F.run ms (wordO os) n := by
    have : F.run ms (wordO os) (i + 1) = F.sweep ms a (F.run ms (wordO os) i) := by rw [← ew]; rfl
    rw [s1, s2] at this
    exact this.symm
  exact still_fwd st hm fa e h
end
end TW

set_option Elab.async false
set_option linter.all false
set_option maxRecDepth 100000
set_option maxHeartbeats 4000000
namespace TW
open PySem PySem.Spec PyProof.Rows L2
/-! ### promises: settle and settle_by asked -/
def metL : List (Str × List Str) := [("BadOrder", ["order"]), ("Empty", ["what"]), ("TooMany", ["what", "limit"]), ("NotYes", ["what"])]
inductive RefT : Str → List (Str × T) → T → Prop
  | bo (t : T) : RefT "BadOrder" [("order", t)] (.tup [.str "BadOrder", t])
  | em (t : T) : RefT "Empty" [("what", t)] (.tup [.str "Empty", t])
  | tm (l t : T) : RefT "TooMany" [("limit", l), ("what", t)] (.tup [.str "TooMany", t, l])
  | ny (t : T) : RefT "NotYes" [("what", t)] (.tup [.str "NotYes", t])
def R_law_asked (CF : Addr) : List D → O → Prop := fun ds o => ∃ (s : Str) (d1 d2 d3 : D) (o' : O), ds = [.im (.str s), d1, d2, d3] ∧ ((s = "settle" ∧ R_settle CF [d1, d2, d3] o') ∨ (s = "by" ∧ R_settle_by CF [d1, d2, d3] o')) ∧
  ((∃ t, o' = .ok (.im t) ∧ o = .ok (.im (.tup [.str "told", t]))) ∨ ∃ x fs t, o' = .ex x fs ∧ RefT x fs t ∧ o = .ok (.im (.tup [.str "refused", t])))
abbrev sp_law_asked (K : PySem.W.Frag) (mg : Str → Option Value) (CF : Addr) : Sp := spO K mg (R_law_asked CF)
def R_law_settle_holds (CF : Addr) : List D → O → Prop := fun ds o => ∃ (F : Fl) (m : List Move) (a : Ord), ds = [.im (.tup F.rows), .im (maskT m), .im (.str a.str), .im (F.gridT (F.dist m))] ∧ GoodMask m ∧ o = .ok (.im (.bl true))
abbrev sp_law_settle_holds (K : PySem.W.Frag) (mg : Str → Option Value) (CF : Addr) : Sp := spO K mg (R_law_settle_holds CF)
def sp_law_settle_by_holds (K : PySem.W.Frag) (mg : Str → Option Value) (CF : Addr) : Sp := fun vs H Q _ => ∃ (a b p : Addr) (v1 v2 v4 : V) (F : Fl) (m : List Move) (ws : List Str), vs = [.ref a, v1, v2, .ref p, v4] ∧ StoreOk H a b ∧ Is K H v1 (.im (.tup F.rows)) ∧ Is K H v2 (.im (maskT m)) ∧ H p = some (.lst (ws.map V.str)) ∧ Is K H v4 (.im (F.gridT (F.dist m))) ∧ GoodMask m ∧ ws.length ≤ 1000 ∧ (∀ x ∈ ws, PyData.strOk x = true) ∧
  ∀ H', Sm a H H' → StoreOk H' a b → Q (.bl true) H'
def sp_law (K : PySem.W.Frag) (mg : Str → Option Value) (CF : Addr) : Sp := fun vs H Q _ => ∃ (p : Addr) (ns : List Int), vs = [.ref p] ∧ SqL K H p (ns.map V.int) ∧ ∀ H', Same H H' → Q (.bl true) H'
section
variable {K : PySem.W.Frag} {mg : Str → Option Value} {σ : L2.St} {H : Hp} {ta tb : TE} {ts us : List T}
theorem n_catV {i : Nat} {p : Addr} {vs : List V} (hσ : σ[i]? = some (some (.ref p))) (hp : H p = some (.lst vs)) (hi : Ims K H vs ts) (hb : EvN K tb σ H us) (hl : ts.length + us.length ≤ 1000) : EvN K (tOp rCat (tVar i) tb) σ H (ts ++ us) := fun H1 s Q q =>
  ⟨_, hσ, hb H1 s _ fun p2 ws H3 hp2 s3 e3 im3 => by
    have e2 := s3 _ _ (s _ _ hp)
    have im2 := L2.Same.ims (s.trans s3) hi
    refine ⟨p, p2, vs, ws, rfl, rfl, e2, e3, ?_, fun r hr => ?_⟩
    · rw [im2.length, im3.length]
      exact Nat.le_of_lt (small1000 hl)
    · exact q r _ _ (s3.free hr) (s3.trans (same_new hr)) upd_same ((im2.append im3).mono (keep_new hr))⟩
theorem e_count {i : Nat} {p : Addr} {bs : List Bool} {k : Bool} (hσ : σ[i]? = some (some (.ref p))) (hp : H p = some (.lst (bs.map V.bl))) : Ev K (tBM K "list" (rCntB K) (tVar i) (tCons (tC (.bl k)) tNil)) σ H (.im (.int (bs.count k : Nat))) := fun H1 s Q q =>
  ⟨_, hσ, .inl ⟨rfl, _, .inl (.inl (s _ _ hp))⟩, ⟨p, bs, k, rfl, rfl, .inl (.inl (s _ _ hp)), q _ _ (Same.refl _) (Im.int _)⟩⟩
theorem Iss.append : ∀ {vs zs : List V} {ds es : List D}, Iss K H vs ds → Iss K H zs es → Iss K H (vs ++ zs) (ds ++ es)
  | _, _, _, _, .nil, g => g
  | _, _, _, _, .cons h r, g => .cons h (r.append g)
theorem RefT.cases {x : Str} {fs : List (Str × T)} {t : T} (h : RefT x fs t) : (x = "BadOrder" ∧ ∃ u, fs = [(("order" : Str), u)] ∧ t = .tup [.str "BadOrder", u]) ∨ (x = "Empty" ∧ ∃ u, fs = [(("what" : Str), u)] ∧ t = .tup [.str "Empty", u]) ∨
    (x = "TooMany" ∧ ∃ l u, fs = [(("limit" : Str), l), (("what" : Str), u)] ∧ t = .tup [.str "TooMany", u, l]) ∨ (x = "NotYes" ∧ ∃ u, fs = [(("what" : Str), u)] ∧ t = .tup [.str "NotYes", u]) := by
  cases h with
  | bo t => exact .inl ⟨rfl, _, rfl, rfl⟩
  | em t => exact .inr (.inl ⟨rfl, _, rfl, rfl⟩)
  | tm l t => exact .inr (.inr (.inl ⟨rfl, _, _, rfl, rfl⟩))
  | ny t => exact .inr (.inr (.inr ⟨rfl, _, rfl, rfl⟩))
theorem RefT.met {x : Str} {fs : List (Str × T)} {t : T} (h : RefT x fs t) : ∃ fl, (x, fl) ∈ metL := by
  cases h with
  | bo t => exact ⟨["order"], by simp [metL]⟩
  | em t => exact ⟨["what"], by simp [metL]⟩
  | tm l t => exact ⟨["what", "limit"], by simp [metL]⟩
  | ny t => exact ⟨["what"], by simp [metL]⟩
theorem one_kind : ∀ x ∈ metL.map (·.1), (excN.map fun y => decide (x = y)).count true = 1 := by decide +kernel
theorem s_retTup2 {σ : L2.St} {H : Hp} {te : TE} {c : V} {De : Ends} (h : te σ H fun x H1 => ([c, x] : List V).length ≤ sizeLine ∧ ∀ p, H1 p = none → De.rt (.ref p) (upd H1 p (.tup [c, x]))) : tRet (tTup (tCons (tC c) (tCons te tNil))) De σ H := h
theorem callKS_of {n m : Nat} {sp : Sp} {E : L2.St → XK} {t tk : TA} {σ : L2.St} {H : Hp} {Q : VK} (h : t σ H fun vs H1 => tk σ H1 fun zs H2 => vs.length = n ∧ zs.length = m ∧ sp (vs ++ zs) H2 Q (E σ)) : tCallKS n m sp E t tk σ H Q := h
theorem callS_of {sp : Sp} {E : L2.St → XK} {t : TA} {σ : L2.St} {H : Hp} {Q : VK} (h : t σ H fun vs H1 => sp vs H1 Q (E σ)) : tCallS sp E t σ H Q := h
/-- the body: told, or the error handed to W -/
theorem ask_body {CF : Addr} {v1 v2 v3 : V} {d1 d2 d3 : D} {o' : O} {s0 : Str} {W : WX} {nx bk ct : L2.St → Hp → Prop} {rt : VK} (h1 : Is K H v1 d1) (h2 : Is K H v2 d2) (h3 : Is K H v3 d3)
    (hs : (s0 = "settle" ∧ R_settle CF [d1, d2, d3] o') ∨ (s0 = "by" ∧ R_settle_by CF [d1, d2, d3] o'))
    (ho : (∃ t, o' = .ok (.im t) ∧ ∀ v H', Same H H' → Is K H' v (.im (.tup [.str "told", t])) → rt v H') ∨
      ∃ x fs, o' = .ex x fs ∧ ∀ C dd vs H', mg x = some (.ref C) → Same H H' → H dd = none → H' dd = some (.xd ((fs.map (·.1)).zip vs)) → Ims K H' vs (fs.map (·.2)) → W (.ref C) (some dd) [some (.str s0), some v1, some v2, some v3, none, none] H') :
    tSeq (tIfS (tTest (tOp (rEqD K) (tVar 0) (tC (.str "settle")))) (tRet (tTup (tCons (tC (.str "told")) (tCons (tCallKS 2 1 (sp_settle K mg CF) (WE W) (tCons (tVar 1) (tCons (tVar 2) tNil)) (tCons (tVar 3) tNil)) tNil)))) tNext)
      (tRet (tTup (tCons (tC (.str "told")) (tCons (tCallS (sp_settle_by K mg CF) (WE W) (tCons (tVar 1) (tCons (tVar 2) (tCons (tVar 3) tNil)))) tNil)))) ⟨nx, rt, bk, ct⟩ [some (.str s0), some v1, some v2, some v3, none, none] H := by
  with_reducible apply s_seq
  rcases hs with ⟨rfl, hs⟩ | ⟨rfl, hs⟩
  · refine s_if K (b := true) (t_of (ev_eq (e_eq (e_vstr rfl) e_str (by decide +kernel) (by decide +kernel)) (by rw [(T.beq_iff (t := .str "settle") (u := .str "settle") (by rfl) (by rfl)).mpr rfl]))) (fun _ H1 s1 => ?_) (fun z => by cases z)
    rcases ho with ⟨t, rfl, q⟩ | ⟨x, fs, rfl, q⟩
    · exact s_ret K (e_tup (ts := [.str "told", t]) (a_cons e_str (a_cons (e_callK (d := .im t) (a_cons (e_var rfl (s1.is h1)) (a_cons (e_var rfl (s1.is h2)) a_nil)) (a_cons (e_var rfl (s1.is h3)) a_nil) rfl rfl hs) a_nil)) (by rfl) (Nat.le_of_ble_eq_true rfl)) fun v H' s' hv => q v H' (s1.trans s') hv
    · refine s_retTup2 (callKS_of ?_)
      refine (show EvA K (tCons (tVar 1) (tCons (tVar 2) tNil)) [some (.str "settle"), some v1, some v2, some v3, none, none] H1 [d1, d2] from a_cons (e_var rfl (s1.is h1)) (a_cons (e_var rfl (s1.is h2)) a_nil)) H1 (Same.refl _) _ fun vs H2 s2 hv => ?_
      refine (show EvA K (tCons (tVar 3) tNil) [some (.str "settle"), some v1, some v2, some v3, none, none] H2 [d3] from a_cons (e_var rfl (s2.is (s1.is h3))) a_nil) H2 (Same.refl _) _ fun zs H3 s3 hz => ?_
      exact ⟨hv.length, hz.length, _, _, Iss.append (s3.iss hv) hz, hs, fun C dd ws H' hm s hd hx hi => q C dd ws H' hm (s1.trans (s2.trans (s3.trans s))) ((s1.trans (s2.trans s3)).free hd) hx hi⟩
  · refine s_if K (b := false) (t_of (ev_eq (e_eq (e_vstr rfl) e_str (by decide +kernel) (by decide +kernel)) (by
      have : T.beq (.str "by") (.str "settle") = false := by decide
      rw [this]))) (fun z => by cases z) (fun _ H1 s1 => s_next ?_)
    rcases ho with ⟨t, rfl, q⟩ | ⟨x, fs, rfl, q⟩
    · exact s_ret K (e_tup (ts := [.str "told", t]) (a_cons e_str (a_cons (e_call (d := .im t) (a_cons (e_var rfl (s1.is h1)) (a_cons (e_var rfl (s1.is h2)) (a_cons (e_var rfl (s1.is h3)) a_nil))) hs) a_nil)) (by rfl) (Nat.le_of_ble_eq_true rfl)) fun v H' s' hv => q v H' (s1.trans s') hv
    · refine s_retTup2 (callS_of ?_)
      refine (show EvA K (tCons (tVar 1) (tCons (tVar 2) (tCons (tVar 3) tNil))) [some (.str "by"), some v1, some v2, some v3, none, none] H1 [d1, d2, d3] from a_cons (e_var rfl (s1.is h1)) (a_cons (e_var rfl (s1.is h2)) (a_cons (e_var rfl (s1.is h3)) a_nil))) H1 (Same.refl _) _ fun vs H2 s2 hv => ?_
      exact ⟨_, _, hv, hs, fun C dd ws H' hm s hd hx hi => q C dd ws H' hm (s1.trans (s2.trans s)) ((s1.trans s2).free hd) hx hi⟩
end
end TW

set_option Elab.async false
set_option linter.all false
set_option maxRecDepth 100000
set_option maxHeartbeats 0
namespace TW
open PySem PySem.Spec PyProof.Rows L2
def fnL : List He.DefD := mkD PySem.Challenge.pw_twosweeps_k81_settle.main.body
def faL : List He.Fa := ([.glo "_wall", .glo "Refused", .glo "BadText", .glo "Malformed", .glo "BadOrder", .glo "Unknown", .glo "Empty", .glo "BadSize", .glo "BadCell", .glo "BadMove", .glo "BadPrice", .glo "Doubled", .glo "BadWalk", .glo "Free", .glo "TooMany", .glo "NotFan", .glo "NotYes", .glo "Stuck", .glo "moves_of", .int "MOST_SIDE" 14, .str "WALL_floors" "#", .glo "check_size", .glo "check_rows", .glo "inside", .glo "Floor", .glo "ORDERS", .glo "OTHER_LETTERS", .glo "check_order", .glo "is_by_rows", .glo "signs_of"] : List He.Fa) ++ ([.glo "order_key", .glo "is_forward", .glo "opposite", .glo "forward_part", .glo "indexes_by", .glo "cells_in", .str "WALL_sweeps" "#", .glo "start_grid", .glo "least_item", .glo "settled_by", .glo "sweep_once", .glo "changed_cells", .int "MOST_WORD" 36, .glo "need_order", .glo "need_word", .glo "settle", .glo "settle_by", .glo "_law_store", .glo "_law_mix", .glo "_law_mixed", .glo "_law_take", .glo "_law_hit", .glo "_law_pick", .glo "_law_span", .glo "_law_some", .glo "_law_sequence", .glo "_law_is_integer", .glo "_law_same", .glo "_law_price", .glo "_law_orders"] : List He.Fa) ++ ([.glo "_law_order", .glo "_law_bad_order", .glo "_law_key", .glo "_law_is_ahead", .glo "_law_counter", .glo "_law_word", .glo "_law_moves", .glo "_law_free_mask", .glo "_law_eights", .glo "_law_part", .glo "_law_is_open", .glo "_law_cells_where", .glo "_law_start_grid", .glo "_law_arrows", .glo "_law_grown", .glo "_law_distances", .glo "_law_ordered_cells", .glo "_law_sweep", .glo "_law_asked", .glo "_law_holds", .glo "_law_changed", .glo "_law_settle_holds", .glo "_law_word_due", .glo "_law_settle_by_holds", .glo "_law_drawn_word", .glo "_law_drawn_floor", .glo "_law_drawn_mask", .glo "law", .free "len", .free "any"] : List He.Fa) ++ ([.free "tuple", .free "list", .free "int", .free "abs", .free "range", .free "isinstance", .free "min", .free "max", .free "sorted", .free "enumerate", .free "bool", .free "str", .free "ValueError", .cls "Floor", .noat "Floor" "rows", .noat "Floor" "h", .noat "Floor" "w", .noat "Floor" "cells", .mkr "Floor"] : List He.Fa)
def nmL : List PySem.Str := (["_wall", "Refused", "BadText", "Malformed", "BadOrder", "Unknown", "Empty", "BadSize", "BadCell", "BadMove", "BadPrice", "Doubled", "BadWalk", "Free", "TooMany", "NotFan", "NotYes", "Stuck", "moves_of", "MOST_SIDE", "WALL_floors", "check_size", "check_rows", "inside", "Floor", "ORDERS", "OTHER_LETTERS", "check_order", "is_by_rows", "signs_of"] : List PySem.Str) ++ (["order_key", "is_forward", "opposite", "forward_part", "indexes_by", "cells_in", "WALL_sweeps", "start_grid", "least_item", "settled_by", "sweep_once", "changed_cells", "MOST_WORD", "need_order", "need_word", "settle", "settle_by", "_law_store", "_law_mix", "_law_mixed", "_law_take", "_law_hit", "_law_pick", "_law_span", "_law_some", "_law_sequence", "_law_is_integer", "_law_same", "_law_price", "_law_orders"] : List PySem.Str) ++ (["_law_order", "_law_bad_order", "_law_key", "_law_is_ahead", "_law_counter", "_law_word", "_law_moves", "_law_free_mask", "_law_eights", "_law_part", "_law_is_open", "_law_cells_where", "_law_start_grid", "_law_arrows", "_law_grown", "_law_distances", "_law_ordered_cells", "_law_sweep", "_law_asked", "_law_holds", "_law_changed", "_law_settle_holds", "_law_word_due", "_law_settle_by_holds", "_law_drawn_word", "_law_drawn_floor", "_law_drawn_mask"] : List PySem.Str)
abbrev rowL_ : PySem.W.OpenRow := PySem.W.OpenLaw.row PySem.Challenge.rw_twosweeps_k81_settle
end TW

set_option Elab.async false
set_option linter.all false
set_option maxRecDepth 100000
set_option maxHeartbeats 0
namespace TW
open PySem PySem.Spec PyProof.Rows L2
theorem runF (w : World) : HandSHeadRun.RunEq rowL_ (PySem.W.view rowL_.prog [94]) (hk faL fnL metL) (hkT faL fnL metL) 20000 nmL (w.withFollow "special-get-raises" false) := by
  intro os
  kernel_rfl
end TW

set_option Elab.async false
set_option linter.all false
set_option maxRecDepth 100000
set_option maxHeartbeats 0
namespace TW
open PySem PySem.Spec PyProof.Rows L2
theorem runT (w : World) : HandSHeadRun.RunEq rowL_ (PySem.W.view rowL_.prog [94]) (hk faL fnL metL) (hkT faL fnL metL) 20000 nmL (w.withFollow "special-get-raises" true) := by
  intro os
  kernel_rfl
end TW

set_option Elab.async false
set_option linter.all false
set_option maxRecDepth 100000
set_option maxHeartbeats 4000000
namespace TW
open PySem PySem.Spec PyProof.Rows L2
local macro_rules | `(tactic| walk_at "ev") => `(tactic| repeat' (first
  | with_reducible exact e_int | with_reducible exact e_str | with_reducible exact e_bl | with_reducible exact e_non
  | exact e_vint rfl | exact e_vstr rfl | exact e_vbl rfl | exact e_vnon rfl | exact e_var rfl (by assumption)
  | exact e_sqv rfl (by assumption) | exact e_dkI rfl (by assumption) rfl
  | with_reducible apply e_call | with_reducible apply e_intc | with_reducible apply e_abs
  | with_reducible apply e_intop | with_reducible apply e_cmp | with_reducible apply e_intopC
  | with_reducible apply e_len | with_reducible apply e_pow | with_reducible apply e_min2 | with_reducible apply e_max2
  | with_reducible exact a_nil | with_reducible apply a_cons
  | with_reducible apply t_ofB | with_reducible apply t_of
  | (with_reducible apply mulR; omega) | (with_reducible apply mulL; omega) | (with_reducible show (_ < _); omega)))
section
variable {P : Program} {w : World} {K : PySem.W.Frag} {mg : Str → Option Value} {base : Heap} {CF : Addr}
theorem sc_law_mix : FnScope ["number", "turn", "first", "second"] ["number", "turn"] (defScope (top 55)) := ⟨rfl, rfl, rfl, by decide +kernel, rfl, by decide +kernel, by decide +kernel⟩
theorem ok_law_mix {f : Addr} {fd : FuncData} (F : FunD K "_law_mix" "_law_mix" (defArgs (top 55)) (defBody (top 55)) (defScope (top 55)) [] [] f fd) (tx : Tx w K mg CF) : FnOk P w K mg base (L2.CX P w) 1 f fd ["number", "turn"] (sp_law_mix K mg CF) := by
  refine F.ok sc_law_mix (fun vs H Q E h => ?_) (fun cdv A outer s H vs Q E hr h => ?_)
  · first | (obtain ⟨_, rfl, _⟩ := h; rfl) | (obtain ⟨_, _, rfl, _⟩ := h; rfl) | (obtain ⟨_, _, _, rfl, _⟩ := h; rfl) | (obtain ⟨_, _, _, _, rfl, _⟩ := h; rfl) | (obtain ⟨_, _, _, _, _, rfl, _⟩ := h; rfl) | (obtain ⟨_, _, _, _, _, _, rfl, _⟩ := h; rfl) | (obtain ⟨_, _, _, _, _, _, _, rfl, _⟩ := h; rfl) | (obtain ⟨_, _, _, _, _, _, _, _, rfl, _⟩ := h; rfl) | exact spInit_len h rfl | exact spO_len h (by intro ds o hh; first | (obtain ⟨_, rfl, _⟩ := hh; rfl) | (obtain ⟨_, _, rfl, _⟩ := hh; rfl) | (obtain ⟨_, _, _, rfl, _⟩ := hh; rfl) | (obtain ⟨_, _, _, _, rfl, _⟩ := hh; rfl) | (obtain ⟨_, _, _, _, _, rfl, _⟩ := hh; rfl) | (obtain ⟨_, _, _, _, _, _, rfl, _⟩ := hh; rfl))
  refine ⟨_, (pss_cons (ps_asg (pe_op op_mod (pe_intc tx.bt (pe_op op_add (pe_op op_add (pe_op op_mul (pe_op op_mod (pe_intc tx.bt (pv 0)) pe_int) pe_int) (pe_op op_mul (pe_intc tx.bt (pv 1)) pe_int)) pe_int)) pe_int) (pg_name (i := 2) sc_law_mix.nd rfl (by first | exact Or.inl rfl | exact Or.inr rfl)))
    (pss_cons (ps_asg (pe_op op_mod (pe_intc tx.bt (pe_op op_add (pe_op op_add (pe_op op_add (pe_op op_mul (pv 2) (pv 2)) (pe_op op_mul (pv 2) pe_int)) (pe_op op_mul (pe_intc tx.bt (pv 1)) pe_int)) pe_int)) pe_int) (pg_name (i := 3) sc_law_mix.nd rfl (by first | exact Or.inl rfl | exact Or.inr rfl)))
    (pss_one (ps_ret (pe_op op_mod (pe_intc tx.bt (pe_op op_add (pe_op op_add (pe_op op_mul (pv 3) pe_int) (pe_op op_fdivW (pv 3) pe_int)) pe_int)) pe_int))))), ?_⟩
  try dsimp only [cxOf]
  obtain ⟨ds, o, hi, ⟨n, t, rfl, rfl⟩, q⟩ := h
  obtain ⟨v1, v2, rfl, h1, h2⟩ := hi.two_inv
  rw [h1.iv, h2.iv]
  with_reducible apply s_seq
  with_reducible apply s_setI K
  · walk_at "ev"
  intro H1 s1
  with_reducible apply s_seq
  with_reducible apply s_setI K
  · walk_at "ev"
  intro H2 s2
  with_reducible apply s_ret K
  · walk_at "ev"
    exact wide_div (b := 20) (by decide) (by decide) (by decide) (by decide)
  intro v H3 s3 hv
  exact q _ _ ((s1.trans s2).trans s3) hv
theorem sc_law_mixed : FnScope ["number", "turn", "many", "total", "bound", "k"] ["number", "turn", "many"] (defScope (top 56)) := ⟨rfl, rfl, rfl, by decide +kernel, rfl, by decide +kernel, by decide +kernel⟩
theorem ok_law_mixed {f : Addr} {fd : FuncData} (F : FunD K "_law_mixed" "_law_mixed" (defArgs (top 56)) (defBody (top 56)) (defScope (top 56)) [] [] f fd) (tx : Tx w K mg CF) (G_law_mix : Gf P w K mg base "_law_mix" 1 (sp_law_mix K mg CF)) : FnOk P w K mg base (L2.CX P w) 2 f fd ["number", "turn", "many"] (sp_law_mixed K mg CF) := by
  refine F.ok sc_law_mixed (fun vs H Q E h => ?_) (fun cdv A outer s H vs Q E hr h => ?_)
  · first | (obtain ⟨_, rfl, _⟩ := h; rfl) | (obtain ⟨_, _, rfl, _⟩ := h; rfl) | (obtain ⟨_, _, _, rfl, _⟩ := h; rfl) | (obtain ⟨_, _, _, _, rfl, _⟩ := h; rfl) | (obtain ⟨_, _, _, _, _, rfl, _⟩ := h; rfl) | (obtain ⟨_, _, _, _, _, _, rfl, _⟩ := h; rfl) | (obtain ⟨_, _, _, _, _, _, _, rfl, _⟩ := h; rfl) | (obtain ⟨_, _, _, _, _, _, _, _, rfl, _⟩ := h; rfl) | exact spInit_len h rfl | exact spO_len h (by intro ds o hh; first | (obtain ⟨_, rfl, _⟩ := hh; rfl) | (obtain ⟨_, _, rfl, _⟩ := hh; rfl) | (obtain ⟨_, _, _, rfl, _⟩ := hh; rfl) | (obtain ⟨_, _, _, _, rfl, _⟩ := hh; rfl) | (obtain ⟨_, _, _, _, _, rfl, _⟩ := hh; rfl) | (obtain ⟨_, _, _, _, _, _, rfl, _⟩ := hh; rfl))
  refine ⟨_, (pss_cons (ps_asg pe_int (pg_name (i := 3) sc_law_mixed.nd rfl (by first | exact Or.inl rfl | exact Or.inr rfl)))
    (pss_cons (ps_asg pe_int (pg_name (i := 4) sc_law_mixed.nd rfl (by first | exact Or.inl rfl | exact Or.inr rfl)))
    (pss_cons (ps_for (passes_of rfl) rfl (pi_range1 rfl tx.bt.range (pa_cons pe_int pa_nil)) (pg_name (i := 5) sc_law_mixed.nd rfl (by first | exact Or.inl rfl | exact Or.inr rfl))
    (pss_cons (ps_if (pt_cmpR op_ge (pv 4) (pv 2) (nomark _))
    (pss_one ps_break)
    pss_nil)
    (pss_cons (ps_asg (pe_op op_add (pe_op op_mul (pv 3) pe_int) (pe_op op_mod (pe_intc tx.bt (pe_g G_law_mix (hr.mono (by decide)) (takes_of rfl rfl rfl rfl) (pa_cons (pv 0) (pa_cons (pe_op op_add (pe_op op_mul (pv 1) pe_int) (pv 5)) pa_nil)))) pe_int)) (pg_name (i := 3) sc_law_mixed.nd rfl (by first | exact Or.inl rfl | exact Or.inr rfl)))
    (pss_one (ps_asg (pe_op op_mul (pv 4) pe_int) (pg_name (i := 4) sc_law_mixed.nd rfl (by first | exact Or.inl rfl | exact Or.inr rfl)))))))
    (pss_one (ps_ret (pe_op op_mod (pe_intc tx.bt (pv 3)) (pv 2))))))), ?_⟩
  try dsimp only [cxOf]
  obtain ⟨n, t, m, rfl, hm, q⟩ := h
  with_reducible apply s_seq
  with_reducible apply s_setI K
  · walk_at "ev"
  intro H1 s1
  with_reducible apply s_seq
  with_reducible apply s_setI K
  · walk_at "ev"
  intro H2 s2
  with_reducible apply s_seq
  refine for_brk (fun σ' H' => ∃ (tot bd : Int) (v5 : Option V), σ' = [some (.int n), some (.int t), some (.int m), some (.int tot), some (.int bd), v5] ∧ Same H H') ?_
    (fun hd => for_rng K (j := 90) (by walk_at "ev") (by decide) (fun _ σ' H' => ∃ (tot bd : Int) (v5 : Option V), σ' = [some (.int n), some (.int t), some (.int m), some (.int tot), some (.int bd), v5] ∧ Same H H')
      (fun H' s3 => ⟨0, 1, none, rfl, (s1.trans s2).trans s3⟩) ?_ hd)
  · rintro σ' H' ⟨tot, bd, v5, rfl, s3⟩
    with_reducible apply s_ret K
    · walk_at "ev"
    intro v H3 s4 hv
    rw [hv.iv]
    exact q _ _ (s3.trans s4) (Int.emod_nonneg _ (by omega)) (Int.emod_lt_of_pos _ (by omega))
  · rintro i σ' H' hi ⟨tot, bd, v5, rfl, s3⟩
    with_reducible apply s_seq
    with_reducible apply s_if K
    · walk_at "ev"
    · intro _ H4 s4
      with_reducible apply s_break
      exact hd _ _ ⟨_, _, _, rfl, s3.trans s4⟩
    · intro _ H4 s4
      with_reducible apply s_next
      with_reducible apply s_seq
      with_reducible apply s_setI K
      · walk_at "ev"
        exact ⟨_, _, rfl, rfl⟩
      intro H5 s5
      with_reducible apply s_setI K
      · walk_at "ev"
      intro H6 s6
      exact ⟨_, _, _, rfl, s3.trans (s4.trans (s5.trans s6))⟩
end
end TW

set_option Elab.async false
set_option linter.all false
set_option maxRecDepth 100000
set_option maxHeartbeats 4000000
namespace TW
open PySem PySem.Spec PyProof.Rows L2
local macro_rules | `(tactic| walk_at "ev") => `(tactic| repeat' (first
  | with_reducible exact e_int | with_reducible exact e_str | with_reducible exact e_bl | with_reducible exact e_non
  | exact e_vint rfl | exact e_vstr rfl | exact e_vbl rfl | exact e_vnon rfl | exact e_var rfl (by assumption)
  | exact e_sqv rfl (by assumption) | exact e_dkI rfl (by assumption) rfl
  | with_reducible apply e_call | with_reducible apply e_intc | with_reducible apply e_abs
  | with_reducible apply e_intop | with_reducible apply e_cmp | with_reducible apply e_intopC
  | with_reducible apply e_len | with_reducible apply e_pow | with_reducible apply e_min2 | with_reducible apply e_max2
  | with_reducible exact a_nil | with_reducible apply a_cons
  | with_reducible apply t_ofB | with_reducible apply t_of
  | (with_reducible apply mulR; omega) | (with_reducible apply mulL; omega) | (with_reducible show (_ < _); omega)))
section
variable {P : Program} {w : World} {K : PySem.W.Frag} {mg : Str → Option Value} {base : Heap} {CF : Addr}
theorem sc_law_take : FnScope ["store", "many", "cell", "digit"] ["store", "many"] (defScope (top 57)) := ⟨rfl, rfl, rfl, by decide +kernel, rfl, by decide +kernel, by decide +kernel⟩
theorem ok_law_take {f : Addr} {fd : FuncData} (F : FunD K "_law_take" "_law_take" (defArgs (top 57)) (defBody (top 57)) (defScope (top 57)) [] [] f fd) (tx : Tx w K mg CF) (G_law_mixed : Gf P w K mg base "_law_mixed" 2 (sp_law_mixed K mg CF)) : FnOk P w K mg base (L2.CX P w) 3 f fd ["store", "many"] (sp_law_take K mg CF) := by
  refine F.ok sc_law_take (fun vs H Q E h => ?_) (fun cdv A outer s H vs Q E hr h => ?_)
  · first | (obtain ⟨_, rfl, _⟩ := h; rfl) | (obtain ⟨_, _, rfl, _⟩ := h; rfl) | (obtain ⟨_, _, _, rfl, _⟩ := h; rfl) | (obtain ⟨_, _, _, _, rfl, _⟩ := h; rfl) | (obtain ⟨_, _, _, _, _, rfl, _⟩ := h; rfl) | (obtain ⟨_, _, _, _, _, _, rfl, _⟩ := h; rfl) | (obtain ⟨_, _, _, _, _, _, _, rfl, _⟩ := h; rfl) | (obtain ⟨_, _, _, _, _, _, _, _, rfl, _⟩ := h; rfl) | exact spInit_len h rfl | exact spO_len h (by intro ds o hh; first | (obtain ⟨_, rfl, _⟩ := hh; rfl) | (obtain ⟨_, _, rfl, _⟩ := hh; rfl) | (obtain ⟨_, _, _, rfl, _⟩ := hh; rfl) | (obtain ⟨_, _, _, _, rfl, _⟩ := hh; rfl) | (obtain ⟨_, _, _, _, _, rfl, _⟩ := hh; rfl) | (obtain ⟨_, _, _, _, _, _, rfl, _⟩ := hh; rfl))
  refine ⟨_, (pss_cons (ps_if (pt_cmpR op_lt (pv 1) pe_int (nomark _))
    (pss_one (ps_ret pe_int))
    pss_nil)
    (pss_cons (ps_dput (hu_of hr) (pv 0) pe_str (pe_op op_add (pe_dget (hu_of hr) (pv 0) pe_str (fun _ _ => rfl)) pe_int) rfl)
    (pss_cons (ps_if (PW.pt (pw_and (pt_cmpR op_lt (pe_dget (hu_of hr) (pv 0) pe_str (fun _ _ => rfl)) pe_int (nomark _)) (pw_and1 (pt_cmpR op_lt (pe_dget (hu_of hr) (pv 0) pe_str (fun _ _ => rfl)) (pe_len tx.bt (pe_dget (hu_of hr) (pv 0) pe_str (fun _ _ => rfl))) (nomark _)))))
    (pss_cons (ps_asg (pe_ix ix_seq (pe_dget (hu_of hr) (pv 0) pe_str (fun _ _ => rfl)) (pe_dget (hu_of hr) (pv 0) pe_str (fun _ _ => rfl)) (fun _ _ => rfl)) (pg_name (i := 2) sc_law_take.nd rfl (by first | exact Or.inl rfl | exact Or.inr rfl)))
    (pss_cons (ps_dput (hu_of hr) (pv 0) pe_str (pe_op op_add (pe_dget (hu_of hr) (pv 0) pe_str (fun _ _ => rfl)) pe_int) rfl)
    (pss_cons (ps_if (pt_cmpR op_lt (pe_abs tx.bt (pv 2)) (pe_op op_pow pe_int pe_int) (nomark _))
    (pss_one (ps_ret (pe_g G_law_mixed (hr.mono (by decide)) (takes_of rfl rfl rfl rfl) (pa_cons (pv 2) (pa_cons (pe_dget (hu_of hr) (pv 0) pe_str (fun _ _ => rfl)) (pa_cons (pv 1) pa_nil))))))
    pss_nil)
    (pss_one (ps_dput (hu_of hr) (pv 0) pe_str (pe_abs tx.bt (pv 2)) rfl)))))
    pss_nil)
    (pss_cons (ps_if (pt_cmpR op_gt (pe_dget (hu_of hr) (pv 0) pe_str (fun _ _ => rfl)) pe_int (nomark _))
    (pss_cons (ps_asg (pe_op op_mod (pe_intc tx.bt (pe_dget (hu_of hr) (pv 0) pe_str (fun _ _ => rfl))) (pv 1)) (pg_name (i := 3) sc_law_take.nd rfl (by first | exact Or.inl rfl | exact Or.inr rfl)))
    (pss_cons (ps_dput (hu_of hr) (pv 0) pe_str (pe_op op_fdivW (pe_dget (hu_of hr) (pv 0) pe_str (fun _ _ => rfl)) (pv 1)) rfl)
    (pss_one (ps_ret (pv 3)))))
    pss_nil)
    (pss_one (ps_ret (pe_g G_law_mixed (hr.mono (by decide)) (takes_of rfl rfl rfl rfl) (pa_cons (pe_dget (hu_of hr) (pv 0) pe_str (fun _ _ => rfl)) (pa_cons (pe_dget (hu_of hr) (pv 0) pe_str (fun _ _ => rfl)) (pa_cons (pv 1) pa_nil)))))))))), ?_⟩
  try dsimp only [cxOf]
  obtain ⟨a, b, m, rfl, hok, hm, q⟩ := h
  with_reducible apply s_seq
  with_reducible apply s_if K
  · walk_at "ev"
  · intro hb H1 s1
    with_reducible apply s_ret K
    · walk_at "ev"
    intro v H2 s2 hv
    rw [hv.iv]
    exact q _ _ (s1.trans s2).sm (hok.same (s1.trans s2)) (fun _ => rfl) (fun h => by have := of_decide_eq_true hb; omega)
  intro hb H1 s1
  have hb2 : 2 ≤ m := by have := of_decide_eq_false hb; omega
  with_reducible apply s_next
  obtain ⟨i, g, t, sd, ns, hst⟩ := hok.same s1
  have hd := hst.d
  with_reducible apply s_seq
  refine s_dput K rfl hd (d := .im (.int (t + 1))) (by walk_at "ev") ?_
  intro v H2 s2 hv
  rw [hv.iv, pt_turn]
  have hst2 := (hst.same s2).put (i' := i) (g' := g) (t' := t + 1) (sd' := sd) hst.i0
  have m2 : Sm a H (upd H2 a (.dK (stKvs b i g (t + 1) sd))) := (s1.trans s2).sm.upd
  generalize upd H2 a (.dK (stKvs b i g (t + 1) sd)) = H3 at hst2 m2
  clear hst hd hv s2 H2
  -- the end of each way: a draw by law_mixed
  have fin : ∀ {r : Int} {H4 : Hp}, Sm a H H4 → StoreOk H4 a b → 0 ≤ r → r < m → Q (.int r) H4 := fun h1 h2 h3 h4 => q _ _ h1 h2 (fun h => by omega) (fun _ => ⟨h3, h4⟩)
  refine s_cut (fun σ' H4 => ∃ (i g : Int) (v2 : Option V), σ' = [some (.ref a), some (.int m), v2, none] ∧ St H4 a b i g (t + 1) sd ns ∧ Sm a H H4) ?_ (fun rest => ?_)
  · rintro σ' H4 ⟨i, g, v2, rfl, hst, m4⟩
    have hd := hst.d
    with_reducible apply s_seq
    with_reducible apply s_if K
    · walk_at "ev"
    · intro hg H5 s5
      have hd := (hst.same s5).d
      with_reducible apply s_seq
      with_reducible apply s_setI K
      · walk_at "ev"
      intro H6 s6
      have hst6 := hst.same (s5.trans s6)
      have hd := hst6.d
      with_reducible apply s_seq
      refine s_dput K rfl hd (d := .im (.int (g / m))) ?_ ?_
      · walk_at "ev"
        exact wide_div (by omega) hm (by decide) (by decide)
      intro v H7 s7 hv
      rw [hv.iv, pt_great]
      have hst7 := (hst6.same s7).put (i' := i) (g' := g / m) (t' := t + 1) (sd' := sd) hst.i0
      have m7 : Sm a H (upd H7 a (.dK (stKvs b i (g / m) (t + 1) sd))) := (m4.trans (s5.trans (s6.trans s7)).sm).upd
      with_reducible apply s_ret K
      · walk_at "ev"
      intro v H8 s8 hv
      rw [hv.iv]
      exact fin (m7.trans s8.sm) ⟨_, _, _, _, _, hst7.same s8⟩ (Int.emod_nonneg _ (by omega)) (Int.emod_lt_of_pos _ (by omega))
    · intro hg H5 s5
      have hd := (hst.same s5).d
      with_reducible apply s_next
      refine s_retC K (by walk_at "ev") ?_
      intro vs H6 s6 hv
      obtain ⟨x, y, z, rfl, h1, h2, h3⟩ := hv.three_inv
      rw [h1.iv, h2.iv, h3.iv]
      exact ⟨_, _, _, rfl, hb2, fun r H7 s7 h0 h1 => fin (m4.trans (s5.trans (s6.trans s7)).sm) ⟨_, _, _, _, _, hst.same (s5.trans (s6.trans s7))⟩ h0 h1⟩
  · have hd := hst2.d
    with_reducible apply s_if K
    · with_reducible apply t_and
      · walk_at "ev"
      · intro _
        walk_at "ev"
        exact e_dk (d := .sq (ns.map T.int)) rfl hd st_cells ⟨b, ns.map V.int, rfl, .inl (.inl (.inl hst2.l)), Ims.ints ns⟩
    · intro hc H4 s4
      have hc2 := (Bool.and_eq_true_iff.mp hc).2
      have hi := of_decide_eq_true hc2
      rw [List.length_map] at hi
      have hst4 := hst2.same s4
      have hd := hst4.d
      have i0 := hst2.i0
      obtain ⟨c, ec⟩ : ∃ c, ns[i.toNat]? = some c := ⟨_, List.getElem?_eq_getElem (show i.toNat < ns.length by omega)⟩
      with_reducible apply s_seq
      refine s_setI K (n := c) ?_ ?_
      · refine e_ix (ts := ns.map T.int) (i := i) (e_dk (d := .sq (ns.map T.int)) rfl hd st_cells ⟨b, ns.map V.int, rfl, .inl (.inl (.inl hst4.l)), Ims.ints ns⟩) (by walk_at "ev") ?_
        have e1 : i = ((i.toNat : Nat) : Int) := by omega
        rw [e1]
        exact atI_nat (by rw [List.getElem?_map, ec] <;> rfl)
      intro H5 s5
      have hst5 := hst4.same s5
      have hd := hst5.d
      with_reducible apply s_seq
      refine s_dput K rfl hd (d := .im (.int (i + 1))) (by walk_at "ev") ?_
      intro v H6 s6 hv
      rw [hv.iv, pt_at]
      have hst6 := (hst5.same s6).put (i' := i + 1) (g' := g) (t' := t + 1) (sd' := sd) (by omega)
      have m6 : Sm a H (upd H6 a (.dK (stKvs b (i + 1) g (t + 1) sd))) := (m2.trans (s4.trans (s5.trans s6)).sm).upd
      generalize upd H6 a (.dK (stKvs b (i + 1) g (t + 1) sd)) = H7 at hst6 m6
      have hd := hst6.d
      with_reducible apply s_seq
      with_reducible apply s_if K
      · walk_at "ev"
        exact ⟨by decide, by decide, by decide⟩
      · intro _ H8 s8
        have hd := (hst6.same s8).d
        refine s_retC K (by walk_at "ev") ?_
        intro vs H9 s9 hv
        obtain ⟨x, y, z, rfl, h1, h2, h3⟩ := hv.three_inv
        rw [h1.iv, h2.iv, h3.iv]
        exact ⟨_, _, _, rfl, hb2, fun r H10 s10 h0 h1 => fin (m6.trans (s8.trans (s9.trans s10)).sm) ⟨_, _, _, _, _, hst6.same (s8.trans (s9.trans s10))⟩ h0 h1⟩
      · intro _ H8 s8
        have hst8 := hst6.same s8
        have hd := hst8.d
        with_reducible apply s_next
        refine s_dput K rfl hd (d := .im (.int (if c < 0 then -c else c))) (by walk_at "ev") ?_
        intro v H9 s9 hv
        rw [hv.iv, pt_great]
        have hst9 := (hst8.same s9).put (i' := i + 1) (g' := if c < 0 then -c else c) (t' := t + 1) (sd' := sd) (by omega)
        exact rest _ _ ⟨_, _, _, rfl, hst9, (m6.trans (s8.trans s9).sm).upd⟩
    · intro _ H4 s4
      with_reducible apply s_next
      exact rest _ _ ⟨_, _, none, rfl, hst2.same s4, m2.trans s4.sm⟩
end
end TW

set_option Elab.async false
set_option linter.all false
set_option maxRecDepth 100000
set_option maxHeartbeats 4000000
namespace TW
open PySem PySem.Spec PyProof.Rows L2
local macro_rules | `(tactic| walk_at "ev") => `(tactic| repeat' (first
  | with_reducible exact e_int | with_reducible exact e_str | with_reducible exact e_bl | with_reducible exact e_non
  | exact e_vint rfl | exact e_vstr rfl | exact e_vbl rfl | exact e_vnon rfl | exact e_var rfl (by assumption)
  | exact e_sqv rfl (by assumption) | exact e_dkI rfl (by assumption) rfl
  | with_reducible apply e_call | with_reducible apply e_intc | with_reducible apply e_abs
  | with_reducible apply e_intop | with_reducible apply e_cmp | with_reducible apply e_intopC
  | with_reducible apply e_len | with_reducible apply e_pow | with_reducible apply e_min2 | with_reducible apply e_max2
  | with_reducible exact a_nil | with_reducible apply a_cons
  | with_reducible apply t_ofB | with_reducible apply t_of
  | (with_reducible apply mulR; omega) | (with_reducible apply mulL; omega) | (with_reducible show (_ < _); omega)))
section
variable {P : Program} {w : World} {K : PySem.W.Frag} {mg : Str → Option Value} {base : Heap} {CF : Addr}
theorem sc_law_hit : FnScope ["store", "many"] ["store", "many"] (defScope (top 58)) := ⟨rfl, rfl, rfl, by decide +kernel, rfl, by decide +kernel, by decide +kernel⟩
theorem ok_law_hit {f : Addr} {fd : FuncData} (F : FunD K "_law_hit" "_law_hit" (defArgs (top 58)) (defBody (top 58)) (defScope (top 58)) [] [] f fd) (tx : Tx w K mg CF) (G_law_take : Gf P w K mg base "_law_take" 3 (sp_law_take K mg CF)) : FnOk P w K mg base (L2.CX P w) 4 f fd ["store", "many"] (sp_law_hit K mg CF) := by
  refine F.ok sc_law_hit (fun vs H Q E h => ?_) (fun cdv A outer s H vs Q E hr h => ?_)
  · first | (obtain ⟨_, rfl, _⟩ := h; rfl) | (obtain ⟨_, _, rfl, _⟩ := h; rfl) | (obtain ⟨_, _, _, rfl, _⟩ := h; rfl) | (obtain ⟨_, _, _, _, rfl, _⟩ := h; rfl) | (obtain ⟨_, _, _, _, _, rfl, _⟩ := h; rfl) | (obtain ⟨_, _, _, _, _, _, rfl, _⟩ := h; rfl) | (obtain ⟨_, _, _, _, _, _, _, rfl, _⟩ := h; rfl) | (obtain ⟨_, _, _, _, _, _, _, _, rfl, _⟩ := h; rfl) | exact spInit_len h rfl | exact spO_len h (by intro ds o hh; first | (obtain ⟨_, rfl, _⟩ := hh; rfl) | (obtain ⟨_, _, rfl, _⟩ := hh; rfl) | (obtain ⟨_, _, _, rfl, _⟩ := hh; rfl) | (obtain ⟨_, _, _, _, rfl, _⟩ := hh; rfl) | (obtain ⟨_, _, _, _, _, rfl, _⟩ := hh; rfl) | (obtain ⟨_, _, _, _, _, _, rfl, _⟩ := hh; rfl))
  refine ⟨_, (pss_one (ps_ret (pe_cmpR (op_eqD hr.units) (pe_g G_law_take (hr.mono (by decide)) (takes_of rfl rfl rfl rfl) (pa_cons (pv 0) (pa_cons (pv 1) pa_nil))) pe_int (nomark _)))), ?_⟩
  try dsimp only [cxOf]
  obtain ⟨a, b, m, rfl, hok, hm, q⟩ := h
  refine ⟨_, rfl, _, rfl, a, b, m, rfl, hok, hm, fun r H1 m1 ok1 _ _ => ?_⟩
  exact ⟨.int r, .int 0, .int r, .int 0, rfl, rfl, q _ _ m1 ok1⟩
theorem sc_law_span : FnScope ["store", "low", "high"] ["store", "low", "high"] (defScope (top 60)) := ⟨rfl, rfl, rfl, by decide +kernel, rfl, by decide +kernel, by decide +kernel⟩
theorem ok_law_span {f : Addr} {fd : FuncData} (F : FunD K "_law_span" "_law_span" (defArgs (top 60)) (defBody (top 60)) (defScope (top 60)) [] [] f fd) (tx : Tx w K mg CF) (G_law_take : Gf P w K mg base "_law_take" 3 (sp_law_take K mg CF)) : FnOk P w K mg base (L2.CX P w) 4 f fd ["store", "low", "high"] (sp_law_span K mg CF) := by
  refine F.ok sc_law_span (fun vs H Q E h => ?_) (fun cdv A outer s H vs Q E hr h => ?_)
  · first | (obtain ⟨_, rfl, _⟩ := h; rfl) | (obtain ⟨_, _, rfl, _⟩ := h; rfl) | (obtain ⟨_, _, _, rfl, _⟩ := h; rfl) | (obtain ⟨_, _, _, _, rfl, _⟩ := h; rfl) | (obtain ⟨_, _, _, _, _, rfl, _⟩ := h; rfl) | (obtain ⟨_, _, _, _, _, _, rfl, _⟩ := h; rfl) | (obtain ⟨_, _, _, _, _, _, _, rfl, _⟩ := h; rfl) | (obtain ⟨_, _, _, _, _, _, _, _, rfl, _⟩ := h; rfl) | exact spInit_len h rfl | exact spO_len h (by intro ds o hh; first | (obtain ⟨_, rfl, _⟩ := hh; rfl) | (obtain ⟨_, _, rfl, _⟩ := hh; rfl) | (obtain ⟨_, _, _, rfl, _⟩ := hh; rfl) | (obtain ⟨_, _, _, _, rfl, _⟩ := hh; rfl) | (obtain ⟨_, _, _, _, _, rfl, _⟩ := hh; rfl) | (obtain ⟨_, _, _, _, _, _, rfl, _⟩ := hh; rfl))
  refine ⟨_, (pss_one (ps_ret (pe_op op_add (pv 1) (pe_g G_law_take (hr.mono (by decide)) (takes_of rfl rfl rfl rfl) (pa_cons (pv 0) (pa_cons (pe_op op_add (pe_op op_sub (pv 2) (pv 1)) pe_int) pa_nil)))))), ?_⟩
  try dsimp only [cxOf]
  obtain ⟨a, b, lo, hi, rfl, hok, hm, q⟩ := h
  refine ⟨_, rfl, _, rfl, _, rfl, _, rfl, _, _, rfl, rfl, _, _, rfl, rfl, a, b, _, rfl, hok, hm, fun r H1 m1 ok1 h0 h1 => ?_⟩
  refine ⟨_, _, rfl, rfl, q _ _ m1 ok1 ?_ ?_⟩
  · by_cases c : hi - lo + 1 < 2
    · have := h0 c
      omega
    · have := h1 (by omega)
      omega
  · intro h
    by_cases c : hi - lo + 1 < 2
    · have := h0 c
      omega
    · have := h1 (by omega)
      omega
theorem sc_law_pick : FnScope ["store", "items"] ["store", "items"] (defScope (top 59)) := ⟨rfl, rfl, rfl, by decide +kernel, rfl, by decide +kernel, by decide +kernel⟩
theorem ok_law_pick {f : Addr} {fd : FuncData} (F : FunD K "_law_pick" "_law_pick" (defArgs (top 59)) (defBody (top 59)) (defScope (top 59)) [] [] f fd) (tx : Tx w K mg CF) (G_law_take : Gf P w K mg base "_law_take" 3 (sp_law_take K mg CF)) : FnOk P w K mg base (L2.CX P w) 4 f fd ["store", "items"] (sp_law_pick K mg CF) := by
  refine F.ok sc_law_pick (fun vs H Q E h => ?_) (fun cdv A outer s H vs Q E hr h => ?_)
  · first | (obtain ⟨_, rfl, _⟩ := h; rfl) | (obtain ⟨_, _, rfl, _⟩ := h; rfl) | (obtain ⟨_, _, _, rfl, _⟩ := h; rfl) | (obtain ⟨_, _, _, _, rfl, _⟩ := h; rfl) | (obtain ⟨_, _, _, _, _, rfl, _⟩ := h; rfl) | (obtain ⟨_, _, _, _, _, _, rfl, _⟩ := h; rfl) | (obtain ⟨_, _, _, _, _, _, _, rfl, _⟩ := h; rfl) | (obtain ⟨_, _, _, _, _, _, _, _, rfl, _⟩ := h; rfl) | exact spInit_len h rfl | exact spO_len h (by intro ds o hh; first | (obtain ⟨_, rfl, _⟩ := hh; rfl) | (obtain ⟨_, _, rfl, _⟩ := hh; rfl) | (obtain ⟨_, _, _, rfl, _⟩ := hh; rfl) | (obtain ⟨_, _, _, _, rfl, _⟩ := hh; rfl) | (obtain ⟨_, _, _, _, _, rfl, _⟩ := hh; rfl) | (obtain ⟨_, _, _, _, _, _, rfl, _⟩ := hh; rfl))
  refine ⟨_, (pss_one (ps_ret (pe_ix ix_seq (pv 1) (pe_g G_law_take (hr.mono (by decide)) (takes_of rfl rfl rfl rfl) (pa_cons (pv 0) (pa_cons (pe_len tx.bt (pv 1)) pa_nil))) (fun _ _ => rfl)))), ?_⟩
  try dsimp only [cxOf]
  obtain ⟨a, b, p, xs, rfl, hok, hq, hne, hl, q⟩ := h
  refine ⟨_, rfl, _, rfl, ?_⟩
  refine ⟨_, rfl, p, xs, rfl, hq, ?_⟩
  refine ⟨a, b, _, rfl, hok, small_lit (by omega) (by omega), fun r H1 m1 ok1 h0 h1 => ?_⟩
  have hpos : 0 < xs.length := List.length_pos_iff.mpr hne
  have hr : 0 ≤ r ∧ r < xs.length := by
    by_cases c : ((xs.length : Nat) : Int) < 2
    · have := h0 c
      omega
    · exact h1 (by omega)
  have hv : atI xs r = some (xs[r.toNat]'(by omega)) := atI_of hr.1 (List.getElem?_eq_getElem _)
  have st := m1.stayS (K := K) hok
  rcases hq with hq | hq
  · exact .inl ⟨p, xs, r, _, rfl, rfl, st.1 _ _ hq, hv, q _ _ (List.getElem_mem _) m1 ok1⟩
  · exact .inr (.inl ⟨p, xs, r, _, rfl, rfl, st.2.sq hq, hv, q _ _ (List.getElem_mem _) m1 ok1⟩)
end
end TW

set_option Elab.async false
set_option linter.all false
set_option maxRecDepth 100000
set_option maxHeartbeats 4000000
namespace TW
open PySem PySem.Spec PyProof.Rows L2
local macro_rules | `(tactic| walk_at "ev") => `(tactic| repeat' (first
  | with_reducible exact e_int | with_reducible exact e_str | with_reducible exact e_bl | with_reducible exact e_non
  | exact e_vint rfl | exact e_vstr rfl | exact e_vbl rfl | exact e_vnon rfl | exact e_var rfl (by assumption)
  | exact e_sqv rfl (by assumption) | exact e_dkI rfl (by assumption) rfl
  | with_reducible apply e_call | with_reducible apply e_intc | with_reducible apply e_abs
  | with_reducible apply e_intop | with_reducible apply e_cmp | with_reducible apply e_intopC
  | with_reducible apply e_len | with_reducible apply e_pow | with_reducible apply e_min2 | with_reducible apply e_max2
  | with_reducible exact a_nil | with_reducible apply a_cons
  | with_reducible apply t_ofB | with_reducible apply t_of
  | (with_reducible apply mulR; omega) | (with_reducible apply mulL; omega) | (with_reducible show (_ < _); omega)))
section
variable {P : Program} {w : World} {K : PySem.W.Frag} {mg : Str → Option Value} {base : Heap} {CF : Addr}
theorem sc_law_some : FnScope ["store", "items", "many", "left", "some", "count", "k"] ["store", "items", "many"] (defScope (top 61)) := ⟨rfl, rfl, rfl, by decide +kernel, rfl, by decide +kernel, by decide +kernel⟩
theorem ok_law_some {f : Addr} {fd : FuncData} (F : FunD K "_law_some" "_law_some" (defArgs (top 61)) (defBody (top 61)) (defScope (top 61)) [] [] f fd) (tx : Tx w K mg CF) (G_law_take : Gf P w K mg base "_law_take" 3 (sp_law_take K mg CF)) : FnOk P w K mg base (L2.CX P w) 4 f fd ["store", "items", "many"] (sp_law_some K mg CF) := by
  refine F.ok sc_law_some (fun vs H Q E h => ?_) (fun cdv A outer s H vs Q E hr h => ?_)
  · first | (obtain ⟨_, rfl, _⟩ := h; rfl) | (obtain ⟨_, _, rfl, _⟩ := h; rfl) | (obtain ⟨_, _, _, rfl, _⟩ := h; rfl) | (obtain ⟨_, _, _, _, rfl, _⟩ := h; rfl) | (obtain ⟨_, _, _, _, _, rfl, _⟩ := h; rfl) | (obtain ⟨_, _, _, _, _, _, rfl, _⟩ := h; rfl) | (obtain ⟨_, _, _, _, _, _, _, rfl, _⟩ := h; rfl) | (obtain ⟨_, _, _, _, _, _, _, _, rfl, _⟩ := h; rfl) | exact spInit_len h rfl | exact spO_len h (by intro ds o hh; first | (obtain ⟨_, rfl, _⟩ := hh; rfl) | (obtain ⟨_, _, rfl, _⟩ := hh; rfl) | (obtain ⟨_, _, _, rfl, _⟩ := hh; rfl) | (obtain ⟨_, _, _, _, rfl, _⟩ := hh; rfl) | (obtain ⟨_, _, _, _, _, rfl, _⟩ := hh; rfl) | (obtain ⟨_, _, _, _, _, _, rfl, _⟩ := hh; rfl))
  refine ⟨_, (pss_cons (ps_asg (pe_list tx.bt (pv 1)) (pg_name (i := 3) sc_law_some.nd rfl (by first | exact Or.inl rfl | exact Or.inr rfl)))
    (pss_cons (ps_asg (pe_lst pa_nil) (pg_name (i := 4) sc_law_some.nd rfl (by first | exact Or.inl rfl | exact Or.inr rfl)))
    (pss_cons (ps_asg (pe_max2 tx.bt rfl pe_int (pe_min2 tx.bt rfl (pv 2) (pe_len tx.bt (pv 3)))) (pg_name (i := 5) sc_law_some.nd rfl (by first | exact Or.inl rfl | exact Or.inr rfl)))
    (pss_cons (ps_for (passes_of rfl) rfl (pi_range1 rfl tx.bt.range (pa_cons (pv 5) pa_nil)) (pg_name (i := 6) sc_law_some.nd rfl (by first | exact Or.inl rfl | exact Or.inr rfl))
    (pss_one (ps_expr (pe_bm PySem.F.plainAttrs_list PySem.F.slot_list_append PySem.F.type_list_append mt_append (pv 4) (pa_cons (pe_bm PySem.F.plainAttrs_list PySem.F.slot_list_pop PySem.F.type_list_pop mt_popAt (pv 3) (pa_cons (pe_g G_law_take (hr.mono (by decide)) (takes_of rfl rfl rfl rfl) (pa_cons (pv 0) (pa_cons (pe_len tx.bt (pv 3)) pa_nil))) pa_nil)) pa_nil)))))
    (pss_one (ps_ret (pv 4))))))), ?_⟩
  try dsimp only [cxOf]
  obtain ⟨a, b, p, xs, m, rfl, hok, hq, hl, q⟩ := h
  with_reducible apply s_seq
  refine s_listV K rfl hq ?_
  intro l H1 hlN s1 e1
  with_reducible apply s_seq
  refine s_nil ?_
  intro o H2 hoN s2 e2
  have nlo : l ≠ o := fun e => by rw [e] at e1; rw [e1] at hoN; cases hoN
  -- count
  with_reducible apply s_seq
  refine s_setI K (n := if (if ((xs.length : Nat) : Int) < m then ((xs.length : Nat) : Int) else m) > 0 then (if ((xs.length : Nat) : Int) < m then ((xs.length : Nat) : Int) else m) else 0) ?_ ?_
  · walk_at "ev"
    exact e_lenV rfl (.inl (.inl (.inl (s2 _ _ e1))))
  intro H3 s3
  have hc : ∃ c : Nat, (if (if ((xs.length : Nat) : Int) < m then ((xs.length : Nat) : Int) else m) > 0 then (if ((xs.length : Nat) : Int) < m then ((xs.length : Nat) : Int) else m) else 0) = (c : Int) ∧ c ≤ xs.length ∧ (c : Int) ≤ max 0 m := by
    refine ⟨(if (if ((xs.length : Nat) : Int) < m then ((xs.length : Nat) : Int) else m) > 0 then (if ((xs.length : Nat) : Int) < m then ((xs.length : Nat) : Int) else m) else 0).toNat, ?_⟩
    split <;> split <;> omega
  obtain ⟨c, ec, hcl, hcm⟩ := hc
  rw [ec]
  have sm3 : Sm a H H3 := (s1.trans (s2.trans s3)).sm
  have ok3 := hok.same (s1.trans (s2.trans s3))
  obtain ⟨nla, nlb⟩ := hok.apart hlN
  have hoN0 : H o = none := s1.free hoN
  obtain ⟨noa, nob⟩ := hok.apart hoN0
  with_reducible apply s_seq
  refine for_rng K (j := (c : Int)) (by walk_at "ev") (by omega) (fun i σ' H' => ∃ (ys zs : List V) (v6 : Option V), σ' = [some (.ref a), some (.ref p), some (.int m), some (.ref l), some (.ref o), some (.int (c : Int)), v6] ∧ Sm a H H' ∧ StoreOk H' a b ∧
    H' l = some (.lst zs) ∧ H' o = some (.lst ys) ∧ (ys ++ zs).Perm xs ∧ ys.length = i) ?_ ?_ ?_
  · intro H4 s4
    exact ⟨[], xs, none, rfl, sm3.trans s4.sm, ok3.same s4, s4 _ _ (s3 _ _ (s2 _ _ e1)), s4 _ _ (s3 _ _ e2), by simp, rfl⟩
  · rintro i σ' H4 hi ⟨ys, zs, v6, rfl, m4, ok4, hz, hy, hp, hyl⟩
    have hlen : ys.length + zs.length = xs.length := by
      have := hp.length_eq
      rw [List.length_append] at this
      exact this
    have hi2 : i < c := by omega
    have zpos : 0 < zs.length := by omega
    -- some.append(left.pop(draw))
    refine ⟨_, rfl, .inl ⟨rfl, _, .inl (.inl hy)⟩, ?_⟩
    refine ⟨_, rfl, .inl ⟨rfl, _, .inl (.inl hz)⟩, ?_⟩
    refine ⟨_, rfl, _, rfl, l, zs, rfl, .inl (.inl (.inl hz)), a, b, _, rfl, ok4, small_lit (by omega) (by omega), fun r H5 m5 ok5 h0 h1 => ?_⟩
    have hr : 0 ≤ r ∧ r < zs.length := by
      by_cases cc : ((zs.length : Nat) : Int) < 2
      · have := h0 cc
        omega
      · exact h1 (by omega)
    have hz5 := m5 l _ nla hz
    have hy5 := m5 o _ noa hy
    refine ⟨l, zs, r, r.toNat, zs[r.toNat]'(by omega), rfl, rfl, hz5, by omega, by omega, seqIndex_of hr.1 hr.2, List.getElem?_eq_getElem _, ?_⟩
    refine ⟨o, ys, _, rfl, rfl, by rw [upd_ne nlo.symm]; exact hy5, lt_line (by omega), ?_⟩
    refine ⟨ys ++ [zs[r.toNat]'(by omega)], zs.eraseIdx r.toNat, _, rfl, fun b u nb hb => ?_, ?_, ?_, upd_same, ?_, by simp; omega⟩
    · rw [upd_ne (ne_of_none hb hoN0), upd_ne (ne_of_none hb hlN)]
      exact m5 b _ nb (m4 b _ nb hb)
    · exact (ok5.upd nla nlb).upd noa nob
    · rw [upd_ne nlo, upd_same]
    · have e : zs = zs.take r.toNat ++ zs[r.toNat]'(by omega) :: zs.drop (r.toNat + 1) := by simp
      have e2 : zs.eraseIdx r.toNat = zs.take r.toNat ++ zs.drop (r.toNat + 1) := List.eraseIdx_eq_take_drop_succ ..
      refine List.Perm.trans ?_ hp
      rw [e2, List.append_assoc]
      refine List.Perm.append_left ys ?_
      conv => rhs; rw [e]
      rw [List.singleton_append]
      exact List.perm_middle.symm
  · rintro σ' H4 ⟨ys, zs, v6, rfl, m4, ok4, hz, hy, hp, hyl⟩
    exact ⟨_, rfl, q o ys zs H4 m4 ok4 hp (by omega) hoN0 hy⟩
theorem sc_law_sequence : FnScope ["store", "items"] ["store", "items"] (defScope (top 62)) := ⟨rfl, rfl, rfl, by decide +kernel, rfl, by decide +kernel, by decide +kernel⟩
theorem ok_law_sequence {f : Addr} {fd : FuncData} (F : FunD K "_law_sequence" "_law_sequence" (defArgs (top 62)) (defBody (top 62)) (defScope (top 62)) [] [] f fd) (tx : Tx w K mg CF) (G_law_hit : Gf P w K mg base "_law_hit" 4 (sp_law_hit K mg CF)) : FnOk P w K mg base (L2.CX P w) 5 f fd ["store", "items"] (sp_law_sequence K mg CF) := by
  refine F.ok sc_law_sequence (fun vs H Q E h => ?_) (fun cdv A outer s H vs Q E hr h => ?_)
  · first | (obtain ⟨_, rfl, _⟩ := h; rfl) | (obtain ⟨_, _, rfl, _⟩ := h; rfl) | (obtain ⟨_, _, _, rfl, _⟩ := h; rfl) | (obtain ⟨_, _, _, _, rfl, _⟩ := h; rfl) | (obtain ⟨_, _, _, _, _, rfl, _⟩ := h; rfl) | (obtain ⟨_, _, _, _, _, _, rfl, _⟩ := h; rfl) | (obtain ⟨_, _, _, _, _, _, _, rfl, _⟩ := h; rfl) | (obtain ⟨_, _, _, _, _, _, _, _, rfl, _⟩ := h; rfl) | exact spInit_len h rfl | exact spO_len h (by intro ds o hh; first | (obtain ⟨_, rfl, _⟩ := hh; rfl) | (obtain ⟨_, _, rfl, _⟩ := hh; rfl) | (obtain ⟨_, _, _, rfl, _⟩ := hh; rfl) | (obtain ⟨_, _, _, _, rfl, _⟩ := hh; rfl) | (obtain ⟨_, _, _, _, _, rfl, _⟩ := hh; rfl) | (obtain ⟨_, _, _, _, _, _, rfl, _⟩ := hh; rfl))
  refine ⟨_, (pss_cons (ps_if (pt_val (pe_g G_law_hit (hr.mono (by decide)) (takes_of rfl rfl rfl rfl) (pa_cons (pv 0) (pa_cons pe_int pa_nil))))
    (pss_one (ps_ret (pe_list tx.bt (pv 1))))
    pss_nil)
    (pss_one (ps_ret (pe_tuple tx.bt (pv 1))))), ?_⟩
  try dsimp only [cxOf]
  obtain ⟨a, b, p, xs, rfl, hok, hq, q⟩ := h
  refine ⟨_, rfl, a, b, _, rfl, hok, small_lit (by decide) (by decide), fun c H1 m1 ok1 => ?_⟩
  have st := m1.stayS (K := K) hok
  refine ⟨c, rfl, ?_⟩
  cases c with
  | true =>
    refine iteT ⟨_, rfl, p, xs, rfl, hq.imp (st.1 _ _) st.2.sq, fun l hl => ?_⟩
    have s1 : Same H1 (upd H1 l (.lst xs)) := same_new hl
    exact q l _ (m1.trans s1.sm) (ok1.same s1) (.inl (.inl (.inl upd_same)))
  | false =>
    refine iteF ?_
    rcases hq with hq | hq
    · refine ⟨_, rfl, p, xs, rfl, .inl ⟨st.1 _ _ hq, fun l hl => ?_⟩⟩
      have s1 : Same H1 (upd H1 l (.tup xs)) := same_new hl
      exact q l _ (m1.trans s1.sm) (ok1.same s1) (.inr (.inl (.inl upd_same)))
    · exact ⟨_, rfl, p, xs, rfl, .inr ⟨st.2.sq hq, q p _ m1 ok1 (.inr (st.2.sq hq))⟩⟩
theorem sc_law_store : FnScope ["script", "seed", "cell"] ["script"] (defScope (top 54)) := ⟨rfl, rfl, rfl, by decide +kernel, rfl, by decide +kernel, by decide +kernel⟩
theorem ok_law_store {f : Addr} {fd : FuncData} (F : FunD K "_law_store" "_law_store" (defArgs (top 54)) (defBody (top 54)) (defScope (top 54)) [] [] f fd) (tx : Tx w K mg CF) : FnOk P w K mg base (L2.CX P w) 1 f fd ["script"] (sp_law_store K mg CF) := by
  refine F.ok sc_law_store (fun vs H Q E h => ?_) (fun cdv A outer s H vs Q E hr h => ?_)
  · first | (obtain ⟨_, rfl, _⟩ := h; rfl) | (obtain ⟨_, _, rfl, _⟩ := h; rfl) | (obtain ⟨_, _, _, rfl, _⟩ := h; rfl) | (obtain ⟨_, _, _, _, rfl, _⟩ := h; rfl) | (obtain ⟨_, _, _, _, _, rfl, _⟩ := h; rfl) | (obtain ⟨_, _, _, _, _, _, rfl, _⟩ := h; rfl) | (obtain ⟨_, _, _, _, _, _, _, rfl, _⟩ := h; rfl) | (obtain ⟨_, _, _, _, _, _, _, _, rfl, _⟩ := h; rfl) | exact spInit_len h rfl | exact spO_len h (by intro ds o hh; first | (obtain ⟨_, rfl, _⟩ := hh; rfl) | (obtain ⟨_, _, rfl, _⟩ := hh; rfl) | (obtain ⟨_, _, _, rfl, _⟩ := hh; rfl) | (obtain ⟨_, _, _, _, rfl, _⟩ := hh; rfl) | (obtain ⟨_, _, _, _, _, rfl, _⟩ := hh; rfl) | (obtain ⟨_, _, _, _, _, _, rfl, _⟩ := hh; rfl))
  refine ⟨_, (pss_cons (ps_asg pe_int (pg_name (i := 1) sc_law_store.nd rfl (by first | exact Or.inl rfl | exact Or.inr rfl)))
    (pss_cons (ps_for (passes_of rfl) rfl (pi_seq (pv 0)) (pg_name (i := 2) sc_law_store.nd rfl (by first | exact Or.inl rfl | exact Or.inr rfl))
    (pss_one (ps_asg (pe_op op_mod (pe_intc tx.bt (pe_op op_add (pe_op op_add (pe_op op_mul (pv 1) pe_int) (pe_op op_mod (pe_intc tx.bt (pv 2)) pe_int)) pe_int)) pe_int) (pg_name (i := 1) sc_law_store.nd rfl (by first | exact Or.inl rfl | exact Or.inr rfl)))))
    (pss_one (ps_ret (pe_disp (pps_cons pe_str (pe_list tx.bt (pv 0)) (pps_cons pe_str pe_int (pps_cons pe_str pe_int (pps_cons pe_str pe_int (pps_cons pe_str (pv 1) pps_nil))))) (by rfl) (by rfl) (fun z => by cases z) (by decide)))))), ?_⟩
  try dsimp only [cxOf]
  obtain ⟨p, ns, rfl, hq, q⟩ := h
  have hv : Is K H (.ref p) (.sq (ns.map T.int)) := ⟨p, _, rfl, .inl hq, Ims.ints ns⟩
  with_reducible apply s_seq
  with_reducible apply s_setI K
  · walk_at "ev"
  intro H1 s1
  with_reducible apply s_seq
  refine for_var K rfl hv s1.stay (fun _ σ' H' => ∃ (sd : Int) (v2 : Option V), σ' = [some (.ref p), some (.int sd), v2] ∧ Same H H') ⟨_, none, rfl, s1⟩ (fun _ _ _ _ ⟨_, _, _, s⟩ => s.stay) ?_ ?_
  · rintro i x t σ' H2 ht hx ⟨sd, v2, rfl, s2⟩
    rw [List.getElem?_map] at ht
    obtain ⟨n, _, rfl⟩ := Option.map_eq_some_iff.mp ht
    have hx := hx.iv
    subst hx
    with_reducible apply s_gn
    with_reducible apply s_setI K
    · walk_at "ev"
    intro H3 s3
    exact ⟨_, _, rfl, s2.trans s3⟩
  · rintro σ' H2 ⟨sd, v2, rfl, s2⟩
    intro d hd
    have s3 : Same H (upd H2 d (.dK [])) := s2.trans (same_new hd)
    refine ⟨_, rfl, p, ns.map V.int, rfl, .inl (L2.Same.sqL s3 hq), fun l hl => ?_⟩
    have nl : d ≠ l := fun e => by
      rw [← e, upd_same] at hl
      cases hl
    refine ⟨_, rfl, by rw [upd_ne nl, upd_same], [(.inr "cells", .ref l), (.inr "at", .int 0), (.inr "great", .int 0), (.inr "turn", .int 0), (.inr "seed", .int sd)], rfl, Nat.le_of_ble_eq_true rfl, ?_⟩
    refine q d l _ ?_ (s2.free hd) (s3.free hl) ⟨0, 0, 0, sd, ns, ?_, ?_, Int.le_refl 0⟩
    · exact same_mut (s3.trans (same_new hl)) (s2.free hd)
    · rw [upd_same]
      rfl
    · rw [upd_ne nl.symm, upd_same]
end
end TW

set_option Elab.async false
set_option linter.all false
set_option maxRecDepth 100000
set_option maxHeartbeats 4000000
namespace TW
open PySem PySem.Spec PyProof.Rows L2
local macro_rules | `(tactic| walk_at "ev") => `(tactic| repeat' (first
  | with_reducible exact e_int | with_reducible exact e_str | with_reducible exact e_bl | with_reducible exact e_non
  | exact e_vint rfl | exact e_vstr rfl | exact e_vbl rfl | exact e_vnon rfl | exact e_var rfl (by assumption)
  | exact e_sqv rfl (by assumption) | exact e_dkI rfl (by assumption) rfl
  | with_reducible apply e_call | with_reducible apply e_intc | with_reducible apply e_abs
  | with_reducible apply e_intop | with_reducible apply e_cmp | with_reducible apply e_intopC
  | with_reducible apply e_len | with_reducible apply e_pow | with_reducible apply e_min2 | with_reducible apply e_max2
  | with_reducible exact a_nil | with_reducible apply a_cons
  | with_reducible apply t_ofB | with_reducible apply t_of
  | (with_reducible apply mulR; omega) | (with_reducible apply mulL; omega) | (with_reducible show (_ < _); omega)))
section
variable {P : Program} {w : World} {K : PySem.W.Frag} {mg : Str → Option Value} {base : Heap} {CF : Addr}
theorem sc_need_order : FnScope ["order"] ["order"] (defScope (top 49)) := ⟨rfl, rfl, rfl, by decide +kernel, rfl, by decide +kernel, by decide +kernel⟩
theorem ok_need_order {f : Addr} {fd : FuncData} (F : FunD K "need_order" "need_order" (defArgs (top 49)) (defBody (top 49)) (defScope (top 49)) [] [] f fd) (tx : Tx w K mg CF) (X_BadOrder : Xf P w K mg base "BadOrder" 1 ["order"]) : FnOk P w K mg base (L2.CX P w) 3 f fd ["order"] (sp_need_order K mg CF) := by
  refine F.ok sc_need_order (fun vs H Q E h => ?_) (fun cdv A outer s H vs Q E hr h => ?_)
  · first | (obtain ⟨_, rfl, _⟩ := h; rfl) | (obtain ⟨_, _, rfl, _⟩ := h; rfl) | (obtain ⟨_, _, _, rfl, _⟩ := h; rfl) | (obtain ⟨_, _, _, _, rfl, _⟩ := h; rfl) | (obtain ⟨_, _, _, _, _, rfl, _⟩ := h; rfl) | (obtain ⟨_, _, _, _, _, _, rfl, _⟩ := h; rfl) | (obtain ⟨_, _, _, _, _, _, _, rfl, _⟩ := h; rfl) | (obtain ⟨_, _, _, _, _, _, _, _, rfl, _⟩ := h; rfl) | exact spInit_len h rfl | exact spO_len h (by intro ds o hh; first | (obtain ⟨_, rfl, _⟩ := hh; rfl) | (obtain ⟨_, _, rfl, _⟩ := hh; rfl) | (obtain ⟨_, _, _, rfl, _⟩ := hh; rfl) | (obtain ⟨_, _, _, _, rfl, _⟩ := hh; rfl) | (obtain ⟨_, _, _, _, _, rfl, _⟩ := hh; rfl) | (obtain ⟨_, _, _, _, _, _, rfl, _⟩ := hh; rfl))
  refine ⟨_, (pss_one (ps_if (pt_cmpR op_notIn_seq (pv 0) (pe_gt tx.ORDERS) (by rfl))
    (pss_one (ps_rz X_BadOrder (hr.mono (by decide)) rfl (takes_of rfl rfl rfl rfl) (pa_cons (pv 0) pa_nil)))
    pss_nil)), ?_⟩
  try dsimp only [cxOf]
  obtain ⟨ds, o, hi, ⟨x, rfl, rfl⟩, q⟩ := h
  obtain ⟨v1, rfl, h1⟩ := hi.one_inv
  rw [h1.sv]
  with_reducible apply s_if K
  · exact t_of (e_inS (neg := true) (xs := orderStrs) (by walk_at "ev") e_gtq)
  · intro hb H1 s1
    have hm : x ∉ orderStrs := by simpa using hb
    rw [if_neg hm] at q
    exact s_raise (ts := [.str x]) X_BadOrder (by decide) (by decide) (by walk_at "ev") (by rfl) rfl (by decide) s1 q
  · intro hb H1 s1
    have hm : x ∈ orderStrs := by simpa using hb
    rw [if_pos hm] at q
    exact q .non H1 s1 Im.non
theorem sc_check_order : FnScope ["order"] ["order"] (defScope (top 31)) := ⟨rfl, rfl, rfl, by decide +kernel, rfl, by decide +kernel, by decide +kernel⟩
theorem ok_check_order {f : Addr} {fd : FuncData} (F : FunD K "check_order" "check_order" (defArgs (top 31)) (defBody (top 31)) (defScope (top 31)) [] [] f fd) (tx : Tx w K mg CF) (X_BadOrder : Xf P w K mg base "BadOrder" 1 ["order"]) : FnOk P w K mg base (L2.CX P w) 3 f fd ["order"] (sp_check_order K mg CF) := by
  refine F.ok sc_check_order (fun vs H Q E h => ?_) (fun cdv A outer s H vs Q E hr h => ?_)
  · first | (obtain ⟨_, rfl, _⟩ := h; rfl) | (obtain ⟨_, _, rfl, _⟩ := h; rfl) | (obtain ⟨_, _, _, rfl, _⟩ := h; rfl) | (obtain ⟨_, _, _, _, rfl, _⟩ := h; rfl) | (obtain ⟨_, _, _, _, _, rfl, _⟩ := h; rfl) | (obtain ⟨_, _, _, _, _, _, rfl, _⟩ := h; rfl) | (obtain ⟨_, _, _, _, _, _, _, rfl, _⟩ := h; rfl) | (obtain ⟨_, _, _, _, _, _, _, _, rfl, _⟩ := h; rfl) | exact spInit_len h rfl | exact spO_len h (by intro ds o hh; first | (obtain ⟨_, rfl, _⟩ := hh; rfl) | (obtain ⟨_, _, rfl, _⟩ := hh; rfl) | (obtain ⟨_, _, _, rfl, _⟩ := hh; rfl) | (obtain ⟨_, _, _, _, rfl, _⟩ := hh; rfl) | (obtain ⟨_, _, _, _, _, rfl, _⟩ := hh; rfl) | (obtain ⟨_, _, _, _, _, _, rfl, _⟩ := hh; rfl))
  refine ⟨_, (pss_one (ps_if (pt_cmpR op_notIn_seq (pv 0) (pe_gt tx.ORDERS) (by rfl))
    (pss_one (ps_rz X_BadOrder (hr.mono (by decide)) rfl (takes_of rfl rfl rfl rfl) (pa_cons (pv 0) pa_nil)))
    pss_nil)), ?_⟩
  try dsimp only [cxOf]
  obtain ⟨ds, o, hi, ⟨x, rfl, rfl⟩, q⟩ := h
  obtain ⟨v1, rfl, h1⟩ := hi.one_inv
  rw [h1.sv]
  with_reducible apply s_if K
  · exact t_of (e_inS (neg := true) (xs := orderStrs) (by walk_at "ev") e_gtq)
  · intro hb H1 s1
    have hm : x ∉ orderStrs := by simpa using hb
    rw [if_neg hm] at q
    exact s_raise (ts := [.str x]) X_BadOrder (by decide) (by decide) (by walk_at "ev") (by rfl) rfl (by decide) s1 q
  · intro hb H1 s1
    have hm : x ∈ orderStrs := by simpa using hb
    rw [if_pos hm] at q
    exact q .non H1 s1 Im.non
theorem sc_is_by_rows : FnScope ["order"] ["order"] (defScope (top 32)) := ⟨rfl, rfl, rfl, by decide +kernel, rfl, by decide +kernel, by decide +kernel⟩
theorem ok_is_by_rows {f : Addr} {fd : FuncData} (F : FunD K "is_by_rows" "is_by_rows" (defArgs (top 32)) (defBody (top 32)) (defScope (top 32)) [] [] f fd) (tx : Tx w K mg CF) : FnOk P w K mg base (L2.CX P w) 1 f fd ["order"] (sp_is_by_rows K mg CF) := by
  refine F.ok sc_is_by_rows (fun vs H Q E h => ?_) (fun cdv A outer s H vs Q E hr h => ?_)
  · first | (obtain ⟨_, rfl, _⟩ := h; rfl) | (obtain ⟨_, _, rfl, _⟩ := h; rfl) | (obtain ⟨_, _, _, rfl, _⟩ := h; rfl) | (obtain ⟨_, _, _, _, rfl, _⟩ := h; rfl) | (obtain ⟨_, _, _, _, _, rfl, _⟩ := h; rfl) | (obtain ⟨_, _, _, _, _, _, rfl, _⟩ := h; rfl) | (obtain ⟨_, _, _, _, _, _, _, rfl, _⟩ := h; rfl) | (obtain ⟨_, _, _, _, _, _, _, _, rfl, _⟩ := h; rfl) | exact spInit_len h rfl | exact spO_len h (by intro ds o hh; first | (obtain ⟨_, rfl, _⟩ := hh; rfl) | (obtain ⟨_, _, rfl, _⟩ := hh; rfl) | (obtain ⟨_, _, _, rfl, _⟩ := hh; rfl) | (obtain ⟨_, _, _, _, rfl, _⟩ := hh; rfl) | (obtain ⟨_, _, _, _, _, rfl, _⟩ := hh; rfl) | (obtain ⟨_, _, _, _, _, _, rfl, _⟩ := hh; rfl))
  refine ⟨_, (pss_one (ps_ret (pe_cmpR (op_eqD hr.units) (pe_ix ix_seq (pv 0) pe_int (fun _ _ => rfl)) pe_str (nomark _)))), ?_⟩
  try dsimp only [cxOf]
  obtain ⟨ds, o, hi, ⟨a, rfl, rfl⟩, q⟩ := h
  obtain ⟨v1, rfl, h1⟩ := hi.one_inv
  rw [h1.sv]
  refine s_ret K (ev_eq (e_eq (e_ixS (by walk_at "ev") e_int (ord_len' a) (ord_c0 a)) e_str (okd_c _ (by split <;> omega)) (okd_s (by decide +kernel))) (by rw [beq_r])) q
theorem sc_signs_of : FnScope ["order", "sy", "sx"] ["order"] (defScope (top 33)) := ⟨rfl, rfl, rfl, by decide +kernel, rfl, by decide +kernel, by decide +kernel⟩
theorem ok_signs_of {f : Addr} {fd : FuncData} (F : FunD K "signs_of" "signs_of" (defArgs (top 33)) (defBody (top 33)) (defScope (top 33)) [] [] f fd) (tx : Tx w K mg CF) : FnOk P w K mg base (L2.CX P w) 1 f fd ["order"] (sp_signs_of K mg CF) := by
  refine F.ok sc_signs_of (fun vs H Q E h => ?_) (fun cdv A outer s H vs Q E hr h => ?_)
  · first | (obtain ⟨_, rfl, _⟩ := h; rfl) | (obtain ⟨_, _, rfl, _⟩ := h; rfl) | (obtain ⟨_, _, _, rfl, _⟩ := h; rfl) | (obtain ⟨_, _, _, _, rfl, _⟩ := h; rfl) | (obtain ⟨_, _, _, _, _, rfl, _⟩ := h; rfl) | (obtain ⟨_, _, _, _, _, _, rfl, _⟩ := h; rfl) | (obtain ⟨_, _, _, _, _, _, _, rfl, _⟩ := h; rfl) | (obtain ⟨_, _, _, _, _, _, _, _, rfl, _⟩ := h; rfl) | exact spInit_len h rfl | exact spO_len h (by intro ds o hh; first | (obtain ⟨_, rfl, _⟩ := hh; rfl) | (obtain ⟨_, _, rfl, _⟩ := hh; rfl) | (obtain ⟨_, _, _, rfl, _⟩ := hh; rfl) | (obtain ⟨_, _, _, _, rfl, _⟩ := hh; rfl) | (obtain ⟨_, _, _, _, _, rfl, _⟩ := hh; rfl) | (obtain ⟨_, _, _, _, _, _, rfl, _⟩ := hh; rfl))
  refine ⟨_, (pss_cons (ps_asg (pe_ifExp (pt_cmpR (op_eqD hr.units) (pe_ix ix_seq (pv 0) pe_int (fun _ _ => rfl)) pe_str (nomark _)) pe_int (pe_un un_neg pe_int)) (pg_name (i := 1) sc_signs_of.nd rfl (by first | exact Or.inl rfl | exact Or.inr rfl)))
    (pss_cons (ps_asg (pe_ifExp (pt_cmpR (op_eqD hr.units) (pe_ix ix_seq (pv 0) pe_int (fun _ _ => rfl)) pe_str (nomark _)) pe_int (pe_un un_neg pe_int)) (pg_name (i := 2) sc_signs_of.nd rfl (by first | exact Or.inl rfl | exact Or.inr rfl)))
    (pss_one (ps_ret (pe_tup (pa_cons (pv 1) (pa_cons (pv 2) pa_nil))))))), ?_⟩
  try dsimp only [cxOf]
  obtain ⟨ds, o, hi, ⟨a, rfl, rfl⟩, q⟩ := h
  obtain ⟨v1, rfl, h1⟩ := hi.one_inv
  rw [h1.sv]
  with_reducible apply s_seq
  refine s_setI K (n := a.sy) (e_if (b := a.d) (t_of (ev_eq (e_eq (e_ixS (by walk_at "ev") e_int (ord_len' a) (ord_c1 a)) e_str (okd_c _ (by split <;> omega)) (okd_s (by decide +kernel))) (by rw [beq_d]))) (fun e => ev_eq e_int (by rw [Ord.sy, e] <;> rfl)) (fun e => ev_eq (e_neg e_int) (by rw [Ord.sy, e] <;> rfl))) fun H1 s1 => ?_
  with_reducible apply s_seq
  refine s_setI K (n := a.sx) (e_if (b := a.x) (t_of (ev_eq (e_eq (e_ixS (by walk_at "ev") e_int (ord_len' a) (ord_c2 a)) e_str (okd_c _ (by split <;> omega)) (okd_s (by decide +kernel))) (by rw [beq_x]))) (fun e => ev_eq e_int (by rw [Ord.sx, e] <;> rfl)) (fun e => ev_eq (e_neg e_int) (by rw [Ord.sx, e] <;> rfl))) fun H2 s2 => ?_
  refine s_ret K (e_tup (ts := [.int a.sy, .int a.sx]) (by walk_at "ev") (by rfl) (Nat.le_of_ble_eq_true rfl)) fun v H3 s3 hv => q v H3 ((s1.trans s2).trans s3) hv
theorem sc_order_key : FnScope ["order", "cell", "sy", "sx", "y", "x"] ["order", "cell"] (defScope (top 34)) := ⟨rfl, rfl, rfl, by decide +kernel, rfl, by decide +kernel, by decide +kernel⟩
theorem ok_order_key {f : Addr} {fd : FuncData} (F : FunD K "order_key" "order_key" (defArgs (top 34)) (defBody (top 34)) (defScope (top 34)) [] [] f fd) (tx : Tx w K mg CF) (G_is_by_rows : Gf P w K mg base "is_by_rows" 1 (sp_is_by_rows K mg CF)) (G_signs_of : Gf P w K mg base "signs_of" 1 (sp_signs_of K mg CF)) (G_check_order : Gf P w K mg base "check_order" 3 (sp_check_order K mg CF)) : FnOk P w K mg base (L2.CX P w) 4 f fd ["order", "cell"] (sp_order_key K mg CF) := by
  refine F.ok sc_order_key (fun vs H Q E h => ?_) (fun cdv A outer s H vs Q E hr h => ?_)
  · first | (obtain ⟨_, rfl, _⟩ := h; rfl) | (obtain ⟨_, _, rfl, _⟩ := h; rfl) | (obtain ⟨_, _, _, rfl, _⟩ := h; rfl) | (obtain ⟨_, _, _, _, rfl, _⟩ := h; rfl) | (obtain ⟨_, _, _, _, _, rfl, _⟩ := h; rfl) | (obtain ⟨_, _, _, _, _, _, rfl, _⟩ := h; rfl) | (obtain ⟨_, _, _, _, _, _, _, rfl, _⟩ := h; rfl) | (obtain ⟨_, _, _, _, _, _, _, _, rfl, _⟩ := h; rfl) | exact spInit_len h rfl | exact spO_len h (by intro ds o hh; first | (obtain ⟨_, rfl, _⟩ := hh; rfl) | (obtain ⟨_, _, rfl, _⟩ := hh; rfl) | (obtain ⟨_, _, _, rfl, _⟩ := hh; rfl) | (obtain ⟨_, _, _, _, rfl, _⟩ := hh; rfl) | (obtain ⟨_, _, _, _, _, rfl, _⟩ := hh; rfl) | (obtain ⟨_, _, _, _, _, _, rfl, _⟩ := hh; rfl))
  refine ⟨_, (pss_cons (ps_expr (pe_g G_check_order (hr.mono (by decide)) (takes_of rfl rfl rfl rfl) (pa_cons (pv 0) pa_nil)))
    (pss_cons (ps_asg (pe_g G_signs_of (hr.mono (by decide)) (takes_of rfl rfl rfl rfl) (pa_cons (pv 0) pa_nil)) (pg_tup rfl (pgs_cons (pg_name (i := 2) sc_order_key.nd rfl (by first | exact Or.inl rfl | exact Or.inr rfl)) (pgs_cons (pg_name (i := 3) sc_order_key.nd rfl (by first | exact Or.inl rfl | exact Or.inr rfl)) pgs_nil))))
    (pss_cons (ps_asg (pv 1) (pg_tup rfl (pgs_cons (pg_name (i := 4) sc_order_key.nd rfl (by first | exact Or.inl rfl | exact Or.inr rfl)) (pgs_cons (pg_name (i := 5) sc_order_key.nd rfl (by first | exact Or.inl rfl | exact Or.inr rfl)) pgs_nil))))
    (pss_cons (ps_if (pt_val (pe_g G_is_by_rows (hr.mono (by decide)) (takes_of rfl rfl rfl rfl) (pa_cons (pv 0) pa_nil)))
    (pss_one (ps_ret (pe_tup (pa_cons (pe_op op_mul (pv 2) (pv 4)) (pa_cons (pe_op op_mul (pv 3) (pv 5)) pa_nil)))))
    pss_nil)
    (pss_one (ps_ret (pe_tup (pa_cons (pe_op op_mul (pv 3) (pv 5)) (pa_cons (pe_op op_mul (pv 2) (pv 4)) pa_nil))))))))), ?_⟩
  try dsimp only [cxOf]
  obtain ⟨ds, o, hi, ⟨a, c, rfl, rfl⟩, q⟩ := h
  obtain ⟨v1, v2, rfl, h1, h2⟩ := hi.two_inv
  rw [h1.sv]
  with_reducible apply s_seq
  refine s_dropC (o := .ok (.im .non)) (by walk_at "ev") ⟨a.str, rfl, by rw [if_pos (ord_mem a)]⟩ (fun d e H1 s1 => ?_) (fun x fs e => by cases e)
  with_reducible apply s_seq
  refine s_ii K (m := a.sy) (n := a.sx) (e_call (by walk_at "ev") ⟨a, rfl, rfl⟩) fun H2 s2 => ?_
  with_reducible apply s_seq
  refine s_ii K (m := c.1) (n := c.2) (e_var rfl ((s1.trans s2).is h2)) fun H3 s3 => ?_
  have sm : (-18446744073709551616 < a.sy ∧ a.sy < 18446744073709551616) ∧ (-18446744073709551616 < a.sx ∧ a.sx < 18446744073709551616) := by
    unfold Ord.sy Ord.sx
    constructor <;> split <;> omega
  with_reducible apply s_seq
  refine s_if K (b := a.r) (t_of (e_call (by walk_at "ev") ⟨a, rfl, rfl⟩)) (fun hb H4 s4 => ?_) (fun hb H4 s4 => ?_)
  · refine s_ret K (e_tup (ts := [.int (a.sy * c.1), .int (a.sx * c.2)]) (a_cons (e_intopC (e_vint rfl) (e_vint rfl) (mulL sm.1)) (a_cons (e_intopC (e_vint rfl) (e_vint rfl) (mulL sm.2)) a_nil)) (by rfl) (Nat.le_of_ble_eq_true rfl)) fun v H5 s5 hv => q v H5 (s1.trans (s2.trans (s3.trans (s4.trans s5)))) ?_
    rw [Ord.key, hb]
    exact hv
  · with_reducible apply s_next
    refine s_ret K (e_tup (ts := [.int (a.sx * c.2), .int (a.sy * c.1)]) (a_cons (e_intopC (e_vint rfl) (e_vint rfl) (mulL sm.2)) (a_cons (e_intopC (e_vint rfl) (e_vint rfl) (mulL sm.1)) a_nil)) (by rfl) (Nat.le_of_ble_eq_true rfl)) fun v H5 s5 hv => q v H5 (s1.trans (s2.trans (s3.trans (s4.trans s5)))) ?_
    rw [Ord.key, hb]
    exact hv
theorem sc_is_forward : FnScope ["order", "move"] ["order", "move"] (defScope (top 35)) := ⟨rfl, rfl, rfl, by decide +kernel, rfl, by decide +kernel, by decide +kernel⟩
theorem ok_is_forward {f : Addr} {fd : FuncData} (F : FunD K "is_forward" "is_forward" (defArgs (top 35)) (defBody (top 35)) (defScope (top 35)) [] [] f fd) (tx : Tx w K mg CF) (G_order_key : Gf P w K mg base "order_key" 4 (sp_order_key K mg CF)) : FnOk P w K mg base (L2.CX P w) 5 f fd ["order", "move"] (sp_is_forward K mg CF) := by
  refine F.ok sc_is_forward (fun vs H Q E h => ?_) (fun cdv A outer s H vs Q E hr h => ?_)
  · first | (obtain ⟨_, rfl, _⟩ := h; rfl) | (obtain ⟨_, _, rfl, _⟩ := h; rfl) | (obtain ⟨_, _, _, rfl, _⟩ := h; rfl) | (obtain ⟨_, _, _, _, rfl, _⟩ := h; rfl) | (obtain ⟨_, _, _, _, _, rfl, _⟩ := h; rfl) | (obtain ⟨_, _, _, _, _, _, rfl, _⟩ := h; rfl) | (obtain ⟨_, _, _, _, _, _, _, rfl, _⟩ := h; rfl) | (obtain ⟨_, _, _, _, _, _, _, _, rfl, _⟩ := h; rfl) | exact spInit_len h rfl | exact spO_len h (by intro ds o hh; first | (obtain ⟨_, rfl, _⟩ := hh; rfl) | (obtain ⟨_, _, rfl, _⟩ := hh; rfl) | (obtain ⟨_, _, _, rfl, _⟩ := hh; rfl) | (obtain ⟨_, _, _, _, rfl, _⟩ := hh; rfl) | (obtain ⟨_, _, _, _, _, rfl, _⟩ := hh; rfl) | (obtain ⟨_, _, _, _, _, _, rfl, _⟩ := hh; rfl))
  refine ⟨_, (pss_one (ps_ret (pe_cmpR (op_gtT hr.units0) (pe_g G_order_key (hr.mono (by decide)) (takes_of rfl rfl rfl rfl) (pa_cons (pv 0) (pa_cons (pv 1) pa_nil))) (pe_tup (pa_cons pe_int (pa_cons pe_int pa_nil))) (nomark _)))), ?_⟩
  try dsimp only [cxOf]
  obtain ⟨ds, o, hi, ⟨a, c, rfl, rfl⟩, q⟩ := h
  obtain ⟨v1, v2, rfl, h1, h2⟩ := hi.two_inv
  rw [h1.sv]
  exact s_ret K (e_gtP (p := a.key c) (q := (0, 0)) (e_call (by walk_at "ev") ⟨a, c, rfl, rfl⟩) (e_tup (ts := [.int 0, .int 0]) (by walk_at "ev") (by rfl) (Nat.le_of_ble_eq_true rfl))) q
theorem sc_opposite : FnScope ["order"] ["order"] (defScope (top 36)) := ⟨rfl, rfl, rfl, by decide +kernel, rfl, by decide +kernel, by decide +kernel⟩
theorem ok_opposite {f : Addr} {fd : FuncData} (F : FunD K "opposite" "opposite" (defArgs (top 36)) (defBody (top 36)) (defScope (top 36)) [] [] f fd) (tx : Tx w K mg CF) (G_check_order : Gf P w K mg base "check_order" 3 (sp_check_order K mg CF)) : FnOk P w K mg base (L2.CX P w) 4 f fd ["order"] (sp_opposite K mg CF) := by
  refine F.ok sc_opposite (fun vs H Q E h => ?_) (fun cdv A outer s H vs Q E hr h => ?_)
  · first | (obtain ⟨_, rfl, _⟩ := h; rfl) | (obtain ⟨_, _, rfl, _⟩ := h; rfl) | (obtain ⟨_, _, _, rfl, _⟩ := h; rfl) | (obtain ⟨_, _, _, _, rfl, _⟩ := h; rfl) | (obtain ⟨_, _, _, _, _, rfl, _⟩ := h; rfl) | (obtain ⟨_, _, _, _, _, _, rfl, _⟩ := h; rfl) | (obtain ⟨_, _, _, _, _, _, _, rfl, _⟩ := h; rfl) | (obtain ⟨_, _, _, _, _, _, _, _, rfl, _⟩ := h; rfl) | exact spInit_len h rfl | exact spO_len h (by intro ds o hh; first | (obtain ⟨_, rfl, _⟩ := hh; rfl) | (obtain ⟨_, _, rfl, _⟩ := hh; rfl) | (obtain ⟨_, _, _, rfl, _⟩ := hh; rfl) | (obtain ⟨_, _, _, _, rfl, _⟩ := hh; rfl) | (obtain ⟨_, _, _, _, _, rfl, _⟩ := hh; rfl) | (obtain ⟨_, _, _, _, _, _, rfl, _⟩ := hh; rfl))
  refine ⟨_, (pss_cons (ps_expr (pe_g G_check_order (hr.mono (by decide)) (takes_of rfl rfl rfl rfl) (pa_cons (pv 0) pa_nil)))
    (pss_one (ps_ret (pe_op op_add_str (pe_op op_add_str (pe_ix ix_seq (pv 0) pe_int (fun _ _ => rfl)) (pe_wget tx.OTHER_LETTERS (pe_ix ix_seq (pv 0) pe_int (fun _ _ => rfl)))) (pe_wget tx.OTHER_LETTERS (pe_ix ix_seq (pv 0) pe_int (fun _ _ => rfl))))))), ?_⟩
  try dsimp only [cxOf]
  obtain ⟨ds, o, hi, ⟨a, rfl, rfl⟩, q⟩ := h
  obtain ⟨v1, rfl, h1⟩ := hi.one_inv
  rw [h1.sv]
  with_reducible apply s_seq
  refine s_dropC (o := .ok (.im .non)) (by walk_at "ev") ⟨a.str, rfl, by rw [if_pos (ord_mem a)]⟩ (fun d e H1 s1 => ?_) (fun x fs e => by cases e)
  refine s_ret K (ev_eq (e_addS (e_addS (e_ixS (by walk_at "ev") e_int (ord_len' a) (ord_c0 a)) (e_wget (x := if a.d then "u" else "d") (e_ixS (by walk_at "ev") e_int (ord_len' a) (ord_c1 a)) ?_) ?_) (e_wget (x := if a.x then "l" else "r") (e_ixS (by walk_at "ev") e_int (ord_len' a) (ord_c2 a)) ?_) ?_) ?_) fun v H2 s2 hv => q v H2 (s1.trans s2) hv
  all_goals (rcases a with ⟨r, d, x⟩; cases r <;> cases d <;> cases x <;> first | decide | rfl | decide +kernel)
end
end TW

set_option Elab.async false
set_option linter.all false
set_option maxRecDepth 100000
set_option maxHeartbeats 4000000
namespace TW
open PySem PySem.Spec PyProof.Rows L2
local macro_rules | `(tactic| walk_at "ev") => `(tactic| repeat' (first
  | with_reducible exact e_int | with_reducible exact e_str | with_reducible exact e_bl | with_reducible exact e_non
  | exact e_vint rfl | exact e_vstr rfl | exact e_vbl rfl | exact e_vnon rfl | exact e_var rfl (by assumption)
  | exact e_sqv rfl (by assumption) | exact e_dkI rfl (by assumption) rfl
  | with_reducible apply e_call | with_reducible apply e_intc | with_reducible apply e_abs
  | with_reducible apply e_intop | with_reducible apply e_cmp | with_reducible apply e_intopC
  | with_reducible apply e_len | with_reducible apply e_pow | with_reducible apply e_min2 | with_reducible apply e_max2
  | with_reducible exact a_nil | with_reducible apply a_cons
  | with_reducible apply t_ofB | with_reducible apply t_of
  | (with_reducible apply mulR; omega) | (with_reducible apply mulL; omega) | (with_reducible show (_ < _); omega)))
section
variable {P : Program} {w : World} {K : PySem.W.Frag} {mg : Str → Option Value} {base : Heap} {CF : Addr}
theorem sc_forward_part : FnScope ["order", "mask", "dy", "dx", "price"] ["order", "mask"] (defScope (top 37)) := ⟨rfl, rfl, rfl, by decide +kernel, rfl, by decide +kernel, by decide +kernel⟩
theorem ok_forward_part {f : Addr} {fd : FuncData} (F : FunD K "forward_part" "forward_part" (defArgs (top 37)) (defBody (top 37)) (defScope (top 37)) [] [] f fd) (tx : Tx w K mg CF) (G_is_forward : Gf P w K mg base "is_forward" 5 (sp_is_forward K mg CF)) (G_check_order : Gf P w K mg base "check_order" 3 (sp_check_order K mg CF)) : FnOk P w K mg base (L2.CX P w) 6 f fd ["order", "mask"] (sp_forward_part K mg CF) := by
  refine F.ok sc_forward_part (fun vs H Q E h => ?_) (fun cdv A outer s H vs Q E hr h => ?_)
  · first | (obtain ⟨_, rfl, _⟩ := h; rfl) | (obtain ⟨_, _, rfl, _⟩ := h; rfl) | (obtain ⟨_, _, _, rfl, _⟩ := h; rfl) | (obtain ⟨_, _, _, _, rfl, _⟩ := h; rfl) | (obtain ⟨_, _, _, _, _, rfl, _⟩ := h; rfl) | (obtain ⟨_, _, _, _, _, _, rfl, _⟩ := h; rfl) | (obtain ⟨_, _, _, _, _, _, _, rfl, _⟩ := h; rfl) | (obtain ⟨_, _, _, _, _, _, _, _, rfl, _⟩ := h; rfl) | exact spInit_len h rfl | exact spO_len h (by intro ds o hh; first | (obtain ⟨_, rfl, _⟩ := hh; rfl) | (obtain ⟨_, _, rfl, _⟩ := hh; rfl) | (obtain ⟨_, _, _, rfl, _⟩ := hh; rfl) | (obtain ⟨_, _, _, _, rfl, _⟩ := hh; rfl) | (obtain ⟨_, _, _, _, _, rfl, _⟩ := hh; rfl) | (obtain ⟨_, _, _, _, _, _, rfl, _⟩ := hh; rfl))
  refine ⟨_, (pss_cons (ps_expr (pe_g G_check_order (hr.mono (by decide)) (takes_of rfl rfl rfl rfl) (pa_cons (pv 0) pa_nil)))
    (pss_one (ps_ret (pe_tuple tx.bt (pe_lc (te := (tTup (tCons (tVar 2) (tCons (tVar 3) (tCons (tVar 4) tNil))))) (tt := (tB (tCallS (sp_is_forward K mg CF) (WE (fun _ _ _ _ => False)) (tCons (tVar 0) (tCons (tTup (tCons (tVar 2) (tCons (tVar 3) tNil))) tNil))))) (own := [("dy", 2), ("dx", 3), ("price", 4)]) (g := (gTup K 3 (gCons (gName 2) (gCons (gName 3) (gCons (gName 4) gNil))))) rfl sc_forward_part.nd (pi_seq (pv 1)) (blkOk_by (own := [("dy", 2), ("dx", 3), ("price", 4)]) (N := ["order", "mask", "dy", "dx", "price"]) (sc := defScope (top 37)) (by decide +kernel)) (fun _ _ _ _ _ => (pg_tup rfl (pgs_cons (pg_name (i := 2) sc_forward_part.nd rfl (by first | exact Or.inl rfl | exact Or.inr rfl)) (pgs_cons (pg_name (i := 3) sc_forward_part.nd rfl (by first | exact Or.inl rfl | exact Or.inr rfl)) (pgs_cons (pg_name (i := 4) sc_forward_part.nd rfl (by first | exact Or.inl rfl | exact Or.inr rfl)) pgs_nil))))) (fun _ _ _ _ _ => (pts_one (pt_val (pe_g G_is_forward (hr.mono (by decide)) takes0 (pa_cons (pv 0) (pa_cons (pe_tup (pa_cons (pv 2) (pa_cons (pv 3) pa_nil))) pa_nil)))))) (fun _ _ _ _ _ => (pe_tup (pa_cons (pv 2) (pa_cons (pv 3) (pa_cons (pv 4) pa_nil)))))))))), ?_⟩
  try dsimp only [cxOf]
  obtain ⟨ds, o, hi, ⟨a, m, rfl, hl, rfl⟩, q⟩ := h
  obtain ⟨v1, v2, rfl, h1, h2⟩ := hi.two_inv
  rw [h1.sv]
  with_reducible apply s_seq
  refine s_dropC (o := .ok (.im .non)) (by walk_at "ev") ⟨a.str, rfl, by rw [if_pos (ord_mem a)]⟩ (fun d e H1 s1 => ?_) (fun x fs e => by cases e)
  refine s_ret K (e_tuple (n_gen (enc := moveT) (xs := m) (p := a.fwd) (f := moveT) (i_seq (e_var rfl (s1.is h2)).sq_im) (by omega) fun i x v H2 hx s2 im => ?_).ev.sq_ls) fun v H2 s2 hv => q v H2 (s1.trans s2) hv
  refine ⟨_, fun k => g_iii im k, rfl, ?_, fun _ => ?_⟩
  · refine t_of (e_call (ds := [.im (.str a.str), .im (cellT (x.1, x.2.1))]) (a_cons (e_vstr rfl) (a_cons (e_tup (ts := [.int x.1, .int x.2.1]) (by walk_at "ev") (by rfl) (Nat.le_of_ble_eq_true rfl)) a_nil)) ⟨a, (x.1, x.2.1), rfl, rfl⟩)
  · exact e_tup (ts := [.int x.1, .int x.2.1, .int x.2.2]) (by walk_at "ev") (by rfl) (Nat.le_of_ble_eq_true rfl)
theorem sc_moves_of : FnScope ["mask", "dy", "dx", "price"] ["mask"] (defScope (top 20)) := ⟨rfl, rfl, rfl, by decide +kernel, rfl, by decide +kernel, by decide +kernel⟩
theorem ok_moves_of {f : Addr} {fd : FuncData} (F : FunD K "moves_of" "moves_of" (defArgs (top 20)) (defBody (top 20)) (defScope (top 20)) [] [] f fd) (tx : Tx w K mg CF) : FnOk P w K mg base (L2.CX P w) 1 f fd ["mask"] (sp_moves_of K mg CF) := by
  refine F.ok sc_moves_of (fun vs H Q E h => ?_) (fun cdv A outer s H vs Q E hr h => ?_)
  · first | (obtain ⟨_, rfl, _⟩ := h; rfl) | (obtain ⟨_, _, rfl, _⟩ := h; rfl) | (obtain ⟨_, _, _, rfl, _⟩ := h; rfl) | (obtain ⟨_, _, _, _, rfl, _⟩ := h; rfl) | (obtain ⟨_, _, _, _, _, rfl, _⟩ := h; rfl) | (obtain ⟨_, _, _, _, _, _, rfl, _⟩ := h; rfl) | (obtain ⟨_, _, _, _, _, _, _, rfl, _⟩ := h; rfl) | (obtain ⟨_, _, _, _, _, _, _, _, rfl, _⟩ := h; rfl) | exact spInit_len h rfl | exact spO_len h (by intro ds o hh; first | (obtain ⟨_, rfl, _⟩ := hh; rfl) | (obtain ⟨_, _, rfl, _⟩ := hh; rfl) | (obtain ⟨_, _, _, rfl, _⟩ := hh; rfl) | (obtain ⟨_, _, _, _, rfl, _⟩ := hh; rfl) | (obtain ⟨_, _, _, _, _, rfl, _⟩ := hh; rfl) | (obtain ⟨_, _, _, _, _, _, rfl, _⟩ := hh; rfl))
  refine ⟨_, (pss_one (ps_ret (pe_tuple tx.bt (pe_lc (te := (tTup (tCons (tVar 1) (tCons (tVar 2) tNil)))) (own := [("dy", 1), ("dx", 2), ("price", 3)]) (g := (gTup K 3 (gCons (gName 1) (gCons (gName 2) (gCons (gName 3) gNil))))) (tt := tYes) rfl sc_moves_of.nd (pi_seq (pv 0)) (blkOk_by (own := [("dy", 1), ("dx", 2), ("price", 3)]) (N := ["mask", "dy", "dx", "price"]) (sc := defScope (top 20)) (by decide +kernel)) (fun _ _ _ _ _ => (pg_tup rfl (pgs_cons (pg_name (i := 1) sc_moves_of.nd rfl (by first | exact Or.inl rfl | exact Or.inr rfl)) (pgs_cons (pg_name (i := 2) sc_moves_of.nd rfl (by first | exact Or.inl rfl | exact Or.inr rfl)) (pgs_cons (pg_name (i := 3) sc_moves_of.nd rfl (by first | exact Or.inl rfl | exact Or.inr rfl)) pgs_nil))))) (fun _ _ _ _ _ => pts_nil) (fun _ _ _ _ _ => (pe_tup (pa_cons (pv 1) (pa_cons (pv 2) pa_nil)))))))), ?_⟩
  try dsimp only [cxOf]
  obtain ⟨ds, o, hi, ⟨m, rfl, hl, rfl⟩, q⟩ := h
  obtain ⟨v1, rfl, h1⟩ := hi.one_inv
  refine s_ret K (e_tuple (n_genA (enc := moveT) (xs := m) (f := fun q => cellT (q.1, q.2.1)) (i_seq (e_var rfl h1).sq_im) (by omega) fun i x v H2 hx s2 im => ?_).ev.sq_ls) q
  refine ⟨_, fun k => g_iii im k, rfl, ?_⟩
  exact e_tup (ts := [.int x.1, .int x.2.1]) (by walk_at "ev") (by rfl) (Nat.le_of_ble_eq_true rfl)
theorem sc_indexes_by : FnScope ["sign", "count", "indexes"] ["sign", "count"] (defScope (top 38)) := ⟨rfl, rfl, rfl, by decide +kernel, rfl, by decide +kernel, by decide +kernel⟩
theorem ok_indexes_by {f : Addr} {fd : FuncData} (F : FunD K "indexes_by" "indexes_by" (defArgs (top 38)) (defBody (top 38)) (defScope (top 38)) [] [] f fd) (tx : Tx w K mg CF) : FnOk P w K mg base (L2.CX P w) 1 f fd ["sign", "count"] (sp_indexes_by K mg CF) := by
  refine F.ok sc_indexes_by (fun vs H Q E h => ?_) (fun cdv A outer s H vs Q E hr h => ?_)
  · first | (obtain ⟨_, rfl, _⟩ := h; rfl) | (obtain ⟨_, _, rfl, _⟩ := h; rfl) | (obtain ⟨_, _, _, rfl, _⟩ := h; rfl) | (obtain ⟨_, _, _, _, rfl, _⟩ := h; rfl) | (obtain ⟨_, _, _, _, _, rfl, _⟩ := h; rfl) | (obtain ⟨_, _, _, _, _, _, rfl, _⟩ := h; rfl) | (obtain ⟨_, _, _, _, _, _, _, rfl, _⟩ := h; rfl) | (obtain ⟨_, _, _, _, _, _, _, _, rfl, _⟩ := h; rfl) | exact spInit_len h rfl | exact spO_len h (by intro ds o hh; first | (obtain ⟨_, rfl, _⟩ := hh; rfl) | (obtain ⟨_, _, rfl, _⟩ := hh; rfl) | (obtain ⟨_, _, _, rfl, _⟩ := hh; rfl) | (obtain ⟨_, _, _, _, rfl, _⟩ := hh; rfl) | (obtain ⟨_, _, _, _, _, rfl, _⟩ := hh; rfl) | (obtain ⟨_, _, _, _, _, _, rfl, _⟩ := hh; rfl))
  refine ⟨_, (pss_cons (ps_asg (pe_listRg rfl rfl tx.bt.list (prg_1 rfl tx.bt.range (pv 1))) (pg_name (i := 2) sc_indexes_by.nd rfl (by first | exact Or.inl rfl | exact Or.inr rfl)))
    (pss_cons (ps_if (pt_cmpR (op_eqD hr.units) (pv 0) pe_int (nomark _))
    (pss_one (ps_ret (pv 2)))
    pss_nil)
    (pss_one (ps_ret (pe_revL (pv 2)))))), ?_⟩
  try dsimp only [cxOf]
  obtain ⟨ds, o, hi, ⟨b, n, rfl, hn, rfl⟩, q⟩ := h
  obtain ⟨v1, v2, rfl, h1, h2⟩ := hi.two_inv
  rw [h1.iv, h2.iv]
  with_reducible apply s_seq
  refine s_setN K (n_listRg (n := n) (e_vint rfl) (by omega)) fun p vs H1 hp s1 ep im => ?_
  have hv : Is K H1 (.ref p) (.ls (rowL n T.int)) := ⟨p, vs, rfl, .inl (.inl ep), im⟩
  with_reducible apply s_seq
  refine s_if K (b := b) (t_of (ev_eq (e_eq (e_vint rfl) e_int rfl rfl) (by cases b <;> rfl))) (fun hb H4 s4 => ?_) (fun hb H4 s4 => ?_)
  · refine s_ret K (e_var rfl (s4.is hv)) fun v H2 s2 h3 => q v H2 (s1.trans (s4.trans s2)) ?_
    subst hb
    have e : (dirs true n).map T.int = rowL n T.int := by simp [dirs, rowL]
    rw [e]
    exact h3
  · with_reducible apply s_next
    refine s_ret K (n_revL (e_var rfl (s4.is hv))).ev fun v H2 s2 h3 => q v H2 (s1.trans (s4.trans s2)) ?_
    subst hb
    have e : (dirs false n).map T.int = (rowL n T.int).reverse := by simp [dirs, rowL]
    rw [e]
    exact h3
theorem sc_cells_in : FnScope ["order", "h", "w", "sy", "sx", "ys", "xs", "y", "x"] ["order", "h", "w"] (defScope (top 39)) := ⟨rfl, rfl, rfl, by decide +kernel, rfl, by decide +kernel, by decide +kernel⟩
theorem ok_cells_in {f : Addr} {fd : FuncData} (F : FunD K "cells_in" "cells_in" (defArgs (top 39)) (defBody (top 39)) (defScope (top 39)) [] [] f fd) (tx : Tx w K mg CF) (G_is_by_rows : Gf P w K mg base "is_by_rows" 1 (sp_is_by_rows K mg CF)) (G_indexes_by : Gf P w K mg base "indexes_by" 1 (sp_indexes_by K mg CF)) (G_signs_of : Gf P w K mg base "signs_of" 1 (sp_signs_of K mg CF)) (G_check_order : Gf P w K mg base "check_order" 3 (sp_check_order K mg CF)) : FnOk P w K mg base (L2.CX P w) 4 f fd ["order", "h", "w"] (sp_cells_in K mg CF) := by
  refine F.ok sc_cells_in (fun vs H Q E h => ?_) (fun cdv A outer s H vs Q E hr h => ?_)
  · first | (obtain ⟨_, rfl, _⟩ := h; rfl) | (obtain ⟨_, _, rfl, _⟩ := h; rfl) | (obtain ⟨_, _, _, rfl, _⟩ := h; rfl) | (obtain ⟨_, _, _, _, rfl, _⟩ := h; rfl) | (obtain ⟨_, _, _, _, _, rfl, _⟩ := h; rfl) | (obtain ⟨_, _, _, _, _, _, rfl, _⟩ := h; rfl) | (obtain ⟨_, _, _, _, _, _, _, rfl, _⟩ := h; rfl) | (obtain ⟨_, _, _, _, _, _, _, _, rfl, _⟩ := h; rfl) | exact spInit_len h rfl | exact spO_len h (by intro ds o hh; first | (obtain ⟨_, rfl, _⟩ := hh; rfl) | (obtain ⟨_, _, rfl, _⟩ := hh; rfl) | (obtain ⟨_, _, _, rfl, _⟩ := hh; rfl) | (obtain ⟨_, _, _, _, rfl, _⟩ := hh; rfl) | (obtain ⟨_, _, _, _, _, rfl, _⟩ := hh; rfl) | (obtain ⟨_, _, _, _, _, _, rfl, _⟩ := hh; rfl))
  refine ⟨_, (pss_cons (ps_expr (pe_g G_check_order (hr.mono (by decide)) (takes_of rfl rfl rfl rfl) (pa_cons (pv 0) pa_nil)))
    (pss_cons (ps_asg (pe_g G_signs_of (hr.mono (by decide)) (takes_of rfl rfl rfl rfl) (pa_cons (pv 0) pa_nil)) (pg_tup rfl (pgs_cons (pg_name (i := 3) sc_cells_in.nd rfl (by first | exact Or.inl rfl | exact Or.inr rfl)) (pgs_cons (pg_name (i := 4) sc_cells_in.nd rfl (by first | exact Or.inl rfl | exact Or.inr rfl)) pgs_nil))))
    (pss_cons (ps_asg (pe_g G_indexes_by (hr.mono (by decide)) (takes_of rfl rfl rfl rfl) (pa_cons (pv 3) (pa_cons (pv 1) pa_nil))) (pg_name (i := 5) sc_cells_in.nd rfl (by first | exact Or.inl rfl | exact Or.inr rfl)))
    (pss_cons (ps_asg (pe_g G_indexes_by (hr.mono (by decide)) (takes_of rfl rfl rfl rfl) (pa_cons (pv 4) (pa_cons (pv 2) pa_nil))) (pg_name (i := 6) sc_cells_in.nd rfl (by first | exact Or.inl rfl | exact Or.inr rfl)))
    (pss_cons (ps_if (pt_val (pe_g G_is_by_rows (hr.mono (by decide)) (takes_of rfl rfl rfl rfl) (pa_cons (pv 0) pa_nil)))
    (pss_one (ps_ret (pe_tuple tx.bt (pe_lc2 (te := (tTup (tCons (tVar 7) (tCons (tVar 8) tNil)))) (wi1 := iSeq K (tVar 6)) (own := [("y", 7), ("x", 8)]) (vs1 := [8]) (g := (gName 7)) (tt := tYes) (g1 := (gName 8)) (tt1 := tYes) rfl sc_cells_in.nd (pi_seq (pv 5)) (blkOk_by (own := [("y", 7), ("x", 8)]) (N := ["order", "h", "w", "sy", "sx", "ys", "xs", "y", "x"]) (sc := defScope (top 39)) (by decide +kernel)) (by decide) (fun _ _ _ _ _ => (pg_name (i := 7) sc_cells_in.nd rfl (by first | exact Or.inl rfl | exact Or.inr rfl))) (fun _ _ _ _ _ => pts_nil) (fun _ _ _ _ _ => (pi_seq (pv 6))) (fun _ _ _ _ _ => (pg_name (i := 8) sc_cells_in.nd rfl (by first | exact Or.inl rfl | exact Or.inr rfl))) (fun _ _ _ _ _ => pts_nil) (fun _ _ _ _ _ => (pe_tup (pa_cons (pv 7) (pa_cons (pv 8) pa_nil))))))))
    pss_nil)
    (pss_one (ps_ret (pe_tuple tx.bt (pe_lc2 (te := (tTup (tCons (tVar 7) (tCons (tVar 8) tNil)))) (wi1 := iSeq K (tVar 5)) (own := [("x", 8), ("y", 7)]) (vs1 := [7]) (g := (gName 8)) (tt := tYes) (g1 := (gName 7)) (tt1 := tYes) rfl sc_cells_in.nd (pi_seq (pv 6)) (blkOk_by (own := [("x", 8), ("y", 7)]) (N := ["order", "h", "w", "sy", "sx", "ys", "xs", "y", "x"]) (sc := defScope (top 39)) (by decide +kernel)) (by decide) (fun _ _ _ _ _ => (pg_name (i := 8) sc_cells_in.nd rfl (by first | exact Or.inl rfl | exact Or.inr rfl))) (fun _ _ _ _ _ => pts_nil) (fun _ _ _ _ _ => (pi_seq (pv 5))) (fun _ _ _ _ _ => (pg_name (i := 7) sc_cells_in.nd rfl (by first | exact Or.inl rfl | exact Or.inr rfl))) (fun _ _ _ _ _ => pts_nil) (fun _ _ _ _ _ => (pe_tup (pa_cons (pv 7) (pa_cons (pv 8) pa_nil))))))))))))), ?_⟩
  try dsimp only [cxOf]
  obtain ⟨ds, o, hi, ⟨a, hh, ww, rfl, hn, hm, rfl⟩, q⟩ := h
  obtain ⟨v1, v2, v3, rfl, h1, h2, h3⟩ := hi.three_inv
  rw [h1.sv, h2.iv, h3.iv]
  with_reducible apply s_seq
  refine s_dropC (o := .ok (.im .non)) (by walk_at "ev") ⟨a.str, rfl, by rw [if_pos (ord_mem a)]⟩ (fun d e H1 s1 => ?_) (fun x fs e => by cases e)
  with_reducible apply s_seq
  refine s_ii K (m := a.sy) (n := a.sx) (e_call (by walk_at "ev") ⟨a, rfl, rfl⟩) fun H2 s2 => ?_
  with_reducible apply s_seq
  refine s_set K (e_call (d := .ls ((dirs a.d hh).map T.int)) (by walk_at "ev") ⟨a.d, hh, rfl, hn, rfl⟩) fun v4 H3 s3 h4 => ?_
  with_reducible apply s_seq
  refine s_set K (e_call (d := .ls ((dirs a.x ww).map T.int)) (by walk_at "ev") ⟨a.x, ww, rfl, hm, rfl⟩) fun v5 H4 s4 h5 => ?_
  have l1 : (dirs a.d hh).length ≤ 300 := by unfold dirs; split <;> simp <;> omega
  have l2 : (dirs a.x ww).length ≤ 300 := by unfold dirs; split <;> simp <;> omega
  have s04 := s1.trans (s2.trans (s3.trans s4))
  with_reducible apply s_seq
  refine s_if K (b := a.r) (t_of (e_call (by walk_at "ev") ⟨a, rfl, rfl⟩)) (fun hb H5 s5 => ?_) (fun hb H5 s5 => ?_)
  · refine s_ret K (e_tuple (n_gen2 (enc := T.int) (xs := dirs a.d hh) (enc1 := fun _ => T.int) (ys := fun _ => dirs a.x ww) (p := fun _ _ => true) (f := fun y x => cellT (y, x)) (i_seq (e_var rfl ((s4.trans s5).is h4)).sq_ls) l1 (fun _ => l2) fun i y v H6 hy s6 im => ?_).ev.sq_ls) fun v H6 s6 hv => q v H6 (s04.trans (s5.trans s6)) ?_
    · rw [im.int_inv]
      refine ⟨_, fun k q => q, rfl, i0_var rfl (Ls.sq (s5.is h5)), fun j x v' H7 hx s7 _ im' => ?_⟩
      rw [im'.int_inv]
      exact ⟨_, fun k q => q, rfl, t_yes, fun _ => e_tup (ts := [.int y, .int x]) (by walk_at "ev") (by rfl) (Nat.le_of_ble_eq_true rfl)⟩
    · have e : (a.cells hh ww).map cellT = (dirs a.d hh).flatMap fun y => ((dirs a.x ww).filter fun _ => true).map fun x => cellT (y, x) := by
        unfold Ord.cells
        rw [if_pos hb, List.map_flatMap]
        simp only [List.map_map, Function.comp_def, filter_tt]
      rw [e]
      exact hv
  · with_reducible apply s_next
    refine s_ret K (e_tuple (n_gen2 (enc := T.int) (xs := dirs a.x ww) (enc1 := fun _ => T.int) (ys := fun _ => dirs a.d hh) (p := fun _ _ => true) (f := fun x y => cellT (y, x)) (i_seq (e_var rfl (s5.is h5)).sq_ls) l2 (fun _ => l1) fun i y v H6 hy s6 im => ?_).ev.sq_ls) fun v H6 s6 hv => q v H6 (s04.trans (s5.trans s6)) ?_
    · rw [im.int_inv]
      refine ⟨_, fun k q => q, rfl, i0_var rfl (Ls.sq ((s4.trans s5).is h4)), fun j x v' H7 hx s7 _ im' => ?_⟩
      rw [im'.int_inv]
      exact ⟨_, fun k q => q, rfl, t_yes, fun _ => e_tup (ts := [.int x, .int y]) (by walk_at "ev") (by rfl) (Nat.le_of_ble_eq_true rfl)⟩
    · have e : (a.cells hh ww).map cellT = (dirs a.x ww).flatMap fun x => ((dirs a.d hh).filter fun _ => true).map fun y => cellT (y, x) := by
        unfold Ord.cells
        rw [if_neg (by rw [hb]; exact Bool.false_ne_true), List.map_flatMap]
        simp only [List.map_map, Function.comp_def, filter_tt]
      rw [e]
      exact hv
end
end TW

set_option Elab.async false
set_option linter.all false
set_option maxRecDepth 100000
set_option maxHeartbeats 4000000
namespace TW
open PySem PySem.Spec PyProof.Rows L2
local macro_rules | `(tactic| walk_at "ev") => `(tactic| repeat' (first
  | with_reducible exact e_int | with_reducible exact e_str | with_reducible exact e_bl | with_reducible exact e_non
  | exact e_vint rfl | exact e_vstr rfl | exact e_vbl rfl | exact e_vnon rfl | exact e_var rfl (by assumption)
  | exact e_sqv rfl (by assumption) | exact e_dkI rfl (by assumption) rfl
  | with_reducible apply e_call | with_reducible apply e_intc | with_reducible apply e_abs
  | with_reducible apply e_intop | with_reducible apply e_cmp | with_reducible apply e_intopC
  | with_reducible apply e_len | with_reducible apply e_pow | with_reducible apply e_min2 | with_reducible apply e_max2
  | with_reducible exact a_nil | with_reducible apply a_cons
  | with_reducible apply t_ofB | with_reducible apply t_of
  | (with_reducible apply mulR; omega) | (with_reducible apply mulL; omega) | (with_reducible show (_ < _); omega)))
section
variable {P : Program} {w : World} {K : PySem.W.Frag} {mg : Str → Option Value} {base : Heap} {CF : Addr}
theorem sc_start_grid : FnScope ["floor", "item", "row"] ["floor"] (defScope (top 42)) := ⟨rfl, rfl, rfl, by decide +kernel, rfl, by decide +kernel, by decide +kernel⟩
theorem ok_start_grid {f : Addr} {fd : FuncData} (F : FunD K "start_grid" "start_grid" (defArgs (top 42)) (defBody (top 42)) (defScope (top 42)) [] [] f fd) (tx : Tx w K mg CF) : FnOk P w K mg base (L2.CX P w) 1 f fd ["floor"] (sp_start_grid K mg CF) := by
  refine F.ok sc_start_grid (fun vs H Q E h => ?_) (fun cdv A outer s H vs Q E hr h => ?_)
  · first | (obtain ⟨_, rfl, _⟩ := h; rfl) | (obtain ⟨_, _, rfl, _⟩ := h; rfl) | (obtain ⟨_, _, _, rfl, _⟩ := h; rfl) | (obtain ⟨_, _, _, _, rfl, _⟩ := h; rfl) | (obtain ⟨_, _, _, _, _, rfl, _⟩ := h; rfl) | (obtain ⟨_, _, _, _, _, _, rfl, _⟩ := h; rfl) | (obtain ⟨_, _, _, _, _, _, _, rfl, _⟩ := h; rfl) | (obtain ⟨_, _, _, _, _, _, _, _, rfl, _⟩ := h; rfl) | exact spInit_len h rfl | exact spO_len h (by intro ds o hh; first | (obtain ⟨_, rfl, _⟩ := hh; rfl) | (obtain ⟨_, _, rfl, _⟩ := hh; rfl) | (obtain ⟨_, _, _, rfl, _⟩ := hh; rfl) | (obtain ⟨_, _, _, _, rfl, _⟩ := hh; rfl) | (obtain ⟨_, _, _, _, _, rfl, _⟩ := hh; rfl) | (obtain ⟨_, _, _, _, _, _, rfl, _⟩ := hh; rfl))
  refine ⟨_, (pss_one (ps_ret (pe_tuple tx.bt (pe_lc (te := (tB1 (rTupQ K) (tLc (iSeq K (tVar 2)) (gName 1) tYes (tIf (tTest (tOp (rEqD K) (tVar 1) (tC (V.str "#")))) (tC V.non) (tVar 1)) [1]))) (own := [("row", 2)]) (g := (gName 2)) (tt := tYes) rfl sc_start_grid.nd (pi_seq (pe_fld (pv 0) rfl)) (blkOk_by (own := [("row", 2)]) (N := ["floor", "item", "row"]) (sc := defScope (top 42)) (by decide +kernel)) (fun _ _ _ _ _ => (pg_name (i := 2) sc_start_grid.nd rfl (by first | exact Or.inl rfl | exact Or.inr rfl))) (fun _ _ _ _ _ => pts_nil) (fun _ _ _ _ _ => (pe_tuple tx.bt (pe_lc (te := (tIf (tTest (tOp (rEqD K) (tVar 1) (tC (V.str "#")))) (tC V.non) (tVar 1))) (own := [("item", 1)]) (g := (gName 1)) (tt := tYes) rfl sc_start_grid.nd (pi_seq (pv 2)) (blkOk_by (own := [("item", 1)]) (N := ["floor", "item", "row"]) (by kernel_rfl)) (fun _ _ _ _ _ => (pg_name (i := 1) sc_start_grid.nd rfl (by first | exact Or.inl rfl | exact Or.inr rfl))) (fun _ _ _ _ _ => pts_nil) (fun _ _ _ _ _ => (pe_ifExp (pt_cmpR (op_eqD hr.units) (pv 1) (pe_gs tx.WALL_sweeps) (nomark _)) pe_non (pv 1)))))))))), ?_⟩
  try dsimp only [cxOf]
  obtain ⟨ds, o, hi, ⟨F, rfl, rfl⟩, q⟩ := h
  obtain ⟨v1, rfl, h1⟩ := hi.one_inv
  have hm := F.hm
  have wm := F.wm
  refine s_ret K (e_tuple (n_genA (enc := fun y : Nat => T.tup (rowL F.w fun x => (F.it ((y : Int), x)).t)) (xs := List.range F.h) (f := fun y : Nat => T.tup (rowL F.w fun x => oT (F.it ((y : Int), x)).o)) (i_seq (e_rows tx.fl (e_var rfl h1)).sq_im) (by simp; omega) fun i y v H2 hy s2 im => ?_).ev.sq_ls) fun v H2 s2 hv => q v H2 s2 ?_
  · refine ⟨_, fun k z => z, rfl, ?_⟩
    refine e_tuple (n_genA (enc := fun x : Nat => (F.it ((y : Int), (x : Int))).t) (xs := List.range F.w) (f := fun x : Nat => oT (F.it ((y : Int), (x : Int))).o) (i_seq (Ev.sq_im (e_var rfl (show Is K H2 v (.im _) from im)))) (by simp; omega) fun j x u H3 hx s3 im2 => ?_).ev.sq_ls
    refine ⟨_, fun k z => z, rfl, ?_⟩
    refine e_if (b := decide (F.it ((y : Int), (x : Int)) = .wall)) (t_of (e_wall (e_var rfl (show Is K H3 u (.im _) from im2)) e_str)) (fun hb => ?_) (fun hb => ?_)
    · rw [of_decide_eq_true hb]
      exact e_non
    · refine ev_eq (e_var rfl (show Is K H3 u (.im _) from im2)) ?_
      have n := of_decide_eq_false hb
      cases e : F.it ((y : Int), (x : Int)) with
      | wall => exact absurd e n
      | free => rfl
      | num z => rfl
  · have e : F.gridT F.start = .tup ((List.range F.h).map fun y : Nat => T.tup (rowL F.w fun x => oT (F.it ((y : Int), x)).o)) := by
      show F.gridT F.start = matT F.h F.w fun c => oT (F.it c).o
      refine mat_congr fun y x a b c d => ?_
      show oT (F.start (y, x)) = oT (F.it (y, x)).o
      unfold Fl.start Fl.op
      rw [fl_ins.mpr ⟨a, b, c, d⟩]
      cases F.it (y, x) <;> rfl
    rw [e]
    exact hv
theorem sc_least_item : FnScope ["settled", "forward", "cell", "own", "y", "x", "sums", "dy", "dx", "price", "number"] ["settled", "forward", "cell", "own"] (defScope (top 43)) := ⟨rfl, rfl, rfl, by decide +kernel, rfl, by decide +kernel, by decide +kernel⟩
theorem ok_least_item {f : Addr} {fd : FuncData} (F : FunD K "least_item" "least_item" (defArgs (top 43)) (defBody (top 43)) (defScope (top 43)) [] [] f fd) (tx : Tx w K mg CF) : FnOk P w K mg base (L2.CX P w) 1 f fd ["settled", "forward", "cell", "own"] (sp_least_item K mg CF) := by
  refine F.ok sc_least_item (fun vs H Q E h => ?_) (fun cdv A outer s H vs Q E hr h => ?_)
  · first | (obtain ⟨_, rfl, _⟩ := h; rfl) | (obtain ⟨_, _, rfl, _⟩ := h; rfl) | (obtain ⟨_, _, _, rfl, _⟩ := h; rfl) | (obtain ⟨_, _, _, _, rfl, _⟩ := h; rfl) | (obtain ⟨_, _, _, _, _, rfl, _⟩ := h; rfl) | (obtain ⟨_, _, _, _, _, _, rfl, _⟩ := h; rfl) | (obtain ⟨_, _, _, _, _, _, _, rfl, _⟩ := h; rfl) | (obtain ⟨_, _, _, _, _, _, _, _, rfl, _⟩ := h; rfl) | exact spInit_len h rfl | exact spO_len h (by intro ds o hh; first | (obtain ⟨_, rfl, _⟩ := hh; rfl) | (obtain ⟨_, _, rfl, _⟩ := hh; rfl) | (obtain ⟨_, _, _, rfl, _⟩ := hh; rfl) | (obtain ⟨_, _, _, _, rfl, _⟩ := hh; rfl) | (obtain ⟨_, _, _, _, _, rfl, _⟩ := hh; rfl) | (obtain ⟨_, _, _, _, _, _, rfl, _⟩ := hh; rfl))
  refine ⟨_, (pss_cons (ps_asg (pv 2) (pg_tup rfl (pgs_cons (pg_name (i := 4) sc_least_item.nd rfl (by first | exact Or.inl rfl | exact Or.inr rfl)) (pgs_cons (pg_name (i := 5) sc_least_item.nd rfl (by first | exact Or.inl rfl | exact Or.inr rfl)) pgs_nil))))
    (pss_cons (ps_asg (pe_ifExp (pt_cmp (pc_isN (pv 3)) rfl) (pe_lst pa_nil) (pe_lst (pa_cons (pv 3) pa_nil))) (pg_name (i := 6) sc_least_item.nd rfl (by first | exact Or.inl rfl | exact Or.inr rfl)))
    (pss_cons (ps_for (passes_of rfl) rfl (pi_seq (pv 1)) (pg_tup rfl (pgs_cons (pg_name (i := 7) sc_least_item.nd rfl (by first | exact Or.inl rfl | exact Or.inr rfl)) (pgs_cons (pg_name (i := 8) sc_least_item.nd rfl (by first | exact Or.inl rfl | exact Or.inr rfl)) (pgs_cons (pg_name (i := 9) sc_least_item.nd rfl (by first | exact Or.inl rfl | exact Or.inr rfl)) pgs_nil))))
    (pss_cons (ps_asg (pe_dget1 (hu_of hr) (pv 0) (pe_tup (pa_cons (pe_op op_sub (pv 4) (pv 7)) (pa_cons (pe_op op_sub (pv 5) (pv 8)) pa_nil))) ⟨rfl, rfl, rfl, rfl⟩) (pg_name (i := 10) sc_least_item.nd rfl (by first | exact Or.inl rfl | exact Or.inr rfl)))
    (pss_one (ps_if (pt_cmp (pc_notN (pv 10)) rfl)
    (pss_one (ps_expr (pe_bm PySem.F.plainAttrs_list PySem.F.slot_list_append PySem.F.type_list_append mt_append (pv 6) (pa_cons (pe_op op_add (pv 10) (pv 9)) pa_nil))))
    pss_nil))))
    (pss_one (ps_ret (pe_minD tx.bt rfl hr.units (pv 6))))))), ?_⟩
  try dsimp only [cxOf]
  obtain ⟨p, S, fw, c, own, v2, v3, v4, rfl, hp, h2, h3, h4, hl, q⟩ := h
  with_reducible apply s_seq
  refine s_ii K (m := c.1) (n := c.2) (e_var rfl h3) fun H1 s1 => ?_
  with_reducible apply s_seq
  refine s_setN K (ts := (oL own).map T.int) ?_ fun sq vs H2 hsq s2 e2 im2 => ?_
  · cases own with
    | none => exact n_if (b := true) (t_of (e_isN (e_var rfl (s1.is h4)) rfl)) (fun _ => n_lst a_nil rfl (by decide)) (fun e => by cases e)
    | some n => exact n_if (b := false) (t_of (e_isN (e_var rfl (s1.is h4)) rfl)) (fun e => by cases e) (fun _ => n_lst (ts := [.int n]) (a_cons (e_var rfl (s1.is h4)) a_nil) (by rfl) (Nat.le_of_ble_eq_true rfl))
  · have ev := ims_ints im2
    subst ev
    have s02 := s1.trans s2
    with_reducible apply s_seq
    refine for_it0 (enc := moveT) (xs := fw) (H0 := H) K (i0_var rfl (Im.sq h2)) s02 (fun i σ' H' => ∃ (a7 a8 a9 a10 : Option V), σ' = [some (.ref p), some v2, some v3, some v4, some (.int c.1), some (.int c.2), some (.ref sq), a7, a8, a9, a10] ∧ Same H H' ∧ H' sq = some (.lst ((oL own ++ sums S (fw.take i) c).map V.int))) ?_ ?_ ?_ ?_
    · intro H3 s3
      exact ⟨none, none, none, none, rfl, s02.trans s3, by rw [s3 _ _ e2]; simp [sums]⟩
    · rintro i σ' H' hi ⟨_, _, _, _, _, s, _⟩
      exact s.stay
    · rintro i m x σ' H' H'' hm ⟨a7, a8, a9, a10, rfl, s3, e3⟩ s4 im
      refine g_iii im _ ?_
      refine s_seq ?_
      refine s_set K (e_dgetT (S := S) (cl := came c m) rfl (s4 _ _ (s3 _ _ hp)) (a_cons (e_intop (e_vint rfl) (e_vint rfl)) (a_cons (e_intop (e_vint rfl) (e_vint rfl)) a_nil))) fun v H4 s5 hv => ?_
      have s04 := s3.trans (s4.trans s5)
      have e4 := s5 _ _ (s4 _ _ e3)
      have hsq0 : H sq = none := s1.free hsq
      refine s_if K (b := !(oT (look S (came c m))).isN) (t_of (e_notN (e_var rfl hv) rfl)) (fun hb H6 s6 => ?_) (fun hb H6 s6 => ?_)
      · obtain ⟨n, en⟩ : ∃ n, look S (came c m) = some n := by
          cases e : look S (came c m) with
          | none => rw [e] at hb; cases hb
          | some n => exact ⟨n, rfl⟩
        rw [en] at hv
        have hv := (show Is K H4 v (.im (.int n)) from hv).iv
        subst hv
        refine s_app K rfl (s6 _ _ e4) (by simp [sums]; have := List.length_filterMap_le (fun m => (look S (came c m)).map (· + m.2.2)) (fw.take i); have : (oL own).length ≤ 1 := (by cases own <;> simp [oL]); have : (fw.take i).length ≤ fw.length := (by rw [List.length_take]; omega); omega) (e_intop (e_vint rfl) (e_vint rfl)) fun w H7 s7 hw => ?_
        rw [hw.iv]
        refine ⟨_, _, _, _, rfl, same_mut (s04.trans (s6.trans s7)) hsq0, ?_⟩
        rw [upd_same, sums_succ hm, en]
        simp [oL]
      · refine s_next ⟨_, _, _, _, rfl, s04.trans s6, ?_⟩
        have en : look S (came c m) = none := by
          cases e : look S (came c m) with
          | none => rfl
          | some n => rw [e] at hb; cases hb
        rw [s6 _ _ e4, sums_succ hm, en]
        simp [oL]
    · rintro σ' H' ⟨a7, a8, a9, a10, rfl, s3, e3⟩
      rw [List.take_length] at e3
      exact s_ret K (e_minD rfl (.inl (.inl e3))) fun v H4 s4 hv => q v H4 (s3.trans s4) hv
theorem sc_settled_by : FnScope ["floor", "mask", "grid", "order", "forward", "settled", "y", "x"] ["floor", "mask", "grid", "order"] (defScope (top 44)) := ⟨rfl, rfl, rfl, by decide +kernel, rfl, by decide +kernel, by decide +kernel⟩
theorem ok_settled_by {f : Addr} {fd : FuncData} (F : FunD K "settled_by" "settled_by" (defArgs (top 44)) (defBody (top 44)) (defScope (top 44)) [] [] f fd) (tx : Tx w K mg CF) (G_cells_in : Gf P w K mg base "cells_in" 4 (sp_cells_in K mg CF)) (G_least_item : Gf P w K mg base "least_item" 1 (sp_least_item K mg CF)) (G_forward_part : Gf P w K mg base "forward_part" 6 (sp_forward_part K mg CF)) : FnOk P w K mg base (L2.CX P w) 7 f fd ["floor", "mask", "grid", "order"] (sp_settled_by K mg CF) := by
  refine F.ok sc_settled_by (fun vs H Q E h => ?_) (fun cdv A outer s H vs Q E hr h => ?_)
  · first | (obtain ⟨_, rfl, _⟩ := h; rfl) | (obtain ⟨_, _, rfl, _⟩ := h; rfl) | (obtain ⟨_, _, _, rfl, _⟩ := h; rfl) | (obtain ⟨_, _, _, _, rfl, _⟩ := h; rfl) | (obtain ⟨_, _, _, _, _, rfl, _⟩ := h; rfl) | (obtain ⟨_, _, _, _, _, _, rfl, _⟩ := h; rfl) | (obtain ⟨_, _, _, _, _, _, _, rfl, _⟩ := h; rfl) | (obtain ⟨_, _, _, _, _, _, _, _, rfl, _⟩ := h; rfl) | exact spInit_len h rfl | exact spO_len h (by intro ds o hh; first | (obtain ⟨_, rfl, _⟩ := hh; rfl) | (obtain ⟨_, _, rfl, _⟩ := hh; rfl) | (obtain ⟨_, _, _, rfl, _⟩ := hh; rfl) | (obtain ⟨_, _, _, _, rfl, _⟩ := hh; rfl) | (obtain ⟨_, _, _, _, _, rfl, _⟩ := hh; rfl) | (obtain ⟨_, _, _, _, _, _, rfl, _⟩ := hh; rfl))
  refine ⟨_, (pss_cons (ps_asg (pe_g G_forward_part (hr.mono (by decide)) (takes_of rfl rfl rfl rfl) (pa_cons (pv 3) (pa_cons (pv 1) pa_nil))) (pg_name (i := 4) sc_settled_by.nd rfl (by first | exact Or.inl rfl | exact Or.inr rfl)))
    (pss_cons (ps_asg pe_dnewT (pg_name (i := 5) sc_settled_by.nd rfl (by first | exact Or.inl rfl | exact Or.inr rfl)))
    (pss_cons (ps_for (passes_of rfl) rfl (pi_seq (pe_g G_cells_in (hr.mono (by decide)) (takes_of rfl rfl rfl rfl) (pa_cons (pv 3) (pa_cons (pe_fld (pv 0) rfl) (pa_cons (pe_fld (pv 0) rfl) pa_nil))))) (pg_tup rfl (pgs_cons (pg_name (i := 6) sc_settled_by.nd rfl (by first | exact Or.inl rfl | exact Or.inr rfl)) (pgs_cons (pg_name (i := 7) sc_settled_by.nd rfl (by first | exact Or.inl rfl | exact Or.inr rfl)) pgs_nil)))
    (pss_one (ps_if (pt_cmpR (op_neD hr.units) (pe_ix ix_seq (pe_ix ix_seq (pe_fld (pv 0) rfl) (pv 6) (fun _ _ => rfl)) (pv 7) (fun _ _ => rfl)) (pe_gs tx.WALL_sweeps) (nomark _))
    (pss_one (ps_dput (hu_of hr) (pv 5) (pe_tup (pa_cons (pv 6) (pa_cons (pv 7) pa_nil))) (pe_g G_least_item (hr.mono (by decide)) (takes_of rfl rfl rfl rfl) (pa_cons (pv 5) (pa_cons (pv 4) (pa_cons (pe_tup (pa_cons (pv 6) (pa_cons (pv 7) pa_nil))) (pa_cons (pe_ix ix_seq (pe_ix ix_seq (pv 2) (pv 6) (fun _ _ => rfl)) (pv 7) (fun _ _ => rfl)) pa_nil))))) rfl))
    pss_nil)))
    (pss_one (ps_ret (pv 5)))))), ?_⟩
  try dsimp only [cxOf]
  obtain ⟨F, mask, a, g, v1, v2, v3, v4, rfl, h1, h2, h3, h4, hl, q⟩ := h
  rw [h4.sv]
  have hm := F.hm
  have wm := F.wm
  with_reducible apply s_seq
  refine s_set K (e_call (d := .im (maskT (a.part mask))) (a_cons (e_vstr rfl) (a_cons (e_var rfl h2) a_nil)) ⟨a, mask, rfl, hl, rfl⟩) fun v5 H1 s1 h5 => ?_
  have hl2 : (a.part mask).length ≤ 1000 := Nat.le_trans (List.length_filter_le _ _) hl
  with_reducible apply s_seq
  refine s_newT fun p hp => ?_
  with_reducible apply s_seq
  have s2 : Same H1 (upd H1 p (.dT [])) := same_new hp
  have hp0 : H p = none := s1.free hp
  have s02 := s1.trans s2
  refine for_it (enc := cellT) (xs := a.cells F.h F.w) K (i_seq (Ev.sq_im (e_call (a_cons (e_vstr rfl) (a_cons (e_fh tx.fl (e_var rfl (s02.is h1))) (a_cons (e_fw tx.fl (e_var rfl (s02.is h1))) a_nil))) ⟨a, F.h, F.w, rfl, by omega, by omega, rfl⟩))) fun H3 s3 => ?_
  have e3 : H3 p = some (.dT []) := s3 _ _ upd_same
  have s03 := s02.trans s3
  refine ⟨fun i σ' H' => ∃ a6 a7, σ' = [some v1, some v2, some v3, some (.str a.str), some v5, some (.ref p), a6, a7] ∧ Sm p H3 H' ∧ TabAt H' p (sweepS F.op (a.part mask) g ((a.cells F.h F.w).take i) []), ⟨none, none, rfl, Sm.refl _ _, e3⟩, ?_, ?_, ?_⟩
  · rintro i σ' H' hi ⟨_, _, _, m, _⟩
    exact m.stayT e3
  · rintro i c x σ' H4 H5 hc ⟨a6, a7, rfl, m4, t4⟩ s5 im
    refine g_ii im _ ?_
    obtain ⟨y0, y1, x0, x1⟩ := mem_cells.mp (List.mem_of_getElem? hc)
    have s05 : Same H H5 := (same_sm s03 hp0 m4).trans s5
    have s15 : Same H1 H5 := (same_sm (s2.trans s3) hp m4).trans s5
    have t5 : TabAt H5 p (sweepS F.op (a.part mask) g ((a.cells F.h F.w).take i) []) := s5 _ _ t4
    have ins : F.ins c = true := fl_ins.mpr ⟨y0, y1, x0, x1⟩
    have opc : F.op c = !decide (F.it c = .wall) := by unfold Fl.op; rw [ins]; rfl
    refine s_if K (b := !decide (F.it c = .wall)) (t_of (e_noWall (e_mat (f := fun c => (F.it c).t) (e_rows tx.fl (e_var rfl (s05.is h1))) (e_vint rfl) (e_vint rfl) y0 y1 x0 x1) e_str)) (fun hb H6 s6 => ?_) (fun hb H6 s6 => ?_)
    · have t6 := s6 _ _ t5
      refine s_dputT (S := sweepS F.op (a.part mask) g ((a.cells F.h F.w).take i) []) (cl := c) (o := least (sweepS F.op (a.part mask) g ((a.cells F.h F.w).take i) []) (a.part mask) c (g c)) K rfl t6 ?_ (a_cons (e_vint rfl) (a_cons (e_vint rfl) a_nil)) ?_ ?_ ?_
      · intro H7 s7 Q7 q7
        have s07 := s05.trans (s6.trans s7)
        refine ⟨_, rfl, _, rfl, e_tup (K := K) (ts := [.int c.1, .int c.2]) (a_cons (e_vint rfl) (a_cons (e_vint rfl) a_nil)) (by rfl) (Nat.le_of_ble_eq_true rfl) H7 (Same.refl _) _ fun w3 H8 s8 i3 => ?_⟩
        refine e_mat (K := K) (f := fun c => oT (g c)) (h := F.h) (w := F.w) (e_var rfl (s07.is h3)) (e_vint rfl) (e_vint rfl) y0 y1 x0 x1 H8 s8 _ fun w4 H9 s9 i4 => ?_
        exact ⟨p, _, a.part mask, c, g c, v5, w3, w4, rfl, s9 _ _ (s8 _ _ (s7 _ _ t6)), (s15.trans (s6.trans (s7.trans (s8.trans s9)))).is h5, s9.is i3, i4, hl2, fun v H' s' hv => q7 v H' (s8.trans (s9.trans s')) hv⟩
      · refine lookup_none fun mm => ?_
        rcases sweepS_keys mm with z | z
        · cases z
        · exact nodup_take nodup_cells hc z.1
      · have := sweepS_len (op := F.op) (fw := a.part mask) (g := g) (xs := (a.cells F.h F.w).take i) (S := [])
        have h2 : ((a.cells F.h F.w).take i).length ≤ (a.cells F.h F.w).length := by rw [List.length_take]; omega
        rw [len_cells] at h2
        have : F.h * F.w ≤ 14 * 14 := Nat.mul_le_mul hm wm
        simp at *
        omega
      · intro H7 s7
        refine ⟨_, _, rfl, ?_, ?_⟩
        · exact fun b o n e => by rw [upd_ne n]; exact s7 _ _ (s6 _ _ (s5 _ _ (m4 b o n e)))
        · show upd H7 p _ p = _
          rw [upd_same, sweepS_succ hc, opc, hb]
          rfl
    · refine s_next ⟨_, _, rfl, fun b o n e => s6 _ _ (s5 _ _ (m4 b o n e)), ?_⟩
      rw [sweepS_succ hc, opc, hb]
      exact s6 _ _ t5
  · rintro σ' H4 ⟨a6, a7, rfl, m4, t4⟩
    rw [List.take_length] at t4
    exact ⟨_, rfl, q p H4 (same_sm s03 hp0 m4) hp0 t4⟩
end
end TW

set_option Elab.async false
set_option linter.all false
set_option maxRecDepth 100000
set_option maxHeartbeats 4000000
namespace TW
open PySem PySem.Spec PyProof.Rows L2
local macro_rules | `(tactic| walk_at "ev") => `(tactic| repeat' (first
  | with_reducible exact e_int | with_reducible exact e_str | with_reducible exact e_bl | with_reducible exact e_non
  | exact e_vint rfl | exact e_vstr rfl | exact e_vbl rfl | exact e_vnon rfl | exact e_var rfl (by assumption)
  | exact e_sqv rfl (by assumption) | exact e_dkI rfl (by assumption) rfl
  | with_reducible apply e_call | with_reducible apply e_intc | with_reducible apply e_abs
  | with_reducible apply e_intop | with_reducible apply e_cmp | with_reducible apply e_intopC
  | with_reducible apply e_len | with_reducible apply e_pow | with_reducible apply e_min2 | with_reducible apply e_max2
  | with_reducible exact a_nil | with_reducible apply a_cons
  | with_reducible apply t_ofB | with_reducible apply t_of
  | (with_reducible apply mulR; omega) | (with_reducible apply mulL; omega) | (with_reducible show (_ < _); omega)))
section
variable {P : Program} {w : World} {K : PySem.W.Frag} {mg : Str → Option Value} {base : Heap} {CF : Addr}
theorem sc_sweep_once : FnScope ["floor", "mask", "grid", "order", "settled", "x", "y"] ["floor", "mask", "grid", "order"] (defScope (top 45)) := ⟨rfl, rfl, rfl, by decide +kernel, rfl, by decide +kernel, by decide +kernel⟩
theorem ok_sweep_once {f : Addr} {fd : FuncData} (F : FunD K "sweep_once" "sweep_once" (defArgs (top 45)) (defBody (top 45)) (defScope (top 45)) [] [("order", .str "rdr")] f fd) (tx : Tx w K mg CF) (G_settled_by : Gf P w K mg base "settled_by" 7 (sp_settled_by K mg CF)) : FnOk P w K mg base (L2.CX P w) 8 f fd ["floor", "mask", "grid", "order"] (sp_sweep_once K mg CF) := by
  refine F.ok sc_sweep_once (fun vs H Q E h => ?_) (fun cdv A outer s H vs Q E hr h => ?_)
  · first | (obtain ⟨_, rfl, _⟩ := h; rfl) | (obtain ⟨_, _, rfl, _⟩ := h; rfl) | (obtain ⟨_, _, _, rfl, _⟩ := h; rfl) | (obtain ⟨_, _, _, _, rfl, _⟩ := h; rfl) | (obtain ⟨_, _, _, _, _, rfl, _⟩ := h; rfl) | (obtain ⟨_, _, _, _, _, _, rfl, _⟩ := h; rfl) | (obtain ⟨_, _, _, _, _, _, _, rfl, _⟩ := h; rfl) | (obtain ⟨_, _, _, _, _, _, _, _, rfl, _⟩ := h; rfl) | exact spInit_len h rfl | exact spO_len h (by intro ds o hh; first | (obtain ⟨_, rfl, _⟩ := hh; rfl) | (obtain ⟨_, _, rfl, _⟩ := hh; rfl) | (obtain ⟨_, _, _, rfl, _⟩ := hh; rfl) | (obtain ⟨_, _, _, _, rfl, _⟩ := hh; rfl) | (obtain ⟨_, _, _, _, _, rfl, _⟩ := hh; rfl) | (obtain ⟨_, _, _, _, _, _, rfl, _⟩ := hh; rfl))
  refine ⟨_, (pss_cons (ps_asg (pe_g G_settled_by (hr.mono (by decide)) (takes_of rfl rfl rfl rfl) (pa_cons (pv 0) (pa_cons (pv 1) (pa_cons (pv 2) (pa_cons (pv 3) pa_nil))))) (pg_name (i := 4) sc_sweep_once.nd rfl (by first | exact Or.inl rfl | exact Or.inr rfl)))
    (pss_one (ps_ret (pe_tuple tx.bt (pe_lc (te := (tB1 (rTupQ K) (tLc (iRng1 (tCons (tFld K (tVar 0) "w") tNil)) (gName 5) tYes (tDGet1 (tVar 4) (tTup (tCons (tVar 6) (tCons (tVar 5) tNil)))) [5]))) (own := [("y", 6)]) (g := (gName 6)) (tt := tYes) rfl sc_sweep_once.nd (pi_range1 rfl tx.bt.range (pa_cons (pe_fld (pv 0) rfl) pa_nil)) (blkOk_by (own := [("y", 6)]) (N := ["floor", "mask", "grid", "order", "settled", "x", "y"]) (sc := defScope (top 45)) (by decide +kernel)) (fun _ _ _ _ _ => (pg_name (i := 6) sc_sweep_once.nd rfl (by first | exact Or.inl rfl | exact Or.inr rfl))) (fun _ _ _ _ _ => pts_nil) (fun _ _ _ _ _ => (pe_tuple tx.bt (pe_lc (te := (tDGet1 (tVar 4) (tTup (tCons (tVar 6) (tCons (tVar 5) tNil))))) (own := [("x", 5)]) (g := (gName 5)) (tt := tYes) rfl sc_sweep_once.nd (pi_range1 rfl tx.bt.range (pa_cons (pe_fld (pv 0) rfl) pa_nil)) (blkOk_by (own := [("x", 5)]) (N := ["floor", "mask", "grid", "order", "settled", "x", "y"]) (by kernel_rfl)) (fun _ _ _ _ _ => (pg_name (i := 5) sc_sweep_once.nd rfl (by first | exact Or.inl rfl | exact Or.inr rfl))) (fun _ _ _ _ _ => pts_nil) (fun _ _ _ _ _ => (pe_dget1 (hu_of hr) (pv 4) (pe_tup (pa_cons (pv 6) (pa_cons (pv 5) pa_nil))) ⟨rfl, rfl, rfl, rfl⟩)))))))))), ?_⟩
  try dsimp only [cxOf]
  obtain ⟨ds, o, hi, ⟨F, mask, a, g, rfl, hl, rfl⟩, q⟩ := h
  obtain ⟨v1, v2, v3, v4, rfl, h1, h2, h3, h4⟩ := hi.four_inv
  rw [h4.sv]
  have hm := F.hm
  have wm := F.wm
  with_reducible apply s_seq
  refine ⟨_, rfl, _, rfl, _, rfl, _, rfl, F, mask, a, g, v1, v2, v3, .str a.str, rfl, h1, h2, h3, Im.str _, hl, fun p H1 s1 hp t1 => ?_⟩
  refine s_ret K (e_tuple (n_genA (enc := fun y : Nat => T.int (y : Int)) (xs := List.range F.h) (f := fun y : Nat => T.tup (rowL F.w fun x => oT (look (F.sweepT mask a g) ((y : Int), x)))) (i_rng1 (j := (F.h : Int)) (a_cons (e_fh tx.fl (e_var rfl (s1.is h1))) a_nil) (by omega)) (by simp; omega) fun i y v H2 hy s2 im => ?_).ev.sq_ls) fun v H2 s2 hv => q v H2 (s1.trans s2) hv
  rw [im.int_inv]
  refine ⟨_, fun k z => z, rfl, ?_⟩
  refine e_tuple (n_genA (enc := fun x : Nat => T.int (x : Int)) (xs := List.range F.w) (f := fun x : Nat => oT (look (F.sweepT mask a g) ((y : Int), (x : Int)))) (i_rng1 (j := (F.w : Int)) (a_cons (e_fw tx.fl (e_var rfl ((s1.trans s2).is h1))) a_nil) (by omega)) (by simp; omega) fun j x u H3 hx s3 im2 => ?_).ev.sq_ls
  rw [im2.int_inv]
  exact ⟨_, fun k z => z, rfl, e_dgetT (cl := ((y : Int), (x : Int))) rfl (s3 _ _ (s2 _ _ t1)) (a_cons (e_vint rfl) (a_cons (e_vint rfl) a_nil))⟩
theorem sc_changed_cells : FnScope ["one", "two", "changed", "y", "row", "x", "item"] ["one", "two"] (defScope (top 46)) := ⟨rfl, rfl, rfl, by decide +kernel, rfl, by decide +kernel, by decide +kernel⟩
theorem ok_changed_cells {f : Addr} {fd : FuncData} (F : FunD K "changed_cells" "changed_cells" (defArgs (top 46)) (defBody (top 46)) (defScope (top 46)) [] [] f fd) (tx : Tx w K mg CF) : FnOk P w K mg base (L2.CX P w) 1 f fd ["one", "two"] (sp_changed_cells K mg CF) := by
  refine F.ok sc_changed_cells (fun vs H Q E h => ?_) (fun cdv A outer s H vs Q E hr h => ?_)
  · first | (obtain ⟨_, rfl, _⟩ := h; rfl) | (obtain ⟨_, _, rfl, _⟩ := h; rfl) | (obtain ⟨_, _, _, rfl, _⟩ := h; rfl) | (obtain ⟨_, _, _, _, rfl, _⟩ := h; rfl) | (obtain ⟨_, _, _, _, _, rfl, _⟩ := h; rfl) | (obtain ⟨_, _, _, _, _, _, rfl, _⟩ := h; rfl) | (obtain ⟨_, _, _, _, _, _, _, rfl, _⟩ := h; rfl) | (obtain ⟨_, _, _, _, _, _, _, _, rfl, _⟩ := h; rfl) | exact spInit_len h rfl | exact spO_len h (by intro ds o hh; first | (obtain ⟨_, rfl, _⟩ := hh; rfl) | (obtain ⟨_, _, rfl, _⟩ := hh; rfl) | (obtain ⟨_, _, _, rfl, _⟩ := hh; rfl) | (obtain ⟨_, _, _, _, rfl, _⟩ := hh; rfl) | (obtain ⟨_, _, _, _, _, rfl, _⟩ := hh; rfl) | (obtain ⟨_, _, _, _, _, _, rfl, _⟩ := hh; rfl))
  refine ⟨_, (pss_cons (ps_asg (pe_lst pa_nil) (pg_name (i := 2) sc_changed_cells.nd rfl (by first | exact Or.inl rfl | exact Or.inr rfl)))
    (pss_cons (ps_for (passes_of rfl) rfl (pi_enumQ tx.bt (pv 0)) (pg_tup rfl (pgs_cons (pg_name (i := 3) sc_changed_cells.nd rfl (by first | exact Or.inl rfl | exact Or.inr rfl)) (pgs_cons (pg_name (i := 4) sc_changed_cells.nd rfl (by first | exact Or.inl rfl | exact Or.inr rfl)) pgs_nil)))
    (pss_one (ps_for (passes_of rfl) rfl (pi_enumQ tx.bt (pv 4)) (pg_tup rfl (pgs_cons (pg_name (i := 5) sc_changed_cells.nd rfl (by first | exact Or.inl rfl | exact Or.inr rfl)) (pgs_cons (pg_name (i := 6) sc_changed_cells.nd rfl (by first | exact Or.inl rfl | exact Or.inr rfl)) pgs_nil)))
    (pss_one (ps_if (pt_cmpR (op_neD hr.units) (pv 6) (pe_ix ix_seq (pe_ix ix_seq (pv 1) (pv 3) (fun _ _ => rfl)) (pv 5) (fun _ _ => rfl)) (nomark _))
    (pss_one (ps_expr (pe_bm PySem.F.plainAttrs_list PySem.F.slot_list_append PySem.F.type_list_append mt_append (pv 2) (pa_cons (pe_tup (pa_cons (pv 3) (pa_cons (pv 5) pa_nil))) pa_nil))))
    pss_nil)))))
    (pss_one (ps_ret (pe_tuple tx.bt (pv 2)))))), ?_⟩
  try dsimp only [cxOf]
  obtain ⟨ds, o, hi, ⟨F, a, b, rfl, rfl⟩, q⟩ := h
  obtain ⟨v1, v2, rfl, h1, h2⟩ := hi.two_inv
  have hm := F.hm
  have wm := F.wm
  with_reducible apply s_seq
  refine s_nil fun p H1 hp s1 e1 => ?_
  with_reducible apply s_seq
  refine for_it0 (enc := fun y : Nat => .tup [.int (y : Int), .tup (rowL F.w fun x => oT (a ((y : Int), x)))]) (xs := List.range F.h) (H0 := H) K (by rw [← enum_rows (f := fun c => oT (a c))]; exact i0_enum rfl h1) s1 (fun i σ' H' => ∃ a3 a4 a5 a6, σ' = [some v1, some v2, some (.ref p), a3, a4, a5, a6] ∧ Same H H' ∧
    ∃ vs, H' p = some (.lst vs) ∧ vs.length ≤ 300 * i ∧ Ims K H' vs ((((List.range i).flatMap fun y : Nat => (List.range F.w).map fun x : Nat => ((y : Int), (x : Int))).filter fun c => !decide (a c = b c)).map cellT)) ?_ ?_ ?_ ?_
  · intro H2 s2
    exact ⟨none, none, none, none, rfl, s1.trans s2, [], s2 _ _ e1, Nat.le_refl _, .nil⟩
  · rintro i σ' H' hi ⟨_, _, _, _, _, s, _⟩
    exact s.stay
  · rintro i y x σ' H2 H3 hy ⟨a3, a4, a5, a6, rfl, s2, vs, e2, l2, im2⟩ s3 im
    obtain ⟨w1, w2, i1, i2, gp⟩ := g_pair im
    rw [i1.int_inv] at gp
    refine gp _ ?_
    obtain ⟨hy1, rfl⟩ : i < F.h ∧ i = y := by
      have z := (List.getElem?_eq_some_iff.mp hy).1
      rw [List.length_range] at z
      rw [List.getElem?_range z] at hy
      exact ⟨z, Option.some.inj hy⟩
    have s03 := s2.trans s3
    have e3 := s3 _ _ e2
    have im3 := L2.Same.ims s3 im2
    refine for_it0 (enc := fun x : Nat => .tup [.int (x : Int), oT (a ((i : Int), (x : Int)))]) (xs := List.range F.w) (H0 := del H3 p) K (by rw [← enum_row (f := fun x => oT (a ((i : Int), x)))]; exact i0_enum rfl (Im.mono (keep_del e3) i2)) (same_del (Sm.refl _ _)) (fun j σ' H' => ∃ a5 a6, σ' = [some v1, some v2, some (.ref p), some (.int (i : Int)), some w2, a5, a6] ∧ Sm p H3 H' ∧
      ∃ vs, H' p = some (.lst vs) ∧ vs.length ≤ 300 * i + j ∧ Ims K H' vs ((((List.range i).flatMap fun y : Nat => (List.range F.w).map fun x : Nat => ((y : Int), (x : Int))).filter (fun c => !decide (a c = b c)) ++ ((List.range j).map fun x : Nat => ((i : Int), (x : Int))).filter (fun c => !decide (a c = b c))).map cellT)) ?_ ?_ ?_ ?_
    · intro H4 s4
      exact ⟨_, _, rfl, s4.sm, vs, s4 _ _ e3, l2, by simpa using L2.Same.ims s4 im3⟩
    · rintro j σ' H' hj ⟨_, _, _, m, _⟩
      exact (same_del m).stay
    · rintro j x x' σ' H4 H5 hx ⟨a5, a6, rfl, m4, vs, e4, l4, im4⟩ s5 im5
      obtain ⟨u1, u2, i3, i4, gp⟩ := g_pair im5
      rw [i3.int_inv] at gp
      refine gp _ ?_
      obtain ⟨hx1, rfl⟩ : j < F.w ∧ j = x := by
        have z := (List.getElem?_eq_some_iff.mp hx).1
        rw [List.length_range] at z
        rw [List.getElem?_range z] at hx
        exact ⟨z, Option.some.inj hx⟩
      have m5 : Sm p H3 H5 := m4.trans s5.sm
      have s05 : Same H H5 := same_sm s03 hp m5
      have e5 := s5 _ _ e4
      have st : (List.range (j + 1)).map (fun x : Nat => ((i : Int), (x : Int))) = (List.range j).map (fun x : Nat => ((i : Int), (x : Int))) ++ [((i : Int), (j : Int))] := by rw [List.range_succ, List.map_append]; rfl
      refine s_if K (b := !decide (a ((i : Int), (j : Int)) = b ((i : Int), (j : Int)))) (t_of (e_neO (e_var rfl (show Is K H5 u2 (.im _) from i4)) (e_mat (f := fun c => oT (b c)) (h := F.h) (w := F.w) (e_var rfl (s05.is h2)) (e_vint rfl) (e_vint rfl) (by omega) (by omega) (by omega) (by omega)))) (fun hb H6 s6 => ?_) (fun hb H6 s6 => ?_)
      · refine s_app K (d := .im (cellT ((i : Int), (j : Int)))) rfl (s6 _ _ e5) (by omega) (e_tup (ts := [.int (i : Int), .int (j : Int)]) (a_cons (e_vint rfl) (a_cons (e_vint rfl) a_nil)) (by rfl) (Nat.le_of_ble_eq_true rfl)) fun w H7 s7 hw => ?_
        refine ⟨_, _, rfl, (m5.trans (s6.trans s7).sm).upd, vs ++ [w], upd_same, by simp; omega, ?_⟩
        have k1 : Keep H7 (upd H7 p (.lst (vs ++ [w]))) := keep_lst (s7 _ _ (s6 _ _ e5))
        have z := ((L2.Same.ims (s5.trans (s6.trans s7)) im4).mono k1).snoc (Im.mono k1 hw)
        rw [st, List.filter_append, List.filter_cons_of_pos (by exact hb), List.filter_nil, ← List.append_assoc, List.map_append]
        exact z
      · refine s_next ⟨_, _, rfl, m5.trans s6.sm, vs, s6 _ _ e5, by omega, ?_⟩
        rw [st, List.filter_append, List.filter_cons_of_neg (by rw [hb]; exact Bool.false_ne_true), List.filter_nil, List.append_nil]
        exact L2.Same.ims (s5.trans s6) im4
    · rintro σ' H4 ⟨a5, a6, rfl, m4, vs, e4, l4, im4⟩
      rw [List.length_range] at im4 l4
      refine ⟨_, _, _, _, rfl, same_sm s03 hp m4, vs, e4, by omega, ?_⟩
      rw [List.range_succ, List.flatMap_append, List.filter_append]
      simpa using im4
  · rintro σ' H2 ⟨a3, a4, a5, a6, rfl, s2, vs, e2, l2, im2⟩
    rw [List.length_range] at im2
    exact s_ret K (e_tuple (e_var (d := .sq _) rfl ⟨p, vs, rfl, .inl (.inl (.inl e2)), im2⟩)) fun v H3 s3 hv => q v H3 (s2.trans s3) hv
end
end TW

set_option Elab.async false
set_option linter.all false
set_option maxRecDepth 100000
set_option maxHeartbeats 4000000
namespace TW
open PySem PySem.Spec PyProof.Rows L2
local macro_rules | `(tactic| walk_at "ev") => `(tactic| repeat' (first
  | with_reducible exact e_int | with_reducible exact e_str | with_reducible exact e_bl | with_reducible exact e_non
  | exact e_vint rfl | exact e_vstr rfl | exact e_vbl rfl | exact e_vnon rfl | exact e_var rfl (by assumption)
  | exact e_sqv rfl (by assumption) | exact e_dkI rfl (by assumption) rfl
  | with_reducible apply e_call | with_reducible apply e_intc | with_reducible apply e_abs
  | with_reducible apply e_intop | with_reducible apply e_cmp | with_reducible apply e_intopC
  | with_reducible apply e_len | with_reducible apply e_pow | with_reducible apply e_min2 | with_reducible apply e_max2
  | with_reducible exact a_nil | with_reducible apply a_cons
  | with_reducible apply t_ofB | with_reducible apply t_of
  | (with_reducible apply mulR; omega) | (with_reducible apply mulL; omega) | (with_reducible show (_ < _); omega)))
section
variable {P : Program} {w : World} {K : PySem.W.Frag} {mg : Str → Option Value} {base : Heap} {CF : Addr}
theorem sc_need_word : FnScope ["word", "order"] ["word"] (defScope (top 50)) := ⟨rfl, rfl, rfl, by decide +kernel, rfl, by decide +kernel, by decide +kernel⟩
theorem ok_need_word {f : Addr} {fd : FuncData} (F : FunD K "need_word" "need_word" (defArgs (top 50)) (defBody (top 50)) (defScope (top 50)) [] [] f fd) (tx : Tx w K mg CF) (G_need_order : Gf P w K mg base "need_order" 3 (sp_need_order K mg CF)) (X_TooMany : Xf P w K mg base "TooMany" 1 ["what", "limit"]) : FnOk P w K mg base (L2.CX P w) 4 f fd ["word"] (sp_need_word K mg CF) := by
  refine F.ok sc_need_word (fun vs H Q E h => ?_) (fun cdv A outer s H vs Q E hr h => ?_)
  · first | (obtain ⟨_, rfl, _⟩ := h; rfl) | (obtain ⟨_, _, rfl, _⟩ := h; rfl) | (obtain ⟨_, _, _, rfl, _⟩ := h; rfl) | (obtain ⟨_, _, _, _, rfl, _⟩ := h; rfl) | (obtain ⟨_, _, _, _, _, rfl, _⟩ := h; rfl) | (obtain ⟨_, _, _, _, _, _, rfl, _⟩ := h; rfl) | (obtain ⟨_, _, _, _, _, _, _, rfl, _⟩ := h; rfl) | (obtain ⟨_, _, _, _, _, _, _, _, rfl, _⟩ := h; rfl) | exact spInit_len h rfl | exact spO_len h (by intro ds o hh; first | (obtain ⟨_, rfl, _⟩ := hh; rfl) | (obtain ⟨_, _, rfl, _⟩ := hh; rfl) | (obtain ⟨_, _, _, rfl, _⟩ := hh; rfl) | (obtain ⟨_, _, _, _, rfl, _⟩ := hh; rfl) | (obtain ⟨_, _, _, _, _, rfl, _⟩ := hh; rfl) | (obtain ⟨_, _, _, _, _, _, rfl, _⟩ := hh; rfl))
  refine ⟨_, (pss_cons (ps_for (passes_of rfl) rfl (pi_seq (pv 0)) (pg_name (i := 1) sc_need_word.nd rfl (by first | exact Or.inl rfl | exact Or.inr rfl))
    (pss_one (ps_expr (pe_g G_need_order (hr.mono (by decide)) (takes_of rfl rfl rfl rfl) (pa_cons (pv 1) pa_nil)))))
    (pss_one (ps_if (pt_cmpR op_gt (pe_len tx.bt (pv 0)) (pe_gi tx.MOST_WORD) (nomark _))
    (pss_one (ps_rz X_TooMany (hr.mono (by decide)) rfl (takes_of rfl rfl rfl rfl) (pa_cons pe_str (pa_cons (pe_gi tx.MOST_WORD) pa_nil))))
    pss_nil))), ?_⟩
  try dsimp only [cxOf]
  obtain ⟨ds, o, hi, ⟨ws, rfl, hl, rfl⟩, q⟩ := h
  obtain ⟨v1, rfl, h1⟩ := hi.one_inv
  with_reducible apply s_seq
  refine for_it0 (enc := T.str) (xs := ws) (H0 := H) K (i0_var rfl h1) (Same.refl H) (fun i σ' H' => ∃ a1, σ' = [some v1, a1] ∧ Same H H' ∧ ∀ x ∈ ws.take i, x ∈ orderStrs) ?_ ?_ ?_ ?_
  · exact fun H1 s1 => ⟨none, rfl, s1, fun x h => by simp at h⟩
  · rintro i σ' H' hi ⟨_, _, s, _⟩
    exact s.stay
  · rintro i x v σ' H1 H2 hx ⟨a1, rfl, s1, hw⟩ s2 im
    rw [im.str_inv]
    refine s_gd ?_
    have s12 := s1.trans s2
    refine s_dropC (a_cons (e_vstr rfl) a_nil) ⟨x, rfl, rfl⟩ (fun d e H3 s3 => ⟨_, rfl, s12.trans s3, ?_⟩) (fun x' fs e H3 s3 => ?_)
    · by_cases m : x ∈ orderStrs
      · intro y hy
        rw [List.take_add_one, hx] at hy
        rcases List.mem_append.mp hy with z | z
        · exact hw y z
        · have : y = x := by simpa using z
          rw [this]
          exact m
      · rw [if_neg m] at e
        cases e
    · by_cases m : x ∈ orderStrs
      · rw [if_pos m] at e
        cases e
      · rw [if_neg m]
        have e2 : needW ws = .ex "BadOrder" [("order", .str x)] := by
          have z : ws.find? (fun x => !decide (x ∈ orderStrs)) = some x := by
            rw [List.find?_eq_some_iff_getElem]
            obtain ⟨hlt, he⟩ := List.getElem?_eq_some_iff.mp hx
            refine ⟨by simpa using m, i, hlt, he, fun j hj => ?_⟩
            have : ws[j] ∈ ws.take i := by
              rw [List.mem_iff_getElem]
              exact ⟨j, by rw [List.length_take]; omega, by rw [List.getElem_take]⟩
            simpa using hw _ this
          unfold needW
          rw [z]
        rw [e2] at q
        exact Out.err (Out.mono (s12.trans s3) q)
  · rintro σ' H1 ⟨a1, rfl, s1, hw⟩
    rw [List.take_length] at hw
    have e2 : needW ws = if 36 < ws.length then .ex "TooMany" [("limit", .int 36), ("what", .str "word")] else .ok (.im .non) := by
      have z : ws.find? (fun x => !decide (x ∈ orderStrs)) = none := by
        rw [List.find?_eq_none]
        intro x hx
        simpa using hw x hx
      unfold needW
      rw [z]
    rw [e2] at q
    refine s_if K (b := decide (36 < ((ws.map T.str).length : Int))) (t_of (e_cmp (f := fun i j => decide (j < i)) (e_len (e_var rfl (s1.is h1))) e_int)) (fun hb H2 s2 => ?_) (fun hb H2 s2 => ?_)
    · have hn := of_decide_eq_true hb
      rw [List.length_map] at hn
      rw [if_pos (by omega)] at q
      exact s_raise (ts := [.str "word", .int 36]) X_TooMany (by decide) (by decide) (a_cons e_str (a_cons e_int a_nil)) rfl rfl (by decide) (s1.trans s2) q
    · have hn := of_decide_eq_false hb
      rw [List.length_map] at hn
      rw [if_neg (by omega)] at q
      exact q .non H2 (s1.trans s2) Im.non
theorem sc_settle : FnScope ["floor", "mask", "order", "grid", "changed", "turn", "swept"] ["floor", "mask", "order"] (defScope (top 51)) := ⟨rfl, rfl, rfl, by decide +kernel, rfl, by decide +kernel, by decide +kernel⟩
theorem ok_settle {f : Addr} {fd : FuncData} (F : FunD K "settle" "settle" (defArgs (top 51)) (defBody (top 51)) (defScope (top 51)) [] [("order", .str "rdr")] f fd) (tx : Tx w K mg CF) (G_opposite : Gf P w K mg base "opposite" 4 (sp_opposite K mg CF)) (G_changed_cells : Gf P w K mg base "changed_cells" 1 (sp_changed_cells K mg CF)) (G_sweep_once : Gk P w K mg base "sweep_once" 8 3 (sp_sweep_once K mg CF)) (G_start_grid : Gf P w K mg base "start_grid" 1 (sp_start_grid K mg CF)) (G_need_order : Gf P w K mg base "need_order" 3 (sp_need_order K mg CF)) : FnOk P w K mg base (L2.CX P w) 9 f fd ["floor", "mask", "order"] (sp_settle K mg CF) := by
  refine F.ok sc_settle (fun vs H Q E h => ?_) (fun cdv A outer s H vs Q E hr h => ?_)
  · first | (obtain ⟨_, rfl, _⟩ := h; rfl) | (obtain ⟨_, _, rfl, _⟩ := h; rfl) | (obtain ⟨_, _, _, rfl, _⟩ := h; rfl) | (obtain ⟨_, _, _, _, rfl, _⟩ := h; rfl) | (obtain ⟨_, _, _, _, _, rfl, _⟩ := h; rfl) | (obtain ⟨_, _, _, _, _, _, rfl, _⟩ := h; rfl) | (obtain ⟨_, _, _, _, _, _, _, rfl, _⟩ := h; rfl) | (obtain ⟨_, _, _, _, _, _, _, _, rfl, _⟩ := h; rfl) | exact spInit_len h rfl | exact spO_len h (by intro ds o hh; first | (obtain ⟨_, rfl, _⟩ := hh; rfl) | (obtain ⟨_, _, rfl, _⟩ := hh; rfl) | (obtain ⟨_, _, _, rfl, _⟩ := hh; rfl) | (obtain ⟨_, _, _, _, rfl, _⟩ := hh; rfl) | (obtain ⟨_, _, _, _, _, rfl, _⟩ := hh; rfl) | (obtain ⟨_, _, _, _, _, _, rfl, _⟩ := hh; rfl))
  refine ⟨_, (pss_cons (ps_expr (pe_g G_need_order (hr.mono (by decide)) (takes_of rfl rfl rfl rfl) (pa_cons (pv 2) pa_nil)))
    (pss_cons (ps_asg (pe_g G_start_grid (hr.mono (by decide)) (takes_of rfl rfl rfl rfl) (pa_cons (pv 0) pa_nil)) (pg_name (i := 3) sc_settle.nd rfl (by first | exact Or.inl rfl | exact Or.inr rfl)))
    (pss_cons (ps_asg (pe_lst pa_nil) (pg_name (i := 4) sc_settle.nd rfl (by first | exact Or.inl rfl | exact Or.inr rfl)))
    (pss_cons (ps_asg (pv 2) (pg_name (i := 5) sc_settle.nd rfl (by first | exact Or.inl rfl | exact Or.inr rfl)))
    (pss_cons (ps_while (passes_of rfl) (PW.pt (pw_or (pt_cmpR op_lt (pe_len tx.bt (pv 4)) pe_int (nomark _)) (pw_or1 (pt_cmpR op_gt (pe_ix ix_seq (pv 4) (pe_un un_neg pe_int) (fun _ _ => rfl)) pe_int (nomark _)))))
    (pss_cons (ps_asg (pe_gk G_sweep_once (hr.mono (by decide)) (takes_of rfl rfl rfl rfl) (pa_cons (pv 0) (pa_cons (pv 1) (pa_cons (pv 3) pa_nil))) (pk_cons (pv 5) pk_nil)) (pg_name (i := 6) sc_settle.nd rfl (by first | exact Or.inl rfl | exact Or.inr rfl)))
    (pss_cons (ps_expr (pe_bm PySem.F.plainAttrs_list PySem.F.slot_list_append PySem.F.type_list_append mt_append (pv 4) (pa_cons (pe_len tx.bt (pe_g G_changed_cells (hr.mono (by decide)) (takes_of rfl rfl rfl rfl) (pa_cons (pv 3) (pa_cons (pv 6) pa_nil)))) pa_nil)))
    (pss_cons (ps_asg (pv 6) (pg_name (i := 3) sc_settle.nd rfl (by first | exact Or.inl rfl | exact Or.inr rfl)))
    (pss_one (ps_asg (pe_g G_opposite (hr.mono (by decide)) (takes_of rfl rfl rfl rfl) (pa_cons (pv 5) pa_nil)) (pg_name (i := 5) sc_settle.nd rfl (by first | exact Or.inl rfl | exact Or.inr rfl))))))))
    (pss_one (ps_ret (pe_tup (pa_cons (pv 3) (pa_cons (pe_len tx.bt (pv 4)) (pa_cons (pe_tuple tx.bt (pv 4)) pa_nil))))))))))), ?_⟩
  try dsimp only [cxOf]
  obtain ⟨ds, o, hi, ⟨F, mask, x, rfl, hl, hr⟩, q⟩ := h
  obtain ⟨v1, v2, v3, rfl, h1, h2, h3⟩ := hi.three_inv
  rw [h3.sv]
  with_reducible apply s_seq
  refine s_dropC (a_cons (e_vstr rfl) a_nil) ⟨x, rfl, rfl⟩ (fun d e H1 s1 => ?_) (fun x' fs e H1 s1 => ?_)
  · rcases hr with ⟨hb, rfl⟩ | ⟨a, n, rfl, n2, nm, he, hne, rfl⟩
    · rw [if_neg hb] at e
      cases e
    clear e
    with_reducible apply s_seq
    refine s_set K (e_call (d := .im (F.gridT F.start)) (a_cons (e_var rfl (s1.is h1)) a_nil) ⟨F, rfl, rfl⟩) fun v4 H2 s2 h4 => ?_
    with_reducible apply s_seq
    refine s_nil fun p H3 hp s3 e3 => ?_
    with_reducible apply s_seq
    refine s_setS K (e_vstr rfl) fun H4 s4 => ?_
    have s12 := s1.trans s2
    have hp0 : H p = none := s12.free hp
    have s04 := s12.trans (s3.trans s4)
    with_reducible apply s_seq
    refine s_while K (fun m σ' H' => ∃ k v3 a6, m = n - k ∧ k ≤ n ∧ σ' = [some v1, some v2, some (.str a.str), some v3, some (.ref p), some (.str (altO a k).str), a6] ∧ Same H H' ∧ Is K H' v3 (.im (F.gridT (F.run mask (altO a) k))) ∧
      H' p = some (.lst ((F.chL (F.run mask (altO a)) k).map V.int))) n ?_ ?_
    · exact ⟨0, v4, none, rfl, Nat.zero_le _, rfl, s04, (s3.trans s4).is h4, by rw [s4 _ _ e3]; rfl⟩
    · rintro m σ' H5 ⟨k, v5, a6, rfl, hk, rfl, s5, h5, e5⟩
      have hq : ∀ {H1 : Hp}, Same H5 H1 → Is K H1 (.ref p) (.ls ((F.chL (F.run mask (altO a)) k).map T.int)) := fun s => ⟨p, _, rfl, .inl (.inl (s _ _ e5)), Ims.ints _⟩
      have lc : (F.chL (F.run mask (altO a)) k).length = k := by unfold Fl.chL; simp
      refine ⟨decide (k < 2) || decide (0 < F.nch (F.run mask (altO a) (k - 1)) (F.run mask (altO a) k)), ?_, ?_, ?_⟩
      · refine t_or (t_eq (t_of (e_cmp (f := fun i j => decide (i < j)) (e_len (e_var rfl (Ls.sq (hq (Same.refl _))))) e_int)) ?_) fun hb => t_eq (t_of (e_cmp (f := fun i j => decide (j < i)) (e_ix (t := .int ((F.nch (F.run mask (altO a) (k - 1)) (F.run mask (altO a) k) : Nat) : Int)) (e_var rfl (Ls.sq (hq (Same.refl _)))) (e_neg e_int) ?_) e_int)) ?_
        · rw [List.length_map, lc, Bool.eq_iff_iff, decide_eq_true_eq, decide_eq_true_eq]
          omega
        · have k2 := of_decide_eq_false hb
          obtain ⟨j, rfl⟩ : ∃ j, k = j + 1 := ⟨k - 1, by omega⟩
          rw [chL_succ, List.map_append]
          exact atI_neg1
        · rw [Bool.eq_iff_iff, decide_eq_true_eq, decide_eq_true_eq]
          omega
      · intro hb H6 s6
        have kn : k < n := by
          rcases Nat.lt_or_ge k n with c | c
          · exact c
          · have e : k = n := by omega
            subst e
            rw [he] at hb
            simp at hb
            omega
        with_reducible apply s_seq
        refine s_set K (e_callK (d := .im (F.gridT (F.run mask (altO a) (k + 1)))) (a_cons (e_var rfl ((s5.trans s6).is h1)) (a_cons (e_var rfl ((s5.trans s6).is h2)) (a_cons (e_var rfl (s6.is h5)) a_nil))) (a_cons (e_vstr rfl) a_nil) rfl rfl ⟨F, mask, altO a k, F.run mask (altO a) k, rfl, hl, rfl⟩) fun v7 H7 s7 h7 => ?_
        with_reducible apply s_seq
        refine s_app K (d := .im (.int ((F.nch (F.run mask (altO a) k) (F.run mask (altO a) (k + 1)) : Nat) : Int))) rfl (s7 _ _ (s6 _ _ e5)) (by rw [List.length_map, lc]; omega) (ev_eq (e_len (Ev.sq_im (e_call (a_cons (e_var rfl ((s6.trans s7).is h5)) (a_cons (e_var rfl h7) a_nil)) ⟨F, _, _, rfl, rfl⟩))) (by rw [List.length_map]; rfl)) fun w H8 s8 hw => ?_
        rw [hw.iv]
        have s58 : Same H H8 := s5.trans (s6.trans (s7.trans s8))
        generalize hH9 : upd H8 p (.lst ((F.chL (F.run mask (altO a)) k).map V.int ++ [V.int ((F.nch (F.run mask (altO a) k) (F.run mask (altO a) (k + 1)) : Nat) : Int)])) = H9
        have s09 : Same H H9 := by rw [← hH9]; exact same_mut s58 hp0
        have h79 : Is K H9 v7 (.im (F.gridT (F.run mask (altO a) (k + 1)))) := by
          rw [← hH9]
          exact Im.mono (keep_lst (s8 _ _ (s7 _ _ (s6 _ _ e5)))) (s8.is h7)
        have e9 : H9 p = some (.lst ((F.chL (F.run mask (altO a)) (k + 1)).map V.int)) := by
          rw [← hH9, upd_same, chL_succ, List.map_append]
          rfl
        with_reducible apply s_seq
        refine s_set K (e_var rfl h79) fun v8 H10 s10 h8 => ?_
        refine s_setS K (e_call (d := .im (.str (altO a k).opp.str)) (a_cons (e_vstr rfl) a_nil) ⟨altO a k, rfl, rfl⟩) fun H11 s11 => ?_
        refine ⟨n - (k + 1), by omega, k + 1, v8, some v7, rfl, kn, ?_, s09.trans (s10.trans s11), s11.is h8, s11 _ _ (s10 _ _ e9)⟩
        rw [altO_succ]
        rfl
      · intro hb H6 s6
        obtain ⟨hb1, hb2⟩ := Bool.or_eq_false_iff.mp hb
        have hb1 := of_decide_eq_false hb1
        have hb2 := of_decide_eq_false hb2
        have kn : k = n := by
          rcases Nat.lt_or_ge k n with c | c
          · exact absurd (by omega) (hne k (by omega) c)
          · omega
        subst kn
        have hq6 := hq s6
        refine s_ret K (e_tup (ts := [F.gridT (F.run mask (altO a) k), .int k, .tup ((F.chL (F.run mask (altO a)) k).map T.int)]) (a_cons (e_var rfl (s6.is h5)) (a_cons (ev_eq (e_len (e_var rfl (Ls.sq hq6))) (by rw [List.length_map, lc])) (a_cons (e_tuple (e_var rfl (Ls.sq hq6))) a_nil))) (by rfl) (Nat.le_of_ble_eq_true rfl)) fun v H7 s7 hv => q v H7 (s5.trans (s6.trans s7)) hv
  · rcases hr with ⟨hb, rfl⟩ | ⟨a, n, rfl, n2, nm, he, hne, rfl⟩
    · rw [if_neg hb]
      exact Out.err (Out.mono s1 q)
    · rw [if_pos (ord_mem a)] at e
      cases e
end
end TW

set_option Elab.async false
set_option linter.all false
set_option maxRecDepth 100000
set_option maxHeartbeats 4000000
namespace TW
open PySem PySem.Spec PyProof.Rows L2
local macro_rules | `(tactic| walk_at "ev") => `(tactic| repeat' (first
  | with_reducible exact e_int | with_reducible exact e_str | with_reducible exact e_bl | with_reducible exact e_non
  | exact e_vint rfl | exact e_vstr rfl | exact e_vbl rfl | exact e_vnon rfl | exact e_var rfl (by assumption)
  | exact e_sqv rfl (by assumption) | exact e_dkI rfl (by assumption) rfl
  | with_reducible apply e_call | with_reducible apply e_intc | with_reducible apply e_abs
  | with_reducible apply e_intop | with_reducible apply e_cmp | with_reducible apply e_intopC
  | with_reducible apply e_len | with_reducible apply e_pow | with_reducible apply e_min2 | with_reducible apply e_max2
  | with_reducible exact a_nil | with_reducible apply a_cons
  | with_reducible apply t_ofB | with_reducible apply t_of
  | (with_reducible apply mulR; omega) | (with_reducible apply mulL; omega) | (with_reducible show (_ < _); omega)))
section
variable {P : Program} {w : World} {K : PySem.W.Frag} {mg : Str → Option Value} {base : Heap} {CF : Addr}
theorem sc_settle_by : FnScope ["floor", "mask", "word", "move", "order", "grid", "count", "idle", "swept"] ["floor", "mask", "word"] (defScope (top 52)) := ⟨rfl, rfl, rfl, by decide +kernel, rfl, by decide +kernel, by decide +kernel⟩
theorem ok_settle_by {f : Addr} {fd : FuncData} (F : FunD K "settle_by" "settle_by" (defArgs (top 52)) (defBody (top 52)) (defScope (top 52)) [] [] f fd) (tx : Tx w K mg CF) (G_sweep_once : Gk P w K mg base "sweep_once" 8 3 (sp_sweep_once K mg CF)) (G_start_grid : Gf P w K mg base "start_grid" 1 (sp_start_grid K mg CF)) (G_moves_of : Gf P w K mg base "moves_of" 1 (sp_moves_of K mg CF)) (G_is_forward : Gf P w K mg base "is_forward" 5 (sp_is_forward K mg CF)) (G_need_word : Gf P w K mg base "need_word" 4 (sp_need_word K mg CF)) (X_Empty : Xf P w K mg base "Empty" 1 ["what"]) (X_NotYes : Xf P w K mg base "NotYes" 1 ["what"]) : FnOk P w K mg base (L2.CX P w) 9 f fd ["floor", "mask", "word"] (sp_settle_by K mg CF) := by
  refine F.ok sc_settle_by (fun vs H Q E h => ?_) (fun cdv A outer s H vs Q E hr h => ?_)
  · first | (obtain ⟨_, rfl, _⟩ := h; rfl) | (obtain ⟨_, _, rfl, _⟩ := h; rfl) | (obtain ⟨_, _, _, rfl, _⟩ := h; rfl) | (obtain ⟨_, _, _, _, rfl, _⟩ := h; rfl) | (obtain ⟨_, _, _, _, _, rfl, _⟩ := h; rfl) | (obtain ⟨_, _, _, _, _, _, rfl, _⟩ := h; rfl) | (obtain ⟨_, _, _, _, _, _, _, rfl, _⟩ := h; rfl) | (obtain ⟨_, _, _, _, _, _, _, _, rfl, _⟩ := h; rfl) | exact spInit_len h rfl | exact spO_len h (by intro ds o hh; first | (obtain ⟨_, rfl, _⟩ := hh; rfl) | (obtain ⟨_, _, rfl, _⟩ := hh; rfl) | (obtain ⟨_, _, _, rfl, _⟩ := hh; rfl) | (obtain ⟨_, _, _, _, rfl, _⟩ := hh; rfl) | (obtain ⟨_, _, _, _, _, rfl, _⟩ := hh; rfl) | (obtain ⟨_, _, _, _, _, _, rfl, _⟩ := hh; rfl))
  refine ⟨_, (pss_cons (ps_expr (pe_g G_need_word (hr.mono (by decide)) (takes_of rfl rfl rfl rfl) (pa_cons (pv 2) pa_nil)))
    (pss_cons (ps_if (pt_cmpR (op_eqD hr.units) (pe_len tx.bt (pv 2)) pe_int (nomark _))
    (pss_one (ps_rz X_Empty (hr.mono (by decide)) rfl (takes_of rfl rfl rfl rfl) (pa_cons pe_str pa_nil)))
    pss_nil)
    (pss_cons (ps_for (passes_of rfl) rfl (pi_seq (pe_g G_moves_of (hr.mono (by decide)) (takes_of rfl rfl rfl rfl) (pa_cons (pv 1) pa_nil))) (pg_name (i := 3) sc_settle_by.nd rfl (by first | exact Or.inl rfl | exact Or.inr rfl))
    (pss_one (ps_if (pt_not (pt_val (pe_any tx.bt rfl (pe_lc (te := (tCallS (sp_is_forward K mg CF) (WE (fun _ _ _ _ => False)) (tCons (tVar 4) (tCons (tVar 3) tNil)))) (own := [("order", 4)]) (g := (gName 4)) (tt := tYes) rfl sc_settle_by.nd (pi_seq (pv 2)) (blkOk_by (own := [("order", 4)]) (N := ["floor", "mask", "word", "move", "order", "grid", "count", "idle", "swept"]) (sc := defScope (top 52)) (by decide +kernel)) (fun _ _ _ _ _ => (pg_name (i := 4) sc_settle_by.nd rfl (by first | exact Or.inl rfl | exact Or.inr rfl))) (fun _ _ _ _ _ => pts_nil) (fun _ _ _ _ _ => (pe_g G_is_forward (hr.mono (by decide)) takes0 (pa_cons (pv 4) (pa_cons (pv 3) pa_nil))))))))
    (pss_one (ps_rz X_NotYes (hr.mono (by decide)) rfl (takes_of rfl rfl rfl rfl) (pa_cons pe_str pa_nil)))
    pss_nil)))
    (pss_cons (ps_asg (pe_g G_start_grid (hr.mono (by decide)) (takes_of rfl rfl rfl rfl) (pa_cons (pv 0) pa_nil)) (pg_name (i := 5) sc_settle_by.nd rfl (by first | exact Or.inl rfl | exact Or.inr rfl)))
    (pss_cons (ps_asg pe_int (pg_name (i := 6) sc_settle_by.nd rfl (by first | exact Or.inl rfl | exact Or.inr rfl)))
    (pss_cons (ps_asg pe_int (pg_name (i := 7) sc_settle_by.nd rfl (by first | exact Or.inl rfl | exact Or.inr rfl)))
    (pss_cons (ps_while (passes_of rfl) (pt_cmpR op_lt (pv 7) (pe_len tx.bt (pv 2)) (nomark _))
    (pss_cons (ps_asg (pe_gk G_sweep_once (hr.mono (by decide)) (takes_of rfl rfl rfl rfl) (pa_cons (pv 0) (pa_cons (pv 1) (pa_cons (pv 5) pa_nil))) (pk_cons (pe_ix ix_seq (pv 2) (pe_op op_mod (pv 6) (pe_len tx.bt (pv 2))) (fun _ _ => rfl)) pk_nil)) (pg_name (i := 8) sc_settle_by.nd rfl (by first | exact Or.inl rfl | exact Or.inr rfl)))
    (pss_cons (ps_aug (i := 6) sc_settle_by.nd rfl (by first | exact Or.inl rfl | exact Or.inr rfl) pe_int ip_add)
    (pss_cons (ps_aug (i := 7) sc_settle_by.nd rfl (by first | exact Or.inl rfl | exact Or.inr rfl) pe_int ip_add)
    (pss_cons (ps_if (pt_cmpR (op_neD hr.units) (pv 8) (pv 5) (nomark _))
    (pss_one (ps_asg pe_int (pg_name (i := 7) sc_settle_by.nd rfl (by first | exact Or.inl rfl | exact Or.inr rfl))))
    pss_nil)
    (pss_one (ps_asg (pv 8) (pg_name (i := 5) sc_settle_by.nd rfl (by first | exact Or.inl rfl | exact Or.inr rfl)))))))))
    (pss_one (ps_ret (pe_tup (pa_cons (pv 5) (pa_cons (pv 6) pa_nil)))))))))))), ?_⟩
  try dsimp only [cxOf]
  obtain ⟨ds, o, hi, ⟨F, mask, ws, rfl, hl, hw, hr⟩, q⟩ := h
  obtain ⟨v1, v2, v3, rfl, h1, h2, h3⟩ := hi.three_inv
  with_reducible apply s_seq
  refine s_dropC (a_cons (e_var rfl h3) a_nil) ⟨ws, rfl, hw, rfl⟩ (fun d e H1 s1 => ?_) (fun x' fs e H1 s1 => ?_)
  rotate_left
  · rcases hr with ⟨x, fs', e2, rfl⟩ | ⟨e2, _, _⟩ | ⟨os, rfl, hn, hl2, _⟩
    · rw [e2]
      exact Out.err (Out.mono s1 q)
    · rw [e2] at e
      cases e
    · rw [needW_ok hl2] at e
      cases e
  rcases hr with ⟨x, fs', e2, rfl⟩ | ⟨e2, rfl, rfl⟩ | ⟨os, rfl, hn, hl2, hr⟩
  · rw [e2] at e
    cases e
  · with_reducible apply s_seq
    refine s_if K (b := true) (t_of (ev_eq (e_eq (e_len (e_var rfl (s1.is h3))) e_int rfl rfl) (by rfl))) (fun hb H2 s2 => ?_) (fun hb => by cases hb)
    exact s_raise (ts := [.str "word"]) X_Empty (by decide) (by decide) (a_cons e_str a_nil) rfl rfl (by decide) (s1.trans s2) q
  clear e
  have hpos : 0 < os.length := List.length_pos_iff.mpr hn
  with_reducible apply s_seq
  refine s_if K (b := false) (t_of (ev_eq (e_eq (e_len (e_var rfl (s1.is h3))) e_int rfl rfl) ?_)) (fun hb => by cases hb) (fun hb H2 s2 => ?_)
  · rw [List.length_map, List.length_map]
    congr 2
    show ((os.length : Int) == 0) = false
    rw [beq_eq_false_iff_ne]
    omega
  with_reducible apply s_next
  with_reducible apply s_seq
  have s12 := s1.trans s2
  -- each move is forward in one of the orders
  refine for_it (enc := fun m : Move => cellT (m.1, m.2.1)) (xs := mask) K (i_seq (Ev.sq_im (e_call (d := .im (.tup (mask.map fun q => cellT (q.1, q.2.1)))) (a_cons (e_var rfl (s12.is h2)) a_nil) ⟨mask, rfl, hl, rfl⟩))) fun H3 s3 => ?_
  have s03 := s12.trans s3
  refine ⟨fun i σ' H' => ∃ a3 a4, σ' = [some v1, some v2, some v3, a3, a4, none, none, none, none] ∧ Same H3 H' ∧ ∀ m ∈ mask.take i, ∃ a ∈ os, a.fwd m = true, ⟨none, none, rfl, Same.refl _, fun m hm => by simp at hm⟩, ?_, ?_, ?_⟩
  · rintro i σ' H' hi ⟨_, _, _, s, _⟩
    exact s.stay
  · rintro i m x σ' H4 H5 hm ⟨a3, a4, rfl, s4, hf⟩ s5 im
    refine s_gi ?_
    have s05 := s03.trans (s4.trans s5)
    have hos : Is K H5 v3 (.sq (os.map fun a => T.str a.str)) := by
      have z := s05.is h3
      rw [List.map_map] at z
      exact z
    refine s_if K (b := !((os.map fun a => a.fwd m).any id)) (t_not (t_of (e_any (ev_bls (n_genA (enc := fun a : Ord => T.str a.str) (xs := os) (f := fun a => T.bl (a.fwd m)) (i_seq (e_var rfl hos)) (by omega) fun j a v H6 ha s6 im2 => ?_))))) (fun hb H6 s6 => ?_) (fun hb H6 s6 => ?_)
    · rw [im2.str_inv]
      refine ⟨_, fun k z => z, rfl, e_call (d := .im (.bl (a.fwd m))) (a_cons (e_vstr rfl) (a_cons (e_var rfl (s6.is (show Is K H5 x (.im _) from im))) a_nil)) ⟨a, (m.1, m.2.1), rfl, rfl⟩⟩
    · rcases hr with ⟨m', hm', hno, rfl⟩ | ⟨hall, _⟩
      · exact s_raise (ts := [.str "word"]) X_NotYes (by decide) (by decide) (a_cons e_str a_nil) rfl rfl (by decide) (s05.trans s6) q
      · obtain ⟨a, ha, e⟩ := hall m (List.mem_of_getElem? hm)
        exfalso
        have : (os.map fun a => a.fwd m).any id = true := List.any_eq_true.mpr ⟨true, List.mem_map.mpr ⟨a, ha, e⟩, rfl⟩
        rw [this] at hb
        cases hb
    · refine s_next ⟨_, _, rfl, s4.trans (s5.trans s6), fun m' hm' => ?_⟩
      rw [List.take_add_one, hm] at hm'
      rcases List.mem_append.mp hm' with z | z
      · exact hf m' z
      · have e : m' = m := by simpa using z
        subst e
        have : (os.map fun a => a.fwd m').any id = true := by
          cases z2 : (os.map fun a => a.fwd m').any id with
          | true => rfl
          | false => rw [z2] at hb; cases hb
        obtain ⟨b, hb1, hb2⟩ := List.any_eq_true.mp this
        obtain ⟨a, ha, rfl⟩ := List.mem_map.mp hb1
        exact ⟨a, ha, hb2⟩
  · rintro σ' H4 ⟨a3, a4, rfl, s4, hf⟩
    rw [List.take_length] at hf
    rcases hr with ⟨m', hm', hno, rfl⟩ | ⟨hall, n, nm, hn1, hn2, rfl⟩
    · obtain ⟨a, ha, e⟩ := hf m' hm'
      rw [hno a ha] at e
      cases e
    have s04 := s03.trans s4
    with_reducible apply s_seq
    refine s_set K (e_call (d := .im (F.gridT F.start)) (a_cons (e_var rfl (s04.is h1)) a_nil) ⟨F, rfl, rfl⟩) fun v5 H5 s5 h5 => ?_
    with_reducible apply s_seq
    refine s_setI K e_int fun H6 s6 => ?_
    with_reducible apply s_seq
    refine s_setI K e_int fun H7 s7 => ?_
    have s07 := s04.trans (s5.trans (s6.trans s7))
    with_reducible apply s_seq
    refine s_while K (fun m σ' H' => ∃ (k : Nat) (v5 : V) (a8 : Option V), m = n - k ∧ k ≤ n ∧ σ' = [some v1, some v2, some v3, a3, a4, some v5, some (.int (k : Int)), some (.int (F.idle (F.run mask (wordO os)) k : Nat)), a8] ∧ Same H H' ∧ Is K H' v5 (.im (F.gridT (F.run mask (wordO os) k)))) n ?_ ?_
    · exact ⟨0, v5, none, rfl, Nat.zero_le _, rfl, s07, (s6.trans s7).is h5⟩
    · rintro m σ' H8 ⟨k, v6, a8, rfl, hk, rfl, s8, h8⟩
      refine ⟨decide (F.idle (F.run mask (wordO os)) k < os.length), ?_, ?_, ?_⟩
      · refine t_eq (t_of (e_cmp (f := fun i j => decide (i < j)) (e_vint rfl) (e_len (e_var rfl (s8.is h3))))) ?_
        rw [List.length_map, List.length_map, Bool.eq_iff_iff, decide_eq_true_eq, decide_eq_true_eq]
        omega
      · intro hb H9 s9
        have hb := of_decide_eq_true hb
        have kn : k < n := by
          rcases Nat.lt_or_ge k n with c | c
          · exact c
          · have e : k = n := by omega
            rw [e, hn1] at hb
            omega
        have s09 := s8.trans s9
        have ex : atI ((os.map Ord.str).map T.str) ((k : Int) % ((((os.map Ord.str).map T.str).length : Nat) : Int)) = some (.str (wordO os k).str) := by
          rw [List.length_map, List.length_map]
          have hmm := Nat.mod_lt k hpos
          have e : (k : Int) % (os.length : Int) = ((k % os.length : Nat) : Int) := by omega
          rw [e]
          refine atI_nat ?_
          rw [List.getElem?_map, List.getElem?_map, List.getElem?_eq_getElem hmm]
          unfold wordO
          rw [List.getD_eq_getElem?_getD, List.getElem?_eq_getElem hmm]
          rfl
        have hlen : 0 < ((((os.map Ord.str).map T.str).length : Nat) : Int) := by
          rw [List.length_map, List.length_map]
          omega
        with_reducible apply s_seq
        refine s_set K (e_callK (d := .im (F.gridT (F.run mask (wordO os) (k + 1)))) (a_cons (e_var rfl (s09.is h1)) (a_cons (e_var rfl (s09.is h2)) (a_cons (e_var rfl (s9.is h8)) a_nil))) (a_cons (e_ix (e_var rfl (s09.is h3)) (e_intopC (e_vint rfl) (e_len (e_var rfl (s09.is h3))) hlen) ex) a_nil) rfl rfl ⟨F, mask, wordO os k, F.run mask (wordO os) k, rfl, hl, rfl⟩) fun v7 H10 s10 h7 => ?_
        with_reducible apply s_seq
        refine s_incI K rfl e_int fun H11 s11 => ?_
        with_reducible apply s_seq
        refine s_incI K rfl e_int fun H12 s12' => ?_
        have sx := s10.trans (s11.trans s12')
        with_reducible apply s_seq
        refine s_if K (b := !F.same (F.run mask (wordO os) (k + 1)) (F.run mask (wordO os) k)) (t_of (e_neG (e_var rfl ((s11.trans s12').is h7)) (e_var rfl ((s9.trans sx).is h8)))) (fun hb2 H13 s13 => ?_) (fun hb2 H13 s13 => ?_)
        · refine s_setI K e_int fun H14 s14 => ?_
          refine s_set K (e_var rfl ((s11.trans (s12'.trans (s13.trans s14))).is h7)) fun v9 H15 s15 h9 => ?_
          refine ⟨n - (k + 1), by omega, k + 1, v9, some v7, rfl, kn, ?_, s09.trans (sx.trans (s13.trans (s14.trans s15))), h9⟩
          have e : F.same (F.run mask (wordO os) (k + 1)) (F.run mask (wordO os) k) = false := by
            cases z : F.same (F.run mask (wordO os) (k + 1)) (F.run mask (wordO os) k) with
            | false => rfl
            | true => rw [z] at hb2; cases hb2
          have e2 : F.idle (F.run mask (wordO os)) (k + 1) = 0 := by
            unfold Fl.idle
            rw [e]
            rfl
          rw [e2]
          rfl
        · refine s_next ?_
          refine s_set K (e_var rfl ((s11.trans (s12'.trans s13)).is h7)) fun v9 H15 s15 h9 => ?_
          refine ⟨n - (k + 1), by omega, k + 1, v9, some v7, rfl, kn, ?_, s09.trans (sx.trans (s13.trans s15)), h9⟩
          have e : F.same (F.run mask (wordO os) (k + 1)) (F.run mask (wordO os) k) = true := by
            cases z : F.same (F.run mask (wordO os) (k + 1)) (F.run mask (wordO os) k) with
            | true => rfl
            | false => rw [z] at hb2; cases hb2
          have e2 : F.idle (F.run mask (wordO os)) (k + 1) = F.idle (F.run mask (wordO os)) k + 1 := by
            rw [Fl.idle, e]
            rfl
          rw [e2]
          rfl
      · intro hb H9 s9
        have hb := of_decide_eq_false hb
        have kn : k = n := by
          rcases Nat.lt_or_ge k n with c | c
          · exact absurd (hn2 k c) hb
          · omega
        subst kn
        exact s_ret K (e_tup (ts := [F.gridT (F.run mask (wordO os) k), .int k]) (a_cons (e_var rfl (s9.is h8)) (a_cons (e_vint rfl) a_nil)) (by rfl) (Nat.le_of_ble_eq_true rfl)) fun v H10 s10 hv => q v H10 (s8.trans (s9.trans s10)) hv
end
end TW

set_option Elab.async false
set_option linter.all false
set_option maxRecDepth 100000
set_option maxHeartbeats 4000000
namespace TW
open PySem PySem.Spec PyProof.Rows L2
local macro_rules | `(tactic| walk_at "ev") => `(tactic| repeat' (first
  | with_reducible exact e_int | with_reducible exact e_str | with_reducible exact e_bl | with_reducible exact e_non
  | exact e_vint rfl | exact e_vstr rfl | exact e_vbl rfl | exact e_vnon rfl | exact e_var rfl (by assumption)
  | exact e_sqv rfl (by assumption) | exact e_dkI rfl (by assumption) rfl
  | with_reducible apply e_call | with_reducible apply e_intc | with_reducible apply e_abs
  | with_reducible apply e_intop | with_reducible apply e_cmp | with_reducible apply e_intopC
  | with_reducible apply e_len | with_reducible apply e_pow | with_reducible apply e_min2 | with_reducible apply e_max2
  | with_reducible exact a_nil | with_reducible apply a_cons
  | with_reducible apply t_ofB | with_reducible apply t_of
  | (with_reducible apply mulR; omega) | (with_reducible apply mulL; omega) | (with_reducible show (_ < _); omega)))
section
variable {P : Program} {w : World} {K : PySem.W.Frag} {mg : Str → Option Value} {base : Heap} {CF : Addr}
theorem sc_check_size : FnScope ["h", "w"] ["h", "w"] (defScope (top 24)) := ⟨rfl, rfl, rfl, by decide +kernel, rfl, by decide +kernel, by decide +kernel⟩
theorem ok_check_size {f : Addr} {fd : FuncData} (F : FunD K "check_size" "check_size" (defArgs (top 24)) (defBody (top 24)) (defScope (top 24)) [] [] f fd) (tx : Tx w K mg CF) : FnOk P w K mg base (L2.CX P w) 3 f fd ["h", "w"] (sp_check_size K mg CF) := by
  refine F.ok sc_check_size (fun vs H Q E h => ?_) (fun cdv A outer s H vs Q E hr h => ?_)
  · first | (obtain ⟨_, rfl, _⟩ := h; rfl) | (obtain ⟨_, _, rfl, _⟩ := h; rfl) | (obtain ⟨_, _, _, rfl, _⟩ := h; rfl) | (obtain ⟨_, _, _, _, rfl, _⟩ := h; rfl) | (obtain ⟨_, _, _, _, _, rfl, _⟩ := h; rfl) | (obtain ⟨_, _, _, _, _, _, rfl, _⟩ := h; rfl) | (obtain ⟨_, _, _, _, _, _, _, rfl, _⟩ := h; rfl) | (obtain ⟨_, _, _, _, _, _, _, _, rfl, _⟩ := h; rfl) | exact spInit_len h rfl | exact spO_len h (by intro ds o hh; first | (obtain ⟨_, rfl, _⟩ := hh; rfl) | (obtain ⟨_, _, rfl, _⟩ := hh; rfl) | (obtain ⟨_, _, _, rfl, _⟩ := hh; rfl) | (obtain ⟨_, _, _, _, rfl, _⟩ := hh; rfl) | (obtain ⟨_, _, _, _, _, rfl, _⟩ := hh; rfl) | (obtain ⟨_, _, _, _, _, _, rfl, _⟩ := hh; rfl))
  refine ⟨_, (pss_cons (ps_if (pt_cmpR op_gt (pv 0) (pe_gi tx.MOST_SIDE) (nomark _))
    (pss_one ps_dead)
    pss_nil)
    (pss_one (ps_if (pt_cmpR op_gt (pv 1) (pe_gi tx.MOST_SIDE) (nomark _))
    (pss_one ps_dead)
    pss_nil))), ?_⟩
  try dsimp only [cxOf]
  obtain ⟨ds, o, hi, ⟨hh, ww, rfl, hn, hm, rfl⟩, q⟩ := h
  obtain ⟨v1, v2, rfl, h1, h2⟩ := hi.two_inv
  rw [h1.iv, h2.iv]
  with_reducible apply s_seq
  refine s_if K (b := false) (t_eq (t_of (e_cmp (f := fun i j => decide (j < i)) (e_vint rfl) e_int)) (decide_eq_false (by omega))) (fun hb => by cases hb) (fun hb H1 s1 => ?_)
  with_reducible apply s_next
  refine s_if K (b := false) (t_eq (t_of (e_cmp (f := fun i j => decide (j < i)) (e_vint rfl) e_int)) (decide_eq_false (by omega))) (fun hb => by cases hb) (fun hb H2 s2 => ?_)
  exact q .non H2 (s1.trans s2) Im.non
theorem sc_check_rows : FnScope ["rows", "columns", "row"] ["rows"] (defScope (top 25)) := ⟨rfl, rfl, rfl, by decide +kernel, rfl, by decide +kernel, by decide +kernel⟩
theorem ok_check_rows {f : Addr} {fd : FuncData} (F : FunD K "check_rows" "check_rows" (defArgs (top 25)) (defBody (top 25)) (defScope (top 25)) [] [] f fd) (tx : Tx w K mg CF) (G_check_size : Gf P w K mg base "check_size" 3 (sp_check_size K mg CF)) : FnOk P w K mg base (L2.CX P w) 4 f fd ["rows"] (sp_check_rows K mg CF) := by
  refine F.ok sc_check_rows (fun vs H Q E h => ?_) (fun cdv A outer s H vs Q E hr h => ?_)
  · first | (obtain ⟨_, rfl, _⟩ := h; rfl) | (obtain ⟨_, _, rfl, _⟩ := h; rfl) | (obtain ⟨_, _, _, rfl, _⟩ := h; rfl) | (obtain ⟨_, _, _, _, rfl, _⟩ := h; rfl) | (obtain ⟨_, _, _, _, _, rfl, _⟩ := h; rfl) | (obtain ⟨_, _, _, _, _, _, rfl, _⟩ := h; rfl) | (obtain ⟨_, _, _, _, _, _, _, rfl, _⟩ := h; rfl) | (obtain ⟨_, _, _, _, _, _, _, _, rfl, _⟩ := h; rfl) | exact spInit_len h rfl | exact spO_len h (by intro ds o hh; first | (obtain ⟨_, rfl, _⟩ := hh; rfl) | (obtain ⟨_, _, rfl, _⟩ := hh; rfl) | (obtain ⟨_, _, _, rfl, _⟩ := hh; rfl) | (obtain ⟨_, _, _, _, rfl, _⟩ := hh; rfl) | (obtain ⟨_, _, _, _, _, rfl, _⟩ := hh; rfl) | (obtain ⟨_, _, _, _, _, _, rfl, _⟩ := hh; rfl))
  refine ⟨_, (pss_cons (ps_if (PW.pt (pw_or (pt_cmpR (op_eqD hr.units) (pe_len tx.bt (pv 0)) pe_int (nomark _)) (pw_or1 (pt_cmpR (op_eqD hr.units) (pe_len tx.bt (pe_ix ix_seq (pv 0) pe_int (fun _ _ => rfl))) pe_int (nomark _)))))
    (pss_one ps_dead)
    pss_nil)
    (pss_cons (ps_asg (pe_len tx.bt (pe_ix ix_seq (pv 0) pe_int (fun _ _ => rfl))) (pg_name (i := 1) sc_check_rows.nd rfl (by first | exact Or.inl rfl | exact Or.inr rfl)))
    (pss_cons (ps_if (pt_val (pe_any tx.bt rfl (pe_lc (te := (tOp (rNeD K) (tB1 (rLenQ K) (tVar 2)) (tVar 1))) (own := [("row", 2)]) (g := (gName 2)) (tt := tYes) rfl sc_check_rows.nd (pi_seq (pv 0)) (blkOk_by (own := [("row", 2)]) (N := ["rows", "columns", "row"]) (sc := defScope (top 25)) (by decide +kernel)) (fun _ _ _ _ _ => (pg_name (i := 2) sc_check_rows.nd rfl (by first | exact Or.inl rfl | exact Or.inr rfl))) (fun _ _ _ _ _ => pts_nil) (fun _ _ _ _ _ => (pe_cmpR (op_neD hr.units) (pe_len tx.bt (pv 2)) (pv 1) (nomark _))))))
    (pss_one ps_dead)
    pss_nil)
    (pss_one (ps_expr (pe_g G_check_size (hr.mono (by decide)) (takes_of rfl rfl rfl rfl) (pa_cons (pe_len tx.bt (pv 0)) (pa_cons (pv 1) pa_nil)))))))), ?_⟩
  try dsimp only [cxOf]
  obtain ⟨ds, o, hi, ⟨F, rfl, rfl⟩, q⟩ := h
  obtain ⟨v1, rfl, h1⟩ := hi.one_inv
  have hh1 := F.h1
  have hw1 := F.w1
  have hm := F.hm
  have wm := F.wm
  have l1 : F.rows.length = F.h := by unfold Fl.rows rowsL; simp
  have l2 : ∀ f : Int → T, (rowL F.w f).length = F.w := fun f => by unfold rowL; simp
  have at0 : atI F.rows 0 = some (.tup (rowL F.w fun x => (F.it (0, x)).t)) := atI_rows (f := fun c => (F.it c).t) (Int.le_refl _) (by omega)
  with_reducible apply s_seq
  refine s_if K (b := false) (t_eq (t_or (t_of (e_eq (e_len (Ev.sq_im (e_var rfl h1))) e_int rfl rfl)) fun _ => t_of (e_eq (e_len (Ev.sq_im (e_ix (Ev.sq_im (e_var rfl h1)) e_int at0))) e_int rfl rfl)) ?_) (fun hb => by cases hb) (fun hb H1 s1 => ?_)
  · rw [l1, l2, Bool.or_eq_false_iff]
    constructor
    · show ((F.h : Int) == 0) = false
      rw [beq_eq_false_iff_ne]
      omega
    · show ((F.w : Int) == 0) = false
      rw [beq_eq_false_iff_ne]
      omega
  with_reducible apply s_next
  with_reducible apply s_seq
  refine s_setI K (n := (F.w : Int)) (ev_eq (e_len (Ev.sq_im (e_ix (Ev.sq_im (e_var rfl (s1.is h1))) e_int at0))) (by rw [l2])) fun H2 s2 => ?_
  with_reducible apply s_seq
  have s12 := s1.trans s2
  refine s_if K (b := ((List.range F.h).map fun _ => false).any id) (t_ofB (e_any (ev_bls (n_genA (enc := fun y : Nat => T.tup (rowL F.w fun x => (F.it ((y : Int), x)).t)) (xs := List.range F.h) (f := fun _ => T.bl false) (i_seq (Ev.sq_im (e_var rfl (s12.is h1)))) (by simp; omega) fun i y v H3 hy s3 im => ?_)))) (fun hb => ?_) (fun hb H3 s3 => ?_)
  · refine ⟨_, fun k z => z, rfl, ev_eq (e_ne (e_len (Ev.sq_im (e_var rfl (show Is K H3 v (.im _) from im)))) (e_vint rfl) rfl rfl) ?_⟩
    rw [l2]
    show D.im (.bl (!((F.w : Int) == (F.w : Int)))) = _
    rw [beq_self_eq_true]
    rfl
  · exfalso
    obtain ⟨b, h1, h2⟩ := List.any_eq_true.mp hb
    obtain ⟨_, _, rfl⟩ := List.mem_map.mp h1
    cases h2
  with_reducible apply s_next
  refine s_drop K (e_call (d := .im .non) (a_cons (ev_eq (e_len (Ev.sq_im (e_var rfl ((s12.trans s3).is h1)))) (by rw [l1])) (a_cons (e_vint rfl) a_nil)) ⟨F.h, F.w, rfl, hm, wm, rfl⟩) fun v H4 s4 hv => q .non H4 (s12.trans (s3.trans s4)) Im.non
theorem sc_BadOrder_init : FnScope ["self", "order"] ["self", "order"] (defScope (inClass (top 5) 0)) := ⟨rfl, rfl, rfl, by decide +kernel, rfl, by decide +kernel, by decide +kernel⟩
theorem ok_BadOrder_init {f : Addr} {fd : FuncData} (F : FunD K "__init__" "BadOrder.__init__" (defArgs (inClass (top 5) 0)) (defBody (inClass (top 5) 0)) (defScope (inClass (top 5) 0)) [] [] f fd) (tx : Tx w K mg CF) : FnOk P w K mg base (L2.CX P w) 1 f fd ["self", "order"] (sp_BadOrder_init K mg CF) := by
  refine F.ok sc_BadOrder_init (fun vs H Q E h => ?_) (fun cdv A outer s H vs Q E hr h => ?_)
  · first | (obtain ⟨_, rfl, _⟩ := h; rfl) | (obtain ⟨_, _, rfl, _⟩ := h; rfl) | (obtain ⟨_, _, _, rfl, _⟩ := h; rfl) | (obtain ⟨_, _, _, _, rfl, _⟩ := h; rfl) | (obtain ⟨_, _, _, _, _, rfl, _⟩ := h; rfl) | (obtain ⟨_, _, _, _, _, _, rfl, _⟩ := h; rfl) | (obtain ⟨_, _, _, _, _, _, _, rfl, _⟩ := h; rfl) | (obtain ⟨_, _, _, _, _, _, _, _, rfl, _⟩ := h; rfl) | exact spInit_len h rfl | exact spO_len h (by intro ds o hh; first | (obtain ⟨_, rfl, _⟩ := hh; rfl) | (obtain ⟨_, _, rfl, _⟩ := hh; rfl) | (obtain ⟨_, _, _, rfl, _⟩ := hh; rfl) | (obtain ⟨_, _, _, _, rfl, _⟩ := hh; rfl) | (obtain ⟨_, _, _, _, _, rfl, _⟩ := hh; rfl) | (obtain ⟨_, _, _, _, _, _, rfl, _⟩ := hh; rfl))
  refine ⟨_, (pss_one (ps_ost (pv 0) (pv 1))), ?_⟩
  try dsimp only [cxOf]
  obtain ⟨a, C, ys, rfl, hl, T, no, e, q⟩ := h
  match ys, hl with
  | [y], _ =>
    refine ⟨_, rfl, _, rfl, a, C, rfl, T, no _ (by decide), .inl ⟨e, fun dx hd na => ?_⟩⟩
    exact q dx hd na
theorem sc_Empty_init : FnScope ["self", "what"] ["self", "what"] (defScope (inClass (top 7) 0)) := ⟨rfl, rfl, rfl, by decide +kernel, rfl, by decide +kernel, by decide +kernel⟩
theorem ok_Empty_init {f : Addr} {fd : FuncData} (F : FunD K "__init__" "Empty.__init__" (defArgs (inClass (top 7) 0)) (defBody (inClass (top 7) 0)) (defScope (inClass (top 7) 0)) [] [] f fd) (tx : Tx w K mg CF) : FnOk P w K mg base (L2.CX P w) 1 f fd ["self", "what"] (sp_Empty_init K mg CF) := by
  refine F.ok sc_Empty_init (fun vs H Q E h => ?_) (fun cdv A outer s H vs Q E hr h => ?_)
  · first | (obtain ⟨_, rfl, _⟩ := h; rfl) | (obtain ⟨_, _, rfl, _⟩ := h; rfl) | (obtain ⟨_, _, _, rfl, _⟩ := h; rfl) | (obtain ⟨_, _, _, _, rfl, _⟩ := h; rfl) | (obtain ⟨_, _, _, _, _, rfl, _⟩ := h; rfl) | (obtain ⟨_, _, _, _, _, _, rfl, _⟩ := h; rfl) | (obtain ⟨_, _, _, _, _, _, _, rfl, _⟩ := h; rfl) | (obtain ⟨_, _, _, _, _, _, _, _, rfl, _⟩ := h; rfl) | exact spInit_len h rfl | exact spO_len h (by intro ds o hh; first | (obtain ⟨_, rfl, _⟩ := hh; rfl) | (obtain ⟨_, _, rfl, _⟩ := hh; rfl) | (obtain ⟨_, _, _, rfl, _⟩ := hh; rfl) | (obtain ⟨_, _, _, _, rfl, _⟩ := hh; rfl) | (obtain ⟨_, _, _, _, _, rfl, _⟩ := hh; rfl) | (obtain ⟨_, _, _, _, _, _, rfl, _⟩ := hh; rfl))
  refine ⟨_, (pss_one (ps_ost (pv 0) (pv 1))), ?_⟩
  try dsimp only [cxOf]
  obtain ⟨a, C, ys, rfl, hl, T, no, e, q⟩ := h
  match ys, hl with
  | [y], _ =>
    refine ⟨_, rfl, _, rfl, a, C, rfl, T, no _ (by decide), .inl ⟨e, fun dx hd na => ?_⟩⟩
    exact q dx hd na
theorem sc_NotYes_init : FnScope ["self", "what"] ["self", "what"] (defScope (inClass (top 17) 0)) := ⟨rfl, rfl, rfl, by decide +kernel, rfl, by decide +kernel, by decide +kernel⟩
theorem ok_NotYes_init {f : Addr} {fd : FuncData} (F : FunD K "__init__" "NotYes.__init__" (defArgs (inClass (top 17) 0)) (defBody (inClass (top 17) 0)) (defScope (inClass (top 17) 0)) [] [] f fd) (tx : Tx w K mg CF) : FnOk P w K mg base (L2.CX P w) 1 f fd ["self", "what"] (sp_NotYes_init K mg CF) := by
  refine F.ok sc_NotYes_init (fun vs H Q E h => ?_) (fun cdv A outer s H vs Q E hr h => ?_)
  · first | (obtain ⟨_, rfl, _⟩ := h; rfl) | (obtain ⟨_, _, rfl, _⟩ := h; rfl) | (obtain ⟨_, _, _, rfl, _⟩ := h; rfl) | (obtain ⟨_, _, _, _, rfl, _⟩ := h; rfl) | (obtain ⟨_, _, _, _, _, rfl, _⟩ := h; rfl) | (obtain ⟨_, _, _, _, _, _, rfl, _⟩ := h; rfl) | (obtain ⟨_, _, _, _, _, _, _, rfl, _⟩ := h; rfl) | (obtain ⟨_, _, _, _, _, _, _, _, rfl, _⟩ := h; rfl) | exact spInit_len h rfl | exact spO_len h (by intro ds o hh; first | (obtain ⟨_, rfl, _⟩ := hh; rfl) | (obtain ⟨_, _, rfl, _⟩ := hh; rfl) | (obtain ⟨_, _, _, rfl, _⟩ := hh; rfl) | (obtain ⟨_, _, _, _, rfl, _⟩ := hh; rfl) | (obtain ⟨_, _, _, _, _, rfl, _⟩ := hh; rfl) | (obtain ⟨_, _, _, _, _, _, rfl, _⟩ := hh; rfl))
  refine ⟨_, (pss_one (ps_ost (pv 0) (pv 1))), ?_⟩
  try dsimp only [cxOf]
  obtain ⟨a, C, ys, rfl, hl, T, no, e, q⟩ := h
  match ys, hl with
  | [y], _ =>
    refine ⟨_, rfl, _, rfl, a, C, rfl, T, no _ (by decide), .inl ⟨e, fun dx hd na => ?_⟩⟩
    exact q dx hd na
theorem sc_TooMany_init : FnScope ["self", "what", "limit"] ["self", "what", "limit"] (defScope (inClass (top 15) 0)) := ⟨rfl, rfl, rfl, by decide +kernel, rfl, by decide +kernel, by decide +kernel⟩
theorem ok_TooMany_init {f : Addr} {fd : FuncData} (F : FunD K "__init__" "TooMany.__init__" (defArgs (inClass (top 15) 0)) (defBody (inClass (top 15) 0)) (defScope (inClass (top 15) 0)) [] [] f fd) (tx : Tx w K mg CF) : FnOk P w K mg base (L2.CX P w) 1 f fd ["self", "what", "limit"] (sp_TooMany_init K mg CF) := by
  refine F.ok sc_TooMany_init (fun vs H Q E h => ?_) (fun cdv A outer s H vs Q E hr h => ?_)
  · first | (obtain ⟨_, rfl, _⟩ := h; rfl) | (obtain ⟨_, _, rfl, _⟩ := h; rfl) | (obtain ⟨_, _, _, rfl, _⟩ := h; rfl) | (obtain ⟨_, _, _, _, rfl, _⟩ := h; rfl) | (obtain ⟨_, _, _, _, _, rfl, _⟩ := h; rfl) | (obtain ⟨_, _, _, _, _, _, rfl, _⟩ := h; rfl) | (obtain ⟨_, _, _, _, _, _, _, rfl, _⟩ := h; rfl) | (obtain ⟨_, _, _, _, _, _, _, _, rfl, _⟩ := h; rfl) | exact spInit_len h rfl | exact spO_len h (by intro ds o hh; first | (obtain ⟨_, rfl, _⟩ := hh; rfl) | (obtain ⟨_, _, rfl, _⟩ := hh; rfl) | (obtain ⟨_, _, _, rfl, _⟩ := hh; rfl) | (obtain ⟨_, _, _, _, rfl, _⟩ := hh; rfl) | (obtain ⟨_, _, _, _, _, rfl, _⟩ := hh; rfl) | (obtain ⟨_, _, _, _, _, _, rfl, _⟩ := hh; rfl))
  refine ⟨_, (pss_cons (ps_ost (pv 0) (pv 1))
    (pss_one (ps_ost (pv 0) (pv 2)))), ?_⟩
  try dsimp only [cxOf]
  obtain ⟨a, C, ys, rfl, hl, T, no, e, q⟩ := h
  match ys, hl with
  | [y, z], _ =>
    refine ⟨_, rfl, _, rfl, a, C, rfl, T, no _ (by decide), .inl ⟨e, fun dx hd na => ?_⟩⟩
    refine ⟨_, rfl, _, rfl, a, C, rfl, T, no _ (by decide), .inr ⟨dx, [("what", y)], upd_same, by rw [upd_ne na, upd_same], Nat.le_of_ble_eq_true rfl, ?_⟩⟩
    have z2 := q dx hd na
    have e2 : upd (upd (upd H dx (exd dx [("what", y)])) a (exo a C (some dx))) dx (exd dx [("limit", z), ("what", y)]) = upd (upd H dx (exd dx [("limit", z), ("what", y)])) a (exo a C (some dx)) := by
      funext b
      by_cases h1 : b = dx
      · rw [h1, upd_same, upd_ne na, upd_same]
      · rw [upd_ne h1]
        by_cases h2 : b = a
        · rw [h2, upd_same, upd_same]
        · rw [upd_ne h2, upd_ne h1, upd_ne h2, upd_ne h1]
    show Q .non _
    rw [e2]
    exact z2
end
end TW

set_option Elab.async false
set_option linter.all false
set_option maxRecDepth 100000
set_option maxHeartbeats 4000000
namespace TW
open PySem PySem.Spec PyProof.Rows L2
local macro_rules | `(tactic| walk_at "ev") => `(tactic| repeat' (first
  | with_reducible exact e_int | with_reducible exact e_str | with_reducible exact e_bl | with_reducible exact e_non
  | exact e_vint rfl | exact e_vstr rfl | exact e_vbl rfl | exact e_vnon rfl | exact e_var rfl (by assumption)
  | exact e_sqv rfl (by assumption) | exact e_dkI rfl (by assumption) rfl
  | with_reducible apply e_call | with_reducible apply e_intc | with_reducible apply e_abs
  | with_reducible apply e_intop | with_reducible apply e_cmp | with_reducible apply e_intopC
  | with_reducible apply e_len | with_reducible apply e_pow | with_reducible apply e_min2 | with_reducible apply e_max2
  | with_reducible exact a_nil | with_reducible apply a_cons
  | with_reducible apply t_ofB | with_reducible apply t_of
  | (with_reducible apply mulR; omega) | (with_reducible apply mulL; omega) | (with_reducible show (_ < _); omega)))
section
variable {P : Program} {w : World} {K : PySem.W.Frag} {mg : Str → Option Value} {base : Heap} {CF : Addr}
theorem sc_Floor_init : FnScope ["self", "rows", "row", "y", "x"] ["self", "rows"] (defScope (inClass (top 27) 0)) := ⟨rfl, rfl, rfl, by decide +kernel, rfl, by decide +kernel, by decide +kernel⟩
theorem ok_Floor_init {f : Addr} {fd : FuncData} (F : FunD K "__init__" "Floor.__init__" (defArgs (inClass (top 27) 0)) (defBody (inClass (top 27) 0)) (defScope (inClass (top 27) 0)) [] [] f fd) (tx : Tx w K mg CF) (G_check_rows : Gf P w K mg base "check_rows" 4 (sp_check_rows K mg CF)) : FnOk P w K mg base (L2.CX P w) 5 f fd ["self", "rows"] (sp_Floor_init K mg CF) := by
  refine F.ok sc_Floor_init (fun vs H Q E h => ?_) (fun cdv A outer s H vs Q E hr h => ?_)
  · first | (obtain ⟨_, rfl, _⟩ := h; rfl) | (obtain ⟨_, _, rfl, _⟩ := h; rfl) | (obtain ⟨_, _, _, rfl, _⟩ := h; rfl) | (obtain ⟨_, _, _, _, rfl, _⟩ := h; rfl) | (obtain ⟨_, _, _, _, _, rfl, _⟩ := h; rfl) | (obtain ⟨_, _, _, _, _, _, rfl, _⟩ := h; rfl) | (obtain ⟨_, _, _, _, _, _, _, rfl, _⟩ := h; rfl) | (obtain ⟨_, _, _, _, _, _, _, _, rfl, _⟩ := h; rfl) | exact spInit_len h rfl | exact spO_len h (by intro ds o hh; first | (obtain ⟨_, rfl, _⟩ := hh; rfl) | (obtain ⟨_, _, rfl, _⟩ := hh; rfl) | (obtain ⟨_, _, _, rfl, _⟩ := hh; rfl) | (obtain ⟨_, _, _, _, rfl, _⟩ := hh; rfl) | (obtain ⟨_, _, _, _, _, rfl, _⟩ := hh; rfl) | (obtain ⟨_, _, _, _, _, _, rfl, _⟩ := hh; rfl))
  refine ⟨_, (pss_cons (ps_expr (pe_g G_check_rows (hr.mono (by decide)) (takes_of rfl rfl rfl rfl) (pa_cons (pv 1) pa_nil)))
    (pss_cons (ps_fld (pv 0) (pe_tuple tx.bt (pe_lc (te := (tB1 (rTupQ K) (tVar 2))) (own := [("row", 2)]) (g := (gName 2)) (tt := tYes) rfl sc_Floor_init.nd (pi_seq (pv 1)) (blkOk_by (own := [("row", 2)]) (N := ["self", "rows", "row", "y", "x"]) (sc := defScope (inClass (top 27) 0)) (by decide +kernel)) (fun _ _ _ _ _ => (pg_name (i := 2) sc_Floor_init.nd rfl (by first | exact Or.inl rfl | exact Or.inr rfl))) (fun _ _ _ _ _ => pts_nil) (fun _ _ _ _ _ => (pe_tuple tx.bt (pv 2))))) rfl)
    (pss_cons (ps_fld (pv 0) (pe_len tx.bt (pe_fld (pv 0) rfl)) rfl)
    (pss_cons (ps_fld (pv 0) (pe_len tx.bt (pe_ix ix_seq (pe_fld (pv 0) rfl) pe_int (fun _ _ => rfl))) rfl)
    (pss_one (ps_fld (pv 0) (pe_tuple tx.bt (pe_lc2 (te := (tTup (tCons (tVar 3) (tCons (tVar 4) tNil)))) (tt1 := (tTest (tOp (rNeD K) (tOp (rIx K) (tOp (rIx K) (tFld K (tVar 0) "rows") (tVar 3)) (tVar 4)) (tC (V.str "#"))))) (wi1 := iRng1 (tCons (tFld K (tVar 0) "w") tNil)) (own := [("y", 3), ("x", 4)]) (vs1 := [4]) (g := (gName 3)) (tt := tYes) (g1 := (gName 4)) rfl sc_Floor_init.nd (pi_range1 rfl tx.bt.range (pa_cons (pe_fld (pv 0) rfl) pa_nil)) (blkOk_by (own := [("y", 3), ("x", 4)]) (N := ["self", "rows", "row", "y", "x"]) (sc := defScope (inClass (top 27) 0)) (by decide +kernel)) (by decide) (fun _ _ _ _ _ => (pg_name (i := 3) sc_Floor_init.nd rfl (by first | exact Or.inl rfl | exact Or.inr rfl))) (fun _ _ _ _ _ => pts_nil) (fun _ _ _ _ _ => (pi_range1 rfl tx.bt.range (pa_cons (pe_fld (pv 0) rfl) pa_nil))) (fun _ _ _ _ _ => (pg_name (i := 4) sc_Floor_init.nd rfl (by first | exact Or.inl rfl | exact Or.inr rfl))) (fun _ _ _ _ _ => (pts_one (pt_cmpR (op_neD hr.units) (pe_ix ix_seq (pe_ix ix_seq (pe_fld (pv 0) rfl) (pv 3) (fun _ _ => rfl)) (pv 4) (fun _ _ => rfl)) (pe_gs tx.WALL_floors) (nomark _)))) (fun _ _ _ _ _ => (pe_tup (pa_cons (pv 3) (pa_cons (pv 4) pa_nil)))))) rfl)))))), ?_⟩
  try dsimp only [cxOf]
  obtain ⟨a, dx, v, F, rfl, e0, h0, q⟩ := h
  have hm := F.hm
  have wm := F.wm
  have hh1 := F.h1
  have l1 : F.rows.length = F.h := by unfold Fl.rows rowsL; simp
  have l2 : ∀ f : Int → T, (rowL F.w f).length = F.w := fun f => by unfold rowL; simp
  have at0 : atI F.rows 0 = some (.tup (rowL F.w fun x => (F.it (0, x)).t)) := atI_rows (f := fun c => (F.it c).t) (Int.le_refl _) (by omega)
  with_reducible apply s_seq
  refine s_drop K (e_call (d := .im .non) (a_cons (e_var rfl h0) a_nil) ⟨F, rfl, rfl⟩) fun _ H1 s1 _ => ?_
  with_reducible apply s_seq
  refine s_fld K rfl (s1 _ _ e0) tx.fl.c tx.fl.rows (by decide) (d := .im (.tup F.rows)) (e_tuple (n_genA (enc := fun y : Nat => T.tup (rowL F.w fun x => (F.it ((y : Int), x)).t)) (xs := List.range F.h) (f := fun y : Nat => T.tup (rowL F.w fun x => (F.it ((y : Int), x)).t)) (i_seq (Ev.sq_im (e_var rfl (s1.is h0)))) (by simp; omega) fun i y u H2 hy s2 im => ?_).ev.sq_ls) fun r H2 s2 hr2 => ?_
  · exact ⟨_, fun k z => z, rfl, e_tuple (Ev.sq_im (e_var rfl (show Is K H2 u (.im _) from im)))⟩
  have e2 := s2 _ _ (s1 _ _ e0)
  generalize hH3 : upd H2 a (.ins CF dx (putF "rows" r [])) = H3
  have k3 : Keep H2 H3 := by rw [← hH3]; exact keep_mut (by rw [e2]; trivial)
  have e3 : H3 a = some (.ins CF dx [("rows", r)]) := by rw [← hH3, upd_same]; rfl
  have m3 : Sm a H H3 := by rw [← hH3]; exact (s1.trans s2).sm.upd
  have hr3 : Is K H3 r (.im (.tup F.rows)) := Im.mono k3 hr2
  with_reducible apply s_seq
  refine s_fld K rfl e3 tx.fl.c tx.fl.h (Nat.lt_of_le_of_lt (Nat.le_of_ble_eq_true (m := 1) rfl) (by decide)) (d := .im (.int (F.h : Int))) (ev_eq (e_len (Ev.sq_im (e_fldS rfl e3 tx.fl.c tx.fl.rows rfl hr3))) (by rw [l1])) fun v4 H4 s4 h4 => ?_
  rw [h4.iv]
  have e4' := s4 _ _ e3
  generalize hH5 : upd H4 a (.ins CF dx (putF "h" (.int (F.h : Int)) [("rows", r)])) = H5
  have k5 : Keep H4 H5 := by rw [← hH5]; exact keep_mut (by rw [e4']; trivial)
  have e5 : H5 a = some (.ins CF dx [("rows", r), ("h", .int (F.h : Int))]) := by rw [← hH5, upd_same]; rfl
  have m5 : Sm a H H5 := by rw [← hH5]; exact (m3.trans s4.sm).upd
  have hr5 : Is K H5 r (.im (.tup F.rows)) := Im.mono k5 (s4.is hr3)
  with_reducible apply s_seq
  refine s_fld K rfl e5 tx.fl.c tx.fl.w (Nat.lt_of_le_of_lt (Nat.le_of_ble_eq_true (m := 2) rfl) (by decide)) (d := .im (.int (F.w : Int))) (ev_eq (e_len (Ev.sq_im (e_ix (Ev.sq_im (e_fldS rfl e5 tx.fl.c tx.fl.rows rfl hr5)) e_int at0))) (by rw [l2])) fun v6 H6 s6 h6 => ?_
  rw [h6.iv]
  have e6' := s6 _ _ e5
  generalize hH7 : upd H6 a (.ins CF dx (putF "w" (.int (F.w : Int)) [("rows", r), ("h", .int (F.h : Int))])) = H7
  have k7 : Keep H6 H7 := by rw [← hH7]; exact keep_mut (by rw [e6']; trivial)
  have e7 : H7 a = some (.ins CF dx [("rows", r), ("h", .int (F.h : Int)), ("w", .int (F.w : Int))]) := by rw [← hH7, upd_same]; rfl
  have m7 : Sm a H H7 := by rw [← hH7]; exact (m5.trans s6.sm).upd
  have hr7 : Is K H7 r (.im (.tup F.rows)) := Im.mono k7 (s6.is hr5)
  refine s_fld K rfl e7 tx.fl.c tx.fl.cells (Nat.lt_of_le_of_lt (Nat.le_of_ble_eq_true (m := 3) rfl) (by decide)) (d := .im (.tup (F.opens.map cellT))) (ev_eq (e_tuple (n_gen2 (enc := fun y : Nat => T.int (y : Int)) (xs := List.range F.h) (enc1 := fun (_ : Nat) (x : Nat) => T.int (x : Int)) (ys := fun _ => List.range F.w) (p := fun y x => !decide (F.it ((y : Int), (x : Int)) = .wall)) (f := fun y x => cellT ((y : Int), (x : Int)))
    (i_rng1 (j := (F.h : Int)) (a_cons (e_fldS rfl e7 tx.fl.c tx.fl.h rfl (Im.int _)) a_nil) (by omega)) (by simp; omega) (fun _ => by simp; omega) fun i y u H8 hy s8 im => ?_).ev.sq_ls) ?_) fun c H8 s8 hc => ?_
  · rw [im.int_inv]
    refine ⟨_, fun k z => z, rfl, i0_rng1 (j := (F.w : Int)) (a_cons (e_fldS rfl e7 tx.fl.c tx.fl.w rfl (Im.int _)) a_nil) (by omega), fun j x w H9 hx s9 _ im9 => ?_⟩
    rw [im9.int_inv]
    have hy2 := List.mem_range.mp (List.mem_of_getElem? hy)
    have hx2 := List.mem_range.mp (List.mem_of_getElem? hx)
    refine ⟨_, fun k z => z, rfl, ?_, fun _ => e_tup (ts := [.int (y : Int), .int (x : Int)]) (a_cons (e_vint rfl) (a_cons (e_vint rfl) a_nil)) (by rfl) (Nat.le_of_ble_eq_true rfl)⟩
    exact t_of (e_noWall (e_mat (f := fun c => (F.it c).t) (h := F.h) (w := F.w) (e_fldS rfl (s9 _ _ e7) tx.fl.c tx.fl.rows rfl (s9.is hr7)) (e_vint rfl) (e_vint rfl) (by omega) (by omega) (by omega) (by omega)) e_str)
  · congr 2
    unfold Fl.opens Fl.all
    rw [List.filter_flatMap, List.map_flatMap]
    congr 1
    funext y
    rw [List.filter_map, List.map_map]
    rfl
  have e8 := s8 _ _ e7
  generalize hH9 : upd H8 a (.ins CF dx (putF "cells" c [("rows", r), ("h", .int (F.h : Int)), ("w", .int (F.w : Int))])) = H9
  have k9 : Keep H8 H9 := by rw [← hH9]; exact keep_mut (by rw [e8]; trivial)
  refine q H9 ?_ ⟨a, rfl, dx, r, c, ?_, Im.mono k9 (s8.is hr7), Im.mono k9 hc⟩
  · rw [← hH9]
    exact (m7.trans s8.sm).upd
  · rw [← hH9, upd_same]
    rfl
end
end TW

set_option Elab.async false
set_option linter.all false
set_option maxRecDepth 100000
set_option maxHeartbeats 4000000
namespace TW
open PySem PySem.Spec PyProof.Rows L2
local macro_rules | `(tactic| walk_at "ev") => `(tactic| repeat' (first
  | with_reducible exact e_int | with_reducible exact e_str | with_reducible exact e_bl | with_reducible exact e_non
  | exact e_vint rfl | exact e_vstr rfl | exact e_vbl rfl | exact e_vnon rfl | exact e_var rfl (by assumption)
  | exact e_sqv rfl (by assumption) | exact e_dkI rfl (by assumption) rfl
  | with_reducible apply e_call | with_reducible apply e_intc | with_reducible apply e_abs
  | with_reducible apply e_intop | with_reducible apply e_cmp | with_reducible apply e_intopC
  | with_reducible apply e_len | with_reducible apply e_pow | with_reducible apply e_min2 | with_reducible apply e_max2
  | with_reducible exact a_nil | with_reducible apply a_cons
  | with_reducible apply t_ofB | with_reducible apply t_of
  | (with_reducible apply mulR; omega) | (with_reducible apply mulL; omega) | (with_reducible show (_ < _); omega)))
section
variable {P : Program} {w : World} {K : PySem.W.Frag} {mg : Str → Option Value} {base : Heap} {CF : Addr}
theorem sc_law_is_integer : FnScope ["actual"] ["actual"] (defScope (top 63)) := ⟨rfl, rfl, rfl, by decide +kernel, rfl, by decide +kernel, by decide +kernel⟩
theorem ok_law_is_integer {f : Addr} {fd : FuncData} (F : FunD K "_law_is_integer" "_law_is_integer" (defArgs (top 63)) (defBody (top 63)) (defScope (top 63)) [] [] f fd) (tx : Tx w K mg CF) : FnOk P w K mg base (L2.CX P w) 1 f fd ["actual"] (sp_law_is_integer K mg CF) := by
  refine F.ok sc_law_is_integer (fun vs H Q E h => ?_) (fun cdv A outer s H vs Q E hr h => ?_)
  · first | (obtain ⟨_, rfl, _⟩ := h; rfl) | (obtain ⟨_, _, rfl, _⟩ := h; rfl) | (obtain ⟨_, _, _, rfl, _⟩ := h; rfl) | (obtain ⟨_, _, _, _, rfl, _⟩ := h; rfl) | (obtain ⟨_, _, _, _, _, rfl, _⟩ := h; rfl) | (obtain ⟨_, _, _, _, _, _, rfl, _⟩ := h; rfl) | (obtain ⟨_, _, _, _, _, _, _, rfl, _⟩ := h; rfl) | (obtain ⟨_, _, _, _, _, _, _, _, rfl, _⟩ := h; rfl) | exact spInit_len h rfl | exact spO_len h (by intro ds o hh; first | (obtain ⟨rfl, _⟩ := hh; rfl) | (obtain ⟨_, rfl, _⟩ := hh; rfl) | (obtain ⟨_, _, rfl, _⟩ := hh; rfl) | (obtain ⟨_, _, _, rfl, _⟩ := hh; rfl) | (obtain ⟨_, _, _, _, rfl, _⟩ := hh; rfl) | (obtain ⟨_, _, _, _, _, rfl, _⟩ := hh; rfl) | (obtain ⟨_, _, _, _, _, _, rfl, _⟩ := hh; rfl))
  refine ⟨_, (pss_one (ps_ret (pe_and (pe_isi_int tx.bt (pv 0)) (pe_one (pe_not (pe_isi_bool tx.bt (pv 0))))))), ?_⟩
  try dsimp only [cxOf]
  obtain ⟨ds, o, hi, ⟨t, rfl, rfl⟩, q⟩ := h
  obtain ⟨v1, rfl, h1⟩ := hi.one_inv
  cases t with
  | int n => exact s_ret K (ev_eq (e_and (e_isi (e_var rfl h1) kit_int_int) fun _ => e_not (e_isi (e_var rfl h1) kit_int_bool)) (by rfl)) q
  | bl b => exact s_ret K (ev_eq (e_and (c := false) (e_isi (e_var rfl h1) kit_bool_int) fun _ => ev_eq (e_not (e_isi (e_var rfl h1) kit_bool_bool)) (by rfl)) (by rfl)) q
  | str n => exact s_ret K (ev_eq (e_and (c := false) (e_isi (e_var rfl h1) kit_str_int) fun z => by cases z) (by rfl)) q
  | tup n => exact s_ret K (ev_eq (e_and (c := false) (e_isi (e_var rfl h1) kit_tup_int) fun z => by cases z) (by rfl)) q
  | non => exact s_ret K (ev_eq (e_and (c := false) (e_isi (e_var rfl h1) kit_non_int) fun z => by cases z) (by rfl)) q
theorem sc_law_orders : FnScope [] [] (defScope (top 66)) := ⟨rfl, rfl, rfl, by decide +kernel, rfl, by decide +kernel, by decide +kernel⟩
theorem ok_law_orders {f : Addr} {fd : FuncData} (F : FunD K "_law_orders" "_law_orders" (defArgs (top 66)) (defBody (top 66)) (defScope (top 66)) [] [] f fd) (tx : Tx w K mg CF) : FnOk P w K mg base (L2.CX P w) 1 f fd [] (sp_law_orders K mg CF) := by
  refine F.ok sc_law_orders (fun vs H Q E h => ?_) (fun cdv A outer s H vs Q E hr h => ?_)
  · first | (obtain ⟨_, rfl, _⟩ := h; rfl) | (obtain ⟨_, _, rfl, _⟩ := h; rfl) | (obtain ⟨_, _, _, rfl, _⟩ := h; rfl) | (obtain ⟨_, _, _, _, rfl, _⟩ := h; rfl) | (obtain ⟨_, _, _, _, _, rfl, _⟩ := h; rfl) | (obtain ⟨_, _, _, _, _, _, rfl, _⟩ := h; rfl) | (obtain ⟨_, _, _, _, _, _, _, rfl, _⟩ := h; rfl) | (obtain ⟨_, _, _, _, _, _, _, _, rfl, _⟩ := h; rfl) | exact spInit_len h rfl | exact spO_len h (by intro ds o hh; first | (obtain ⟨rfl, _⟩ := hh; rfl) | (obtain ⟨_, rfl, _⟩ := hh; rfl) | (obtain ⟨_, _, rfl, _⟩ := hh; rfl) | (obtain ⟨_, _, _, rfl, _⟩ := hh; rfl) | (obtain ⟨_, _, _, _, rfl, _⟩ := hh; rfl) | (obtain ⟨_, _, _, _, _, rfl, _⟩ := hh; rfl) | (obtain ⟨_, _, _, _, _, _, rfl, _⟩ := hh; rfl))
  refine ⟨_, (pss_one (ps_ret (pe_tup (pa_cons pe_str (pa_cons pe_str (pa_cons pe_str (pa_cons pe_str (pa_cons pe_str (pa_cons pe_str (pa_cons pe_str (pa_cons pe_str pa_nil))))))))))), ?_⟩
  try dsimp only [cxOf]
  obtain ⟨ds, o, hi, ⟨rfl, rfl⟩, q⟩ := h
  rw [hi.nil_inv]
  exact s_ret K (e_tup (ts := orderStrs.map T.str) (a_cons e_str (a_cons e_str (a_cons e_str (a_cons e_str (a_cons e_str (a_cons e_str (a_cons e_str (a_cons e_str a_nil)))))))) (by rfl) (by decide)) q
theorem sc_law_key : FnScope ["order", "cell", "down", "side"] ["order", "cell"] (defScope (top 69)) := ⟨rfl, rfl, rfl, by decide +kernel, rfl, by decide +kernel, by decide +kernel⟩
theorem ok_law_key {f : Addr} {fd : FuncData} (F : FunD K "_law_key" "_law_key" (defArgs (top 69)) (defBody (top 69)) (defScope (top 69)) [] [] f fd) (tx : Tx w K mg CF) : FnOk P w K mg base (L2.CX P w) 1 f fd ["order", "cell"] (sp_law_key K mg CF) := by
  refine F.ok sc_law_key (fun vs H Q E h => ?_) (fun cdv A outer s H vs Q E hr h => ?_)
  · first | (obtain ⟨_, rfl, _⟩ := h; rfl) | (obtain ⟨_, _, rfl, _⟩ := h; rfl) | (obtain ⟨_, _, _, rfl, _⟩ := h; rfl) | (obtain ⟨_, _, _, _, rfl, _⟩ := h; rfl) | (obtain ⟨_, _, _, _, _, rfl, _⟩ := h; rfl) | (obtain ⟨_, _, _, _, _, _, rfl, _⟩ := h; rfl) | (obtain ⟨_, _, _, _, _, _, _, rfl, _⟩ := h; rfl) | (obtain ⟨_, _, _, _, _, _, _, _, rfl, _⟩ := h; rfl) | exact spInit_len h rfl | exact spO_len h (by intro ds o hh; first | (obtain ⟨rfl, _⟩ := hh; rfl) | (obtain ⟨_, rfl, _⟩ := hh; rfl) | (obtain ⟨_, _, rfl, _⟩ := hh; rfl) | (obtain ⟨_, _, _, rfl, _⟩ := hh; rfl) | (obtain ⟨_, _, _, _, rfl, _⟩ := hh; rfl) | (obtain ⟨_, _, _, _, _, rfl, _⟩ := hh; rfl) | (obtain ⟨_, _, _, _, _, _, rfl, _⟩ := hh; rfl))
  refine ⟨_, (pss_cons (ps_asg (pe_ix ix_seq (pv 1) pe_int (fun _ _ => rfl)) (pg_name (i := 2) sc_law_key.nd rfl (by first | exact Or.inl rfl | exact Or.inr rfl)))
    (pss_cons (ps_asg (pe_ix ix_seq (pv 1) pe_int (fun _ _ => rfl)) (pg_name (i := 3) sc_law_key.nd rfl (by first | exact Or.inl rfl | exact Or.inr rfl)))
    (pss_cons (ps_if (pt_cmpR (op_eqD hr.units) (pe_ix ix_seq (pv 0) pe_int (fun _ _ => rfl)) pe_str (nomark _))
    (pss_one (ps_asg (pe_op op_sub pe_int (pv 2)) (pg_name (i := 2) sc_law_key.nd rfl (by first | exact Or.inl rfl | exact Or.inr rfl))))
    pss_nil)
    (pss_cons (ps_if (pt_cmpR (op_eqD hr.units) (pe_ix ix_seq (pv 0) pe_int (fun _ _ => rfl)) pe_str (nomark _))
    (pss_one (ps_asg (pe_op op_sub pe_int (pv 3)) (pg_name (i := 3) sc_law_key.nd rfl (by first | exact Or.inl rfl | exact Or.inr rfl))))
    pss_nil)
    (pss_cons (ps_if (pt_cmpR (op_eqD hr.units) (pe_ix ix_seq (pv 0) pe_int (fun _ _ => rfl)) pe_str (nomark _))
    (pss_one (ps_ret (pe_tup (pa_cons (pv 2) (pa_cons (pv 3) pa_nil)))))
    pss_nil)
    (pss_one (ps_ret (pe_tup (pa_cons (pv 3) (pa_cons (pv 2) pa_nil)))))))))), ?_⟩
  try dsimp only [cxOf]
  obtain ⟨ds, o, hi, ⟨a, c, rfl, rfl⟩, q⟩ := h
  obtain ⟨v1, v2, rfl, h1, h2⟩ := hi.two_inv
  rw [h1.sv]
  with_reducible apply s_seq
  refine s_setI K (e_ix (ts := [.int c.1, .int c.2]) (Ev.sq_im (e_var rfl h2)) e_int (by rfl)) fun H1 s1 => ?_
  with_reducible apply s_seq
  refine s_setI K (e_ix (ts := [.int c.1, .int c.2]) (Ev.sq_im (e_var rfl (s1.is h2))) e_int (by rfl)) fun H2 s2 => ?_
  have s12 := s1.trans s2
  refine s_cut (fun σ' H' => σ' = [some (.str a.str), some v2, some (.int (a.sy * c.1)), some (.int c.2)] ∧ Same H H') ?_ fun k1 => ?_
  rotate_left
  · refine s_if K (b := !a.d) (t_of (ev_eq (e_eq (e_ixS (e_vstr rfl) e_int (ord_len' a) (ord_c1 a)) e_str (okd_c _ (by split <;> omega)) (okd_s (by decide +kernel))) (by rw [beq_u]))) (fun hb H3 s3 => ?_) (fun hb H3 s3 => ?_)
    · refine s_setI K (e_intop e_int (e_vint rfl)) fun H4 s4 => k1 _ _ ⟨?_, s12.trans (s3.trans s4)⟩
      have e : a.d = false := by simpa using hb
      have e2 : a.sy * c.1 = 0 - c.1 := by unfold Ord.sy; rw [e]; simp
      rw [e2]
      try rfl
    · refine s_next (k1 _ _ ⟨?_, s12.trans s3⟩)
      have e : a.d = true := by simpa using hb
      have e2 : a.sy * c.1 = c.1 := by unfold Ord.sy; rw [e]; simp
      rw [e2]
      try rfl
  rintro σ' H3 ⟨rfl, s3⟩
  refine s_cut (fun σ' H' => σ' = [some (.str a.str), some v2, some (.int (a.sy * c.1)), some (.int (a.sx * c.2))] ∧ Same H H') ?_ fun k2 => ?_
  rotate_left
  · refine s_if K (b := !a.x) (t_of (ev_eq (e_eq (e_ixS (e_vstr rfl) e_int (ord_len' a) (ord_c2 a)) e_str (okd_c _ (by split <;> omega)) (okd_s (by decide +kernel))) (by rw [beq_l]))) (fun hb H4 s4 => ?_) (fun hb H4 s4 => ?_)
    · refine s_setI K (e_intop e_int (e_vint rfl)) fun H5 s5 => k2 _ _ ⟨?_, s3.trans (s4.trans s5)⟩
      have e : a.x = false := by simpa using hb
      have e2 : a.sx * c.2 = 0 - c.2 := by unfold Ord.sx; rw [e]; simp
      rw [e2]
      try rfl
    · refine s_next (k2 _ _ ⟨?_, s3.trans s4⟩)
      have e : a.x = true := by simpa using hb
      have e2 : a.sx * c.2 = c.2 := by unfold Ord.sx; rw [e]; simp
      rw [e2]
      try rfl
  rintro σ' H4 ⟨rfl, s4⟩
  with_reducible apply s_seq
  refine s_if K (b := a.r) (t_of (ev_eq (e_eq (e_ixS (e_vstr rfl) e_int (ord_len' a) (ord_c0 a)) e_str (okd_c _ (by split <;> omega)) (okd_s (by decide +kernel))) (by rw [beq_r]))) (fun hb H5 s5 => ?_) (fun hb H5 s5 => ?_)
  · refine s_ret K (e_tup (ts := [.int (a.sy * c.1), .int (a.sx * c.2)]) (a_cons (e_vint rfl) (a_cons (e_vint rfl) a_nil)) (by rfl) (Nat.le_of_ble_eq_true rfl)) fun v H6 s6 hv => q v H6 (s4.trans (s5.trans s6)) ?_
    rw [Ord.key, hb]
    exact hv
  · with_reducible apply s_next
    refine s_ret K (e_tup (ts := [.int (a.sx * c.2), .int (a.sy * c.1)]) (a_cons (e_vint rfl) (a_cons (e_vint rfl) a_nil)) (by rfl) (Nat.le_of_ble_eq_true rfl)) fun v H6 s6 hv => q v H6 (s4.trans (s5.trans s6)) ?_
    rw [Ord.key, hb]
    exact hv
theorem sc_law_is_ahead : FnScope ["order", "move"] ["order", "move"] (defScope (top 70)) := ⟨rfl, rfl, rfl, by decide +kernel, rfl, by decide +kernel, by decide +kernel⟩
theorem ok_law_is_ahead {f : Addr} {fd : FuncData} (F : FunD K "_law_is_ahead" "_law_is_ahead" (defArgs (top 70)) (defBody (top 70)) (defScope (top 70)) [] [] f fd) (tx : Tx w K mg CF) (G_law_key : Gf P w K mg base "_law_key" 1 (sp_law_key K mg CF)) : FnOk P w K mg base (L2.CX P w) 2 f fd ["order", "move"] (sp_law_is_ahead K mg CF) := by
  refine F.ok sc_law_is_ahead (fun vs H Q E h => ?_) (fun cdv A outer s H vs Q E hr h => ?_)
  · first | (obtain ⟨_, rfl, _⟩ := h; rfl) | (obtain ⟨_, _, rfl, _⟩ := h; rfl) | (obtain ⟨_, _, _, rfl, _⟩ := h; rfl) | (obtain ⟨_, _, _, _, rfl, _⟩ := h; rfl) | (obtain ⟨_, _, _, _, _, rfl, _⟩ := h; rfl) | (obtain ⟨_, _, _, _, _, _, rfl, _⟩ := h; rfl) | (obtain ⟨_, _, _, _, _, _, _, rfl, _⟩ := h; rfl) | (obtain ⟨_, _, _, _, _, _, _, _, rfl, _⟩ := h; rfl) | exact spInit_len h rfl | exact spO_len h (by intro ds o hh; first | (obtain ⟨rfl, _⟩ := hh; rfl) | (obtain ⟨_, rfl, _⟩ := hh; rfl) | (obtain ⟨_, _, rfl, _⟩ := hh; rfl) | (obtain ⟨_, _, _, rfl, _⟩ := hh; rfl) | (obtain ⟨_, _, _, _, rfl, _⟩ := hh; rfl) | (obtain ⟨_, _, _, _, _, rfl, _⟩ := hh; rfl) | (obtain ⟨_, _, _, _, _, _, rfl, _⟩ := hh; rfl))
  refine ⟨_, (pss_one (ps_ret (pe_cmpR (op_gtT hr.units0) (pe_g G_law_key (hr.mono (by decide)) (takes_of rfl rfl rfl rfl) (pa_cons (pv 0) (pa_cons (pv 1) pa_nil))) (pe_tup (pa_cons pe_int (pa_cons pe_int pa_nil))) (nomark _)))), ?_⟩
  try dsimp only [cxOf]
  obtain ⟨ds, o, hi, ⟨a, c, rfl, rfl⟩, q⟩ := h
  obtain ⟨v1, v2, rfl, h1, h2⟩ := hi.two_inv
  rw [h1.sv]
  exact s_ret K (e_gtP (p := a.key c) (q := (0, 0)) (e_call (a_cons (e_vstr rfl) (a_cons (e_var rfl h2) a_nil)) ⟨a, c, rfl, rfl⟩) (e_tup (ts := [.int 0, .int 0]) (a_cons e_int (a_cons e_int a_nil)) (by rfl) (Nat.le_of_ble_eq_true rfl))) q
theorem sc_law_counter : FnScope ["order", "down", "side"] ["order"] (defScope (top 71)) := ⟨rfl, rfl, rfl, by decide +kernel, rfl, by decide +kernel, by decide +kernel⟩
theorem ok_law_counter {f : Addr} {fd : FuncData} (F : FunD K "_law_counter" "_law_counter" (defArgs (top 71)) (defBody (top 71)) (defScope (top 71)) [] [] f fd) (tx : Tx w K mg CF) : FnOk P w K mg base (L2.CX P w) 1 f fd ["order"] (sp_law_counter K mg CF) := by
  refine F.ok sc_law_counter (fun vs H Q E h => ?_) (fun cdv A outer s H vs Q E hr h => ?_)
  · first | (obtain ⟨_, rfl, _⟩ := h; rfl) | (obtain ⟨_, _, rfl, _⟩ := h; rfl) | (obtain ⟨_, _, _, rfl, _⟩ := h; rfl) | (obtain ⟨_, _, _, _, rfl, _⟩ := h; rfl) | (obtain ⟨_, _, _, _, _, rfl, _⟩ := h; rfl) | (obtain ⟨_, _, _, _, _, _, rfl, _⟩ := h; rfl) | (obtain ⟨_, _, _, _, _, _, _, rfl, _⟩ := h; rfl) | (obtain ⟨_, _, _, _, _, _, _, _, rfl, _⟩ := h; rfl) | exact spInit_len h rfl | exact spO_len h (by intro ds o hh; first | (obtain ⟨rfl, _⟩ := hh; rfl) | (obtain ⟨_, rfl, _⟩ := hh; rfl) | (obtain ⟨_, _, rfl, _⟩ := hh; rfl) | (obtain ⟨_, _, _, rfl, _⟩ := hh; rfl) | (obtain ⟨_, _, _, _, rfl, _⟩ := hh; rfl) | (obtain ⟨_, _, _, _, _, rfl, _⟩ := hh; rfl) | (obtain ⟨_, _, _, _, _, _, rfl, _⟩ := hh; rfl))
  refine ⟨_, (pss_cons (ps_asg pe_str (pg_name (i := 1) sc_law_counter.nd rfl (by first | exact Or.inl rfl | exact Or.inr rfl)))
    (pss_cons (ps_asg pe_str (pg_name (i := 2) sc_law_counter.nd rfl (by first | exact Or.inl rfl | exact Or.inr rfl)))
    (pss_cons (ps_if (pt_cmpR (op_eqD hr.units) (pe_ix ix_seq (pv 0) pe_int (fun _ _ => rfl)) pe_str (nomark _))
    (pss_one (ps_asg pe_str (pg_name (i := 1) sc_law_counter.nd rfl (by first | exact Or.inl rfl | exact Or.inr rfl))))
    pss_nil)
    (pss_cons (ps_if (pt_cmpR (op_eqD hr.units) (pe_ix ix_seq (pv 0) pe_int (fun _ _ => rfl)) pe_str (nomark _))
    (pss_one (ps_asg pe_str (pg_name (i := 2) sc_law_counter.nd rfl (by first | exact Or.inl rfl | exact Or.inr rfl))))
    pss_nil)
    (pss_one (ps_ret (pe_op op_add_str (pe_op op_add_str (pe_ix ix_seq (pv 0) pe_int (fun _ _ => rfl)) (pv 1)) (pv 2)))))))), ?_⟩
  try dsimp only [cxOf]
  obtain ⟨ds, o, hi, ⟨a, rfl, rfl⟩, q⟩ := h
  obtain ⟨v1, rfl, h1⟩ := hi.one_inv
  rw [h1.sv]
  with_reducible apply s_seq
  refine s_setS K e_str fun H1 s1 => ?_
  with_reducible apply s_seq
  refine s_setS K e_str fun H2 s2 => ?_
  have s12 := s1.trans s2
  refine s_cut (fun σ' H' => σ' = [some (.str a.str), some (.str (if a.d then "u" else "d")), some (.str "r")] ∧ Same H H') ?_ fun k1 => ?_
  rotate_left
  · refine s_if K (b := a.d) (t_of (ev_eq (e_eq (e_ixS (e_vstr rfl) e_int (ord_len' a) (ord_c1 a)) e_str (okd_c _ (by split <;> omega)) (okd_s (by decide +kernel))) (by rw [beq_d]))) (fun hb H3 s3 => ?_) (fun hb H3 s3 => ?_)
    · refine s_setS K e_str fun H4 s4 => k1 _ _ ⟨?_, s12.trans (s3.trans s4)⟩
      rw [hb]
      try rfl
    · refine s_next (k1 _ _ ⟨?_, s12.trans s3⟩)
      rw [hb]
      try rfl
  rintro σ' H3 ⟨rfl, s3⟩
  refine s_cut (fun σ' H' => σ' = [some (.str a.str), some (.str (if a.d then "u" else "d")), some (.str (if a.x then "l" else "r"))] ∧ Same H H') ?_ fun k1 => ?_
  rotate_left
  · refine s_if K (b := a.x) (t_of (ev_eq (e_eq (e_ixS (e_vstr rfl) e_int (ord_len' a) (ord_c2 a)) e_str (okd_c _ (by split <;> omega)) (okd_s (by decide +kernel))) (by rw [beq_x]))) (fun hb H4 s4 => ?_) (fun hb H4 s4 => ?_)
    · refine s_setS K e_str fun H5 s5 => k1 _ _ ⟨?_, s3.trans (s4.trans s5)⟩
      rw [hb]
      try rfl
    · refine s_next (k1 _ _ ⟨?_, s3.trans s4⟩)
      rw [hb]
      try rfl
  rintro σ' H4 ⟨rfl, s4⟩
  refine s_ret K (ev_eq (e_addS (e_addS (e_ixS (e_vstr rfl) e_int (ord_len' a) (ord_c0 a)) (e_vstr rfl) ?_) (e_vstr rfl) ?_) ?_) fun v H2 s2 hv => q v H2 (s4.trans s2) hv
  all_goals (rcases a with ⟨r, d, x⟩; cases r <;> cases d <;> cases x <;> first | decide | rfl | decide +kernel)
theorem sc_law_part : FnScope ["order", "mask", "ahead", "row"] ["order", "mask", "ahead"] (defScope (top 76)) := ⟨rfl, rfl, rfl, by decide +kernel, rfl, by decide +kernel, by decide +kernel⟩
theorem ok_law_part {f : Addr} {fd : FuncData} (F : FunD K "_law_part" "_law_part" (defArgs (top 76)) (defBody (top 76)) (defScope (top 76)) [] [] f fd) (tx : Tx w K mg CF) (G_law_is_ahead : Gf P w K mg base "_law_is_ahead" 2 (sp_law_is_ahead K mg CF)) : FnOk P w K mg base (L2.CX P w) 3 f fd ["order", "mask", "ahead"] (sp_law_part K mg CF) := by
  refine F.ok sc_law_part (fun vs H Q E h => ?_) (fun cdv A outer s H vs Q E hr h => ?_)
  · first | (obtain ⟨_, rfl, _⟩ := h; rfl) | (obtain ⟨_, _, rfl, _⟩ := h; rfl) | (obtain ⟨_, _, _, rfl, _⟩ := h; rfl) | (obtain ⟨_, _, _, _, rfl, _⟩ := h; rfl) | (obtain ⟨_, _, _, _, _, rfl, _⟩ := h; rfl) | (obtain ⟨_, _, _, _, _, _, rfl, _⟩ := h; rfl) | (obtain ⟨_, _, _, _, _, _, _, rfl, _⟩ := h; rfl) | (obtain ⟨_, _, _, _, _, _, _, _, rfl, _⟩ := h; rfl) | exact spInit_len h rfl | exact spO_len h (by intro ds o hh; first | (obtain ⟨rfl, _⟩ := hh; rfl) | (obtain ⟨_, rfl, _⟩ := hh; rfl) | (obtain ⟨_, _, rfl, _⟩ := hh; rfl) | (obtain ⟨_, _, _, rfl, _⟩ := hh; rfl) | (obtain ⟨_, _, _, _, rfl, _⟩ := hh; rfl) | (obtain ⟨_, _, _, _, _, rfl, _⟩ := hh; rfl) | (obtain ⟨_, _, _, _, _, _, rfl, _⟩ := hh; rfl))
  refine ⟨_, (pss_one (ps_ret (pe_tuple tx.bt (pe_lc (te := (tVar 3)) (tt := (tTest (tOp (rEqD K) (tCallS (sp_law_is_ahead K mg CF) (WE (fun _ _ _ _ => False)) (tCons (tVar 0) (tCons (tTup (tCons (tOp (rIx K) (tVar 3) (tC (V.int 0))) (tCons (tOp (rIx K) (tVar 3) (tC (V.int 1))) tNil))) tNil))) (tVar 2)))) (own := [("row", 3)]) (g := (gName 3)) rfl sc_law_part.nd (pi_seq (pv 1)) (blkOk_by (own := [("row", 3)]) (N := ["order", "mask", "ahead", "row"]) (sc := defScope (top 76)) (by decide +kernel)) (fun _ _ _ _ _ => (pg_name (i := 3) sc_law_part.nd rfl (by first | exact Or.inl rfl | exact Or.inr rfl))) (fun _ _ _ _ _ => (pts_one (pt_cmpR (op_eqD hr.units) (pe_g G_law_is_ahead (hr.mono (by decide)) takes0 (pa_cons (pv 0) (pa_cons (pe_tup (pa_cons (pe_ix ix_seq (pv 3) pe_int (fun _ _ => rfl)) (pa_cons (pe_ix ix_seq (pv 3) pe_int (fun _ _ => rfl)) pa_nil))) pa_nil))) (pv 2) (nomark _)))) (fun _ _ _ _ _ => (pv 3)))))), ?_⟩
  try dsimp only [cxOf]
  obtain ⟨ds, o, hi, ⟨a, m, rfl, hl, rfl⟩, q⟩ := h
  obtain ⟨v1, v2, v3, rfl, h1, h2, h3⟩ := hi.three_inv
  rw [h1.sv, h3.bv]
  refine s_ret K (e_tuple (n_gen (enc := moveT) (xs := m) (p := a.fwd) (f := moveT) (i_seq (Ev.sq_im (e_var rfl h2))) (by omega) fun i x v H2 hx s2 im => ?_).ev.sq_ls) q
  have hv : Is K H2 v (.im (.tup [.int x.1, .int x.2.1, .int x.2.2])) := im
  refine ⟨_, fun k z => z, rfl, ?_, fun _ => e_var rfl hv⟩
  refine t_of (ev_eq (e_eq (t := .bl (a.fwd x)) (e_call (ds := [.im (.str a.str), .im (cellT (x.1, x.2.1))]) (a_cons (e_vstr rfl) (a_cons (e_tup (ts := [.int x.1, .int x.2.1]) (a_cons (e_ix (Ev.sq_im (e_var rfl hv)) e_int (by rfl)) (a_cons (e_ix (Ev.sq_im (e_var rfl hv)) e_int (by rfl)) a_nil)) (by rfl) (Nat.le_of_ble_eq_true rfl)) a_nil)) ⟨a, (x.1, x.2.1), rfl, rfl⟩) (e_vbl rfl) rfl rfl) ?_)
  cases a.fwd x <;> rfl
end
end TW

set_option Elab.async false
set_option linter.all false
set_option maxRecDepth 100000
set_option maxHeartbeats 4000000
namespace TW
open PySem PySem.Spec PyProof.Rows L2
local macro_rules | `(tactic| walk_at "ev") => `(tactic| repeat' (first
  | with_reducible exact e_int | with_reducible exact e_str | with_reducible exact e_bl | with_reducible exact e_non
  | exact e_vint rfl | exact e_vstr rfl | exact e_vbl rfl | exact e_vnon rfl | exact e_var rfl (by assumption)
  | exact e_sqv rfl (by assumption) | exact e_dkI rfl (by assumption) rfl
  | with_reducible apply e_call | with_reducible apply e_intc | with_reducible apply e_abs
  | with_reducible apply e_intop | with_reducible apply e_cmp | with_reducible apply e_intopC
  | with_reducible apply e_len | with_reducible apply e_pow | with_reducible apply e_min2 | with_reducible apply e_max2
  | with_reducible exact a_nil | with_reducible apply a_cons
  | with_reducible apply t_ofB | with_reducible apply t_of
  | (with_reducible apply mulR; omega) | (with_reducible apply mulL; omega) | (with_reducible show (_ < _); omega)))
section
variable {P : Program} {w : World} {K : PySem.W.Frag} {mg : Str → Option Value} {base : Heap} {CF : Addr}
theorem sc_law_is_open : FnScope ["rows", "cell"] ["rows", "cell"] (defScope (top 77)) := ⟨rfl, rfl, rfl, by decide +kernel, rfl, by decide +kernel, by decide +kernel⟩
theorem ok_law_is_open {f : Addr} {fd : FuncData} (F : FunD K "_law_is_open" "_law_is_open" (defArgs (top 77)) (defBody (top 77)) (defScope (top 77)) [] [] f fd) (tx : Tx w K mg CF) : FnOk P w K mg base (L2.CX P w) 1 f fd ["rows", "cell"] (sp_law_is_open K mg CF) := by
  refine F.ok sc_law_is_open (fun vs H Q E h => ?_) (fun cdv A outer s H vs Q E hr h => ?_)
  · first | (obtain ⟨_, rfl, _⟩ := h; rfl) | (obtain ⟨_, _, rfl, _⟩ := h; rfl) | (obtain ⟨_, _, _, rfl, _⟩ := h; rfl) | (obtain ⟨_, _, _, _, rfl, _⟩ := h; rfl) | (obtain ⟨_, _, _, _, _, rfl, _⟩ := h; rfl) | (obtain ⟨_, _, _, _, _, _, rfl, _⟩ := h; rfl) | (obtain ⟨_, _, _, _, _, _, _, rfl, _⟩ := h; rfl) | (obtain ⟨_, _, _, _, _, _, _, _, rfl, _⟩ := h; rfl) | exact spInit_len h rfl | exact spO_len h (by intro ds o hh; first | (obtain ⟨rfl, _⟩ := hh; rfl) | (obtain ⟨_, rfl, _⟩ := hh; rfl) | (obtain ⟨_, _, rfl, _⟩ := hh; rfl) | (obtain ⟨_, _, _, rfl, _⟩ := hh; rfl) | (obtain ⟨_, _, _, _, rfl, _⟩ := hh; rfl) | (obtain ⟨_, _, _, _, _, rfl, _⟩ := hh; rfl) | (obtain ⟨_, _, _, _, _, _, rfl, _⟩ := hh; rfl))
  refine ⟨_, (pss_cons (ps_if (PW.pt (pw_or (pt_cmpR op_lt (pe_ix ix_seq (pv 1) pe_int (fun _ _ => rfl)) pe_int (nomark _)) (pw_or (pt_cmpR op_ge (pe_ix ix_seq (pv 1) pe_int (fun _ _ => rfl)) (pe_len tx.bt (pv 0)) (nomark _)) (pw_or (pt_cmpR op_lt (pe_ix ix_seq (pv 1) pe_int (fun _ _ => rfl)) pe_int (nomark _)) (pw_or1 (pt_cmpR op_ge (pe_ix ix_seq (pv 1) pe_int (fun _ _ => rfl)) (pe_len tx.bt (pe_ix ix_seq (pv 0) pe_int (fun _ _ => rfl))) (nomark _)))))))
    (pss_one (ps_ret pe_bl))
    pss_nil)
    (pss_one (ps_ret (pe_cmpR (op_neD hr.units) (pe_ix ix_seq (pe_ix ix_seq (pv 0) (pe_ix ix_seq (pv 1) pe_int (fun _ _ => rfl)) (fun _ _ => rfl)) (pe_ix ix_seq (pv 1) pe_int (fun _ _ => rfl)) (fun _ _ => rfl)) pe_str (nomark _))))), ?_⟩
  try dsimp only [cxOf]
  obtain ⟨ds, o, hi, ⟨F, c, rfl, rfl⟩, q⟩ := h
  obtain ⟨v1, v2, rfl, h1, h2⟩ := hi.two_inv
  have hh1 := F.h1
  have l1 : F.rows.length = F.h := by unfold Fl.rows rowsL; simp
  have l2 : ∀ f : Int → T, (rowL F.w f).length = F.w := fun f => by unfold rowL; simp
  have at0 : atI F.rows 0 = some (.tup (rowL F.w fun x => (F.it (0, x)).t)) := atI_rows (f := fun c => (F.it c).t) (Int.le_refl _) (by omega)
  have c0 : ∀ {H1 : Hp}, Same H H1 → Ev K (tOp (rIx K) (tVar 1) (tC (.int 0))) [some v1, some v2] H1 (.im (.int c.1)) := fun s => e_ix (ts := [.int c.1, .int c.2]) (Ev.sq_im (e_var rfl (s.is h2))) e_int (by rfl)
  have c1 : ∀ {H1 : Hp}, Same H H1 → Ev K (tOp (rIx K) (tVar 1) (tC (.int 1))) [some v1, some v2] H1 (.im (.int c.2)) := fun s => e_ix (ts := [.int c.1, .int c.2]) (Ev.sq_im (e_var rfl (s.is h2))) e_int (by rfl)
  with_reducible apply s_seq
  refine s_if K (b := !F.ins c) (t_eq (t_or (t_of (e_cmp (f := fun i j => decide (i < j)) (c0 (Same.refl _)) e_int)) fun _ => t_or (t_of (e_cmp (f := fun i j => decide (j ≤ i)) (c0 (Same.refl _)) (e_len (Ev.sq_im (e_var rfl h1))))) fun _ => t_or (t_of (e_cmp (f := fun i j => decide (i < j)) (c1 (Same.refl _)) e_int)) fun _ => t_of (e_cmp (f := fun i j => decide (j ≤ i)) (c1 (Same.refl _)) (e_len (Ev.sq_im (e_ix (Ev.sq_im (e_var rfl h1)) e_int at0))))) ?_) (fun hb H1 s1 => ?_) (fun hb H1 s1 => ?_)
  · rw [l1, l2, Bool.eq_iff_iff]
    unfold Fl.ins
    simp only [Bool.or_eq_true, decide_eq_true_eq, Bool.not_eq_true', Bool.and_eq_false_iff, decide_eq_false_iff_not]
    omega
  · refine s_ret K (d := .im (.bl false)) e_bl fun v H2 s2 hv => q v H2 (s1.trans s2) ?_
    have e : F.ins c = false := by simpa using hb
    have e2 : F.op c = false := by unfold Fl.op; rw [e]; rfl
    rw [e2]
    exact hv
  · have e : F.ins c = true := by simpa using hb
    obtain ⟨y0, y1, x0, x1⟩ := fl_ins.mp e
    with_reducible apply s_next
    refine s_ret K (e_noWall (e_mat (f := fun c => (F.it c).t) (h := F.h) (w := F.w) (e_var rfl (s1.is h1)) (c0 s1) (c1 s1) y0 y1 x0 x1) e_str) fun v H2 s2 hv => q v H2 (s1.trans s2) ?_
    have e2 : F.op c = !decide (F.it c = .wall) := by unfold Fl.op; rw [e]; rfl
    rw [e2]
    exact hv
theorem sc_law_changed : FnScope ["one", "two", "count", "y", "x"] ["one", "two"] (defScope (top 87)) := ⟨rfl, rfl, rfl, by decide +kernel, rfl, by decide +kernel, by decide +kernel⟩
theorem ok_law_changed {f : Addr} {fd : FuncData} (F : FunD K "_law_changed" "_law_changed" (defArgs (top 87)) (defBody (top 87)) (defScope (top 87)) [] [] f fd) (tx : Tx w K mg CF) : FnOk P w K mg base (L2.CX P w) 1 f fd ["one", "two"] (sp_law_changed K mg CF) := by
  refine F.ok sc_law_changed (fun vs H Q E h => ?_) (fun cdv A outer s H vs Q E hr h => ?_)
  · first | (obtain ⟨_, rfl, _⟩ := h; rfl) | (obtain ⟨_, _, rfl, _⟩ := h; rfl) | (obtain ⟨_, _, _, rfl, _⟩ := h; rfl) | (obtain ⟨_, _, _, _, rfl, _⟩ := h; rfl) | (obtain ⟨_, _, _, _, _, rfl, _⟩ := h; rfl) | (obtain ⟨_, _, _, _, _, _, rfl, _⟩ := h; rfl) | (obtain ⟨_, _, _, _, _, _, _, rfl, _⟩ := h; rfl) | (obtain ⟨_, _, _, _, _, _, _, _, rfl, _⟩ := h; rfl) | exact spInit_len h rfl | exact spO_len h (by intro ds o hh; first | (obtain ⟨rfl, _⟩ := hh; rfl) | (obtain ⟨_, rfl, _⟩ := hh; rfl) | (obtain ⟨_, _, rfl, _⟩ := hh; rfl) | (obtain ⟨_, _, _, rfl, _⟩ := hh; rfl) | (obtain ⟨_, _, _, _, rfl, _⟩ := hh; rfl) | (obtain ⟨_, _, _, _, _, rfl, _⟩ := hh; rfl) | (obtain ⟨_, _, _, _, _, _, rfl, _⟩ := hh; rfl))
  refine ⟨_, (pss_cons (ps_asg pe_int (pg_name (i := 2) sc_law_changed.nd rfl (by first | exact Or.inl rfl | exact Or.inr rfl)))
    (pss_cons (ps_for (passes_of rfl) rfl (pi_range1 rfl tx.bt.range (pa_cons (pe_len tx.bt (pv 0)) pa_nil)) (pg_name (i := 3) sc_law_changed.nd rfl (by first | exact Or.inl rfl | exact Or.inr rfl))
    (pss_one (ps_asg (pe_op op_add (pv 2) (pe_len tx.bt (pe_lc (te := (tC (V.int 1))) (tt := (tTest (tOp (rNeD K) (tOp (rIx K) (tOp (rIx K) (tVar 0) (tVar 3)) (tVar 4)) (tOp (rIx K) (tOp (rIx K) (tVar 1) (tVar 3)) (tVar 4))))) (own := [("x", 4)]) (g := (gName 4)) rfl sc_law_changed.nd (pi_range1 rfl tx.bt.range (pa_cons (pe_len tx.bt (pe_ix ix_seq (pv 0) (pv 3) (fun _ _ => rfl))) pa_nil)) (blkOk_by (own := [("x", 4)]) (N := ["one", "two", "count", "y", "x"]) (sc := defScope (top 87)) (by decide +kernel)) (fun _ _ _ _ _ => (pg_name (i := 4) sc_law_changed.nd rfl (by first | exact Or.inl rfl | exact Or.inr rfl))) (fun _ _ _ _ _ => (pts_one (pt_cmpR (op_neD hr.units) (pe_ix ix_seq (pe_ix ix_seq (pv 0) (pv 3) (fun _ _ => rfl)) (pv 4) (fun _ _ => rfl)) (pe_ix ix_seq (pe_ix ix_seq (pv 1) (pv 3) (fun _ _ => rfl)) (pv 4) (fun _ _ => rfl)) (nomark _)))) (fun _ _ _ _ _ => pe_int)))) (pg_name (i := 2) sc_law_changed.nd rfl (by first | exact Or.inl rfl | exact Or.inr rfl)))))
    (pss_one (ps_ret (pv 2))))), ?_⟩
  try dsimp only [cxOf]
  obtain ⟨ds, o, hi, ⟨F, a, b, rfl, rfl⟩, q⟩ := h
  obtain ⟨v1, v2, rfl, h1, h2⟩ := hi.two_inv
  have hm := F.hm
  have wm := F.wm
  have lg : ∀ g : Grid, (rowsL F.h F.w fun c => oT (g c)).length = F.h := fun g => by unfold rowsL; simp
  have l2 : ∀ f : Int → T, (rowL F.w f).length = F.w := fun f => by unfold rowL; simp
  with_reducible apply s_seq
  refine s_setI K e_int fun H1 s1 => ?_
  with_reducible apply s_seq
  refine for_rng K (j := (F.h : Int)) (a_cons (ev_eq (e_len (Ev.sq_im (e_var rfl (s1.is h1)))) (by rw [lg])) a_nil) (by omega) (fun i σ' H' => ∃ a3 a4, σ' = [some v1, some v2, some (.int ((((List.range i).flatMap fun y : Nat => (List.range F.w).map fun x : Nat => ((y : Int), (x : Int))).filter fun c => !decide (a c = b c)).length : Nat)), a3, a4] ∧ Same H H') ?_ ?_ ?_
  · exact fun H2 s2 => ⟨none, none, rfl, s1.trans s2⟩
  · rintro i σ' H2 hi ⟨a3, a4, rfl, s2⟩
    have hi2 : i < F.h := by omega
    have row : ∀ {H3 : Hp}, Same H2 H3 → ∀ v4, Ev K (tOp (rIx K) (tVar 0) (tVar 3)) [some v1, some v2, some (.int ((((List.range i).flatMap fun y : Nat => (List.range F.w).map fun x : Nat => ((y : Int), (x : Int))).filter fun c => !decide (a c = b c)).length : Nat)), some (.int (i : Int)), v4] H3 (.im (.tup (rowL F.w fun x => oT (a ((i : Int), x))))) := fun s v4 => e_ix (Ev.sq_im (e_var rfl ((s2.trans s).is h1))) (e_vint rfl) (atI_rows (f := fun c => oT (a c)) (by omega) (by omega))
    refine s_setI K (n := ((((List.range i).flatMap fun y : Nat => (List.range F.w).map fun x : Nat => ((y : Int), (x : Int))).filter fun c => !decide (a c = b c)).length : Nat) + ((((List.range F.w).filter fun x : Nat => !decide (a ((i : Int), (x : Int)) = b ((i : Int), (x : Int)))).map fun _ => T.int 1).length : Nat)) ?_ ?_
    · refine e_intop (f := fun i j => i + j) (e_vint rfl) (e_len (n_gen (enc := fun x : Nat => T.int (x : Int)) (xs := List.range F.w) (p := fun x : Nat => !decide (a ((i : Int), (x : Int)) = b ((i : Int), (x : Int)))) (f := fun _ => T.int 1) (i_rng1 (j := (F.w : Int)) (a_cons (ev_eq (e_len (Ev.sq_im (row (Same.refl _) _))) (by rw [l2])) a_nil) (by omega)) (by simp; omega) fun j x v H3 hx s3 im => ?_).ev.sq_ls)
      rw [im.int_inv]
      have hx2 := List.mem_range.mp (List.mem_of_getElem? hx)
      refine ⟨_, fun k z => z, rfl, ?_, fun _ => e_int⟩
      exact t_of (e_neO (e_mat (f := fun c => oT (a c)) (h := F.h) (w := F.w) (e_var rfl ((s2.trans s3).is h1)) (e_vint rfl) (e_vint rfl) (by omega) (by omega) (by omega) (by omega)) (e_mat (f := fun c => oT (b c)) (h := F.h) (w := F.w) (e_var rfl ((s2.trans s3).is h2)) (e_vint rfl) (e_vint rfl) (by omega) (by omega) (by omega) (by omega)))
    · intro H3 s3
      have st : (((((List.range i).flatMap fun y : Nat => (List.range F.w).map fun x : Nat => ((y : Int), (x : Int))).filter fun c => !decide (a c = b c)).length : Nat) : Int) + ((((List.range F.w).filter fun x : Nat => !decide (a ((i : Int), (x : Int)) = b ((i : Int), (x : Int)))).map fun _ => T.int 1).length : Nat) = (((((List.range (i + 1)).flatMap fun y : Nat => (List.range F.w).map fun x : Nat => ((y : Int), (x : Int))).filter fun c => !decide (a c = b c)).length : Nat) : Int) := by
        rw [List.range_succ, List.flatMap_append, List.filter_append, List.length_append]
        simp [List.filter_map, Function.comp_def]
      rw [st]
      exact ⟨_, _, rfl, s2.trans s3⟩
  · rintro σ' H2 ⟨a3, a4, rfl, s2⟩
    exact s_ret K (e_vint rfl) fun v H3 s3 hv => q v H3 (s2.trans s3) hv
theorem sc_law_start_grid : FnScope ["rows", "grid", "row", "items", "item", "x"] ["rows"] (defScope (top 79)) := ⟨rfl, rfl, rfl, by decide +kernel, rfl, by decide +kernel, by decide +kernel⟩
theorem ok_law_start_grid {f : Addr} {fd : FuncData} (F : FunD K "_law_start_grid" "_law_start_grid" (defArgs (top 79)) (defBody (top 79)) (defScope (top 79)) [] [] f fd) (tx : Tx w K mg CF) : FnOk P w K mg base (L2.CX P w) 1 f fd ["rows"] (sp_law_start_grid K mg CF) := by
  refine F.ok sc_law_start_grid (fun vs H Q E h => ?_) (fun cdv A outer s H vs Q E hr h => ?_)
  · first | (obtain ⟨_, rfl, _⟩ := h; rfl) | (obtain ⟨_, _, rfl, _⟩ := h; rfl) | (obtain ⟨_, _, _, rfl, _⟩ := h; rfl) | (obtain ⟨_, _, _, _, rfl, _⟩ := h; rfl) | (obtain ⟨_, _, _, _, _, rfl, _⟩ := h; rfl) | (obtain ⟨_, _, _, _, _, _, rfl, _⟩ := h; rfl) | (obtain ⟨_, _, _, _, _, _, _, rfl, _⟩ := h; rfl) | (obtain ⟨_, _, _, _, _, _, _, _, rfl, _⟩ := h; rfl) | exact spInit_len h rfl | exact spO_len h (by intro ds o hh; first | (obtain ⟨rfl, _⟩ := hh; rfl) | (obtain ⟨_, rfl, _⟩ := hh; rfl) | (obtain ⟨_, _, rfl, _⟩ := hh; rfl) | (obtain ⟨_, _, _, rfl, _⟩ := hh; rfl) | (obtain ⟨_, _, _, _, rfl, _⟩ := hh; rfl) | (obtain ⟨_, _, _, _, _, rfl, _⟩ := hh; rfl) | (obtain ⟨_, _, _, _, _, _, rfl, _⟩ := hh; rfl))
  refine ⟨_, (pss_cons (ps_asg (pe_lst pa_nil) (pg_name (i := 1) sc_law_start_grid.nd rfl (by first | exact Or.inl rfl | exact Or.inr rfl)))
    (pss_cons (ps_for (passes_of rfl) rfl (pi_seq (pv 0)) (pg_name (i := 2) sc_law_start_grid.nd rfl (by first | exact Or.inl rfl | exact Or.inr rfl))
    (pss_cons (ps_setLc (i := 3) (te := (tC V.non)) (own := [("item", 4)]) (g := (gName 4)) (tt := tYes) rfl sc_law_start_grid.nd rfl rfl rfl (pi_seq (pv 2)) (blkOk_by (own := [("item", 4)]) (N := ["rows", "grid", "row", "items", "item", "x"]) (sc := defScope (top 79)) (by decide +kernel)) (fun _ _ _ _ _ => (pg_name (i := 4) sc_law_start_grid.nd rfl (by first | exact Or.inl rfl | exact Or.inr rfl))) (fun _ _ _ _ _ => pts_nil) (fun _ _ _ _ _ => pe_non))
    (pss_cons (ps_for (passes_of rfl) rfl (pi_range1 rfl tx.bt.range (pa_cons (pe_len tx.bt (pv 2)) pa_nil)) (pg_name (i := 5) sc_law_start_grid.nd rfl (by first | exact Or.inl rfl | exact Or.inr rfl))
    (pss_one (ps_if (pt_val (pe_isi_int tx.bt (pe_ix ix_seq (pv 2) (pv 5) (fun _ _ => rfl))))
    (pss_one (ps_asg (pe_ix ix_seq (pv 2) (pv 5) (fun _ _ => rfl)) (pg_sub (pv 3) (pv 5) set_list)))
    pss_nil)))
    (pss_one (ps_expr (pe_bm PySem.F.plainAttrs_list PySem.F.slot_list_append PySem.F.type_list_append mt_append (pv 1) (pa_cons (pe_tuple tx.bt (pv 3)) pa_nil)))))))
    (pss_one (ps_ret (pe_tuple tx.bt (pv 1)))))), ?_⟩
  try dsimp only [cxOf]
  obtain ⟨ds, o, hi, ⟨F, rfl, rfl⟩, q⟩ := h
  obtain ⟨v1, rfl, h1⟩ := hi.one_inv
  have hm := F.hm
  have wm := F.wm
  with_reducible apply s_seq
  refine s_nil fun p H1 hp s1 e1 => ?_
  with_reducible apply s_seq
  refine for_it0 (enc := fun y : Nat => T.tup (rowL F.w fun x => (F.it ((y : Int), x)).t)) (xs := List.range F.h) (H0 := H) K (i0_var rfl (Im.sq h1)) s1 (fun i σ' H' => ∃ a2 a3 a4 a5, σ' = [some v1, some (.ref p), a2, a3, a4, a5] ∧ Same H H' ∧ ∃ vs, H' p = some (.lst vs) ∧ vs.length ≤ i ∧ Ims K H' vs ((List.range i).map fun y : Nat => T.tup (rowL F.w fun x => oT (F.start ((y : Int), x))))) ?_ ?_ ?_ ?_
  · exact fun H2 s2 => ⟨none, none, none, none, rfl, s1.trans s2, [], s2 _ _ e1, Nat.le_refl _, .nil⟩
  · rintro i σ' H' hi ⟨_, _, _, _, _, s, _⟩
    exact s.stay
  · rintro i y x σ' H2 H3 hy ⟨a2, a3, a4, a5, rfl, s2, vs, e2, l2, im2⟩ s3 im
    obtain ⟨hy1, rfl⟩ : i < F.h ∧ i = y := by
      have z := (List.getElem?_eq_some_iff.mp hy).1
      rw [List.length_range] at z
      rw [List.getElem?_range z] at hy
      exact ⟨z, Option.some.inj hy⟩
    refine s_gq ?_
    have hx : Is K H3 x (.im (.tup (rowL F.w fun x => (F.it ((i : Int), x)).t))) := im
    have lr : ∀ f : Int → T, (rowL F.w f).length = F.w := fun f => by unfold rowL; simp
    refine s_setN K (n_genA (enc := fun x : Nat => (F.it ((i : Int), (x : Int))).t) (xs := List.range F.w) (f := fun _ => T.non) (i_seq (Ev.sq_im (e_var rfl hx))) (by simp; omega) fun j x2 v H4 hx2 s4 im4 => ⟨_, fun k z => z, rfl, e_non⟩) fun l ws H4 hl s4 el iml => ?_
    have s24 := s3.trans s4
    have ep4 := s24 _ _ e2
    have nlp : l ≠ p := fun z => by rw [z] at hl; rw [s3 _ _ e2] at hl; cases hl
    with_reducible apply s_seq
    refine for_rng K (j := (F.w : Int)) (a_cons (ev_eq (e_len (Ev.sq_im (e_var rfl (s4.is hx)))) (by rw [lr])) a_nil) (by omega) (fun j σ' H' => ∃ a5, σ' = [some v1, some (.ref p), some x, some (.ref l), a4, a5] ∧ Sm l H4 H' ∧ ∃ ws, H' l = some (.lst ws) ∧ Ims K H' ws ((List.range F.w).map fun x : Nat => if x < j then oT (F.start ((i : Int), (x : Int))) else T.non)) ?_ ?_ ?_
    · exact fun H5 s5 => ⟨_, rfl, s5.sm, ws, s5 _ _ el, by simpa using L2.Same.ims s5 iml⟩
    · rintro j σ' H5 hj ⟨b5, rfl, m5, ws5, e5, im5⟩
      have hj2 : j < F.w := by omega
      have s35 : Same H3 H5 := same_sm s4 hl m5
      have hx5 : Is K H5 x (.im (.tup (rowL F.w fun x => (F.it ((i : Int), x)).t))) := s35.is hx
      have ex : Ev K (tOp (rIx K) (tVar 2) (tVar 5)) [some v1, some (.ref p), some x, some (.ref l), a4, some (.int (j : Int))] H5 (.im (F.it ((i : Int), (j : Int))).t) := e_ix (Ev.sq_im (e_var rfl hx5)) (e_vint rfl) (atI_row (f := fun x => (F.it ((i : Int), x)).t) (by omega) (by omega))
      have op : F.start ((i : Int), (j : Int)) = (F.it ((i : Int), (j : Int))).o := by
        unfold Fl.start Fl.op
        rw [fl_ins.mpr ⟨by omega, by omega, by omega, by omega⟩]
        cases F.it ((i : Int), (j : Int)) <;> rfl
      have stp : ∀ t : T, t = oT (F.start ((i : Int), (j : Int))) → (((List.range F.w).map fun x : Nat => if x < j then oT (F.start ((i : Int), (x : Int))) else T.non).set j t) = (List.range F.w).map fun x : Nat => if x < j + 1 then oT (F.start ((i : Int), (x : Int))) else T.non := by
        intro t ht
        refine List.ext_getElem? fun k => ?_
        rw [List.getElem?_set]
        by_cases c : j = k
        · subst c
          rw [if_pos rfl, if_pos (by simp; exact hj2), List.getElem?_map, List.getElem?_range hj2]
          simp [ht]
        · rw [if_neg c, List.getElem?_map, List.getElem?_map]
          by_cases d : k < F.w
          · rw [List.getElem?_range d]
            simp only [Option.map_some]
            by_cases e : k < j
            · rw [if_pos e, if_pos (by omega)]
            · rw [if_neg e, if_neg (by omega)]
          · rw [List.getElem?_eq_none (by simpa using d)]
            rfl
      have len5 : ws5.length = F.w := by rw [im5.length]; simp
      refine s_if K (b := (F.it ((i : Int), (j : Int))).isNum) (t_ofB (e_isNum ex)) (fun hb H6 s6 => ?_) (fun hb H6 s6 => ?_)
      · refine s_setAt K (r_var rfl) (s6 _ _ e5) (e_vint rfl) (ixN_of (by omega) (by rw [len5]; omega)) (ex.mono s6) fun u H7 s7 hu => ?_
        refine ⟨_, rfl, (m5.trans (s6.trans s7).sm).upd, _, upd_same, ?_⟩
        have e7 := s7 _ _ (s6 _ _ e5)
        have hu2 : Im K H7 u (oT (F.start ((i : Int), (j : Int)))) := by
          rw [op]
          have hu' : Im K H7 u (F.it ((i : Int), (j : Int))).t := hu
          cases z : F.it ((i : Int), (j : Int)) with
          | num n => rw [z] at hu'; exact hu'
          | wall => rw [z] at hb; cases hb
          | free => rw [z] at hb; cases hb
        rw [← stp _ rfl]
        have z := ((L2.Same.ims (s6.trans s7) im5).set (i := j) hu2).mono (keep_lst (o := .lst (ws5.set j u)) e7)
        exact z
      · refine s_next ⟨_, rfl, m5.trans s6.sm, ws5, s6 _ _ e5, ?_⟩
        rw [← stp .non (by
          rw [op]
          cases z : F.it ((i : Int), (j : Int)) with
          | num n => rw [z] at hb; cases hb
          | wall => rfl
          | free => rfl)]
        have e : (((List.range F.w).map fun x : Nat => if x < j then oT (F.start ((i : Int), (x : Int))) else T.non).set j .non) = (List.range F.w).map fun x : Nat => if x < j then oT (F.start ((i : Int), (x : Int))) else T.non := by
          refine List.ext_getElem? fun k => ?_
          rw [List.getElem?_set]
          by_cases c : j = k
          · subst c
            rw [if_pos rfl, if_pos (by simp; exact hj2), List.getElem?_map, List.getElem?_range hj2]
            simp
          · rw [if_neg c]
        rw [e]
        exact L2.Same.ims s6 im5
    · rintro σ' H5 ⟨b5, rfl, m5, ws5, e5, im5⟩
      have s35 : Same H3 H5 := same_sm s4 hl m5
      have im5' : Ims K H5 ws5 (rowL F.w fun x => oT (F.start ((i : Int), x))) := by
        have e : (rowL F.w fun x => oT (F.start ((i : Int), x))) = (List.range F.w).map fun x : Nat => if x < F.w then oT (F.start ((i : Int), (x : Int))) else T.non := by
          unfold rowL
          refine List.map_congr_left fun x hx => ?_
          rw [if_pos (List.mem_range.mp hx)]
        rw [e]
        exact im5
      have ep5 : H5 p = some (.lst vs) := m5 p _ (Ne.symm nlp) ep4
      refine s_app K rfl ep5 (by omega) (e_tuple (e_var (d := .sq _) rfl ⟨l, ws5, rfl, .inl (.inl (.inl e5)), im5'⟩)) fun u H6 s6 hu => ?_
      have s36 := s35.trans s6
      refine ⟨_, _, _, _, rfl, same_mut (s2.trans (s3.trans s36)) hp, vs ++ [u], upd_same, by simp; omega, ?_⟩
      have k1 : Keep H6 (upd H6 p (.lst (vs ++ [u]))) := keep_lst (s6 _ _ ep5)
      rw [List.range_succ, List.map_append]
      exact ((L2.Same.ims (s3.trans s36) im2).mono k1).snoc (Im.mono k1 hu)
  · rintro σ' H2 ⟨a2, a3, a4, a5, rfl, s2, vs, e2, l2, im2⟩
    rw [List.length_range] at im2
    exact s_ret K (e_tuple (e_var (d := .sq _) rfl ⟨p, vs, rfl, .inl (.inl (.inl e2)), im2⟩)) fun v H3 s3 hv => q v H3 (s2.trans s3) hv
end
end TW

set_option Elab.async false
set_option linter.all false
set_option maxRecDepth 100000
set_option maxHeartbeats 4000000
namespace TW
open PySem PySem.Spec PyProof.Rows L2
local macro_rules | `(tactic| walk_at "ev") => `(tactic| repeat' (first
  | with_reducible exact e_int | with_reducible exact e_str | with_reducible exact e_bl | with_reducible exact e_non
  | exact e_vint rfl | exact e_vstr rfl | exact e_vbl rfl | exact e_vnon rfl | exact e_var rfl (by assumption)
  | exact e_sqv rfl (by assumption) | exact e_dkI rfl (by assumption) rfl
  | with_reducible apply e_call | with_reducible apply e_intc | with_reducible apply e_abs
  | with_reducible apply e_intop | with_reducible apply e_cmp | with_reducible apply e_intopC
  | with_reducible apply e_len | with_reducible apply e_pow | with_reducible apply e_min2 | with_reducible apply e_max2
  | with_reducible exact a_nil | with_reducible apply a_cons
  | with_reducible apply t_ofB | with_reducible apply t_of
  | (with_reducible apply mulR; omega) | (with_reducible apply mulL; omega) | (with_reducible show (_ < _); omega)))
section
variable {P : Program} {w : World} {K : PySem.W.Frag} {mg : Str → Option Value} {base : Heap} {CF : Addr}
theorem sc_law_cells_where : FnScope ["rows", "what_is", "cells", "y", "x", "item", "fits_it"] ["rows", "what_is"] (defScope (top 78)) := ⟨rfl, rfl, rfl, by decide +kernel, rfl, by decide +kernel, by decide +kernel⟩
theorem ok_law_cells_where {f : Addr} {fd : FuncData} (F : FunD K "_law_cells_where" "_law_cells_where" (defArgs (top 78)) (defBody (top 78)) (defScope (top 78)) [] [] f fd) (tx : Tx w K mg CF) : FnOk P w K mg base (L2.CX P w) 1 f fd ["rows", "what_is"] (sp_law_cells_where K mg CF) := by
  refine F.ok sc_law_cells_where (fun vs H Q E h => ?_) (fun cdv A outer s H vs Q E hr h => ?_)
  · first | (obtain ⟨_, rfl, _⟩ := h; rfl) | (obtain ⟨_, _, rfl, _⟩ := h; rfl) | (obtain ⟨_, _, _, rfl, _⟩ := h; rfl) | (obtain ⟨_, _, _, _, rfl, _⟩ := h; rfl) | (obtain ⟨_, _, _, _, _, rfl, _⟩ := h; rfl) | (obtain ⟨_, _, _, _, _, _, rfl, _⟩ := h; rfl) | (obtain ⟨_, _, _, _, _, _, _, rfl, _⟩ := h; rfl) | (obtain ⟨_, _, _, _, _, _, _, _, rfl, _⟩ := h; rfl) | exact spInit_len h rfl | exact spN_len h (by intro ds o hh; first | (obtain ⟨rfl, _⟩ := hh; rfl) | (obtain ⟨_, rfl, _⟩ := hh; rfl) | (obtain ⟨_, _, rfl, _⟩ := hh; rfl) | (obtain ⟨_, _, _, rfl, _⟩ := hh; rfl)) | exact spO_len h (by intro ds o hh; first | (obtain ⟨rfl, _⟩ := hh; rfl) | (obtain ⟨_, rfl, _⟩ := hh; rfl) | (obtain ⟨_, _, rfl, _⟩ := hh; rfl) | (obtain ⟨_, _, _, rfl, _⟩ := hh; rfl) | (obtain ⟨_, _, _, _, rfl, _⟩ := hh; rfl) | (obtain ⟨_, _, _, _, _, rfl, _⟩ := hh; rfl) | (obtain ⟨_, _, _, _, _, _, rfl, _⟩ := hh; rfl))
  refine ⟨_, (pss_cons (ps_asg (pe_lst pa_nil) (pg_name (i := 2) sc_law_cells_where.nd rfl (by first | exact Or.inl rfl | exact Or.inr rfl)))
    (pss_cons (ps_for (passes_of rfl) rfl (pi_range1 rfl tx.bt.range (pa_cons (pe_len tx.bt (pv 0)) pa_nil)) (pg_name (i := 3) sc_law_cells_where.nd rfl (by first | exact Or.inl rfl | exact Or.inr rfl))
    (pss_one (ps_for (passes_of rfl) rfl (pi_range1 rfl tx.bt.range (pa_cons (pe_len tx.bt (pe_ix ix_seq (pv 0) pe_int (fun _ _ => rfl))) pa_nil)) (pg_name (i := 4) sc_law_cells_where.nd rfl (by first | exact Or.inl rfl | exact Or.inr rfl))
    (pss_cons (ps_asg (pe_ix ix_seq (pe_ix ix_seq (pv 0) (pv 3) (fun _ _ => rfl)) (pv 4) (fun _ _ => rfl)) (pg_name (i := 5) sc_law_cells_where.nd rfl (by first | exact Or.inl rfl | exact Or.inr rfl)))
    (pss_cons (ps_asg (pe_or (pe_cmpR (op_eqD hr.units) (pv 1) pe_str (nomark _)) (pe_or (pe_and (pe_cmpR (op_eqD hr.units) (pv 1) pe_str (nomark _)) (pe_one (pe_cmpR (op_neD hr.units) (pv 5) pe_str (nomark _)))) (pe_one (pe_and (pe_cmpR (op_eqD hr.units) (pv 1) pe_str (nomark _)) (pe_one (pe_cmpR (op_eqD hr.units) (pv 5) pe_str (nomark _))))))) (pg_name (i := 6) sc_law_cells_where.nd rfl (by first | exact Or.inl rfl | exact Or.inr rfl)))
    (pss_cons (ps_if (PW.pt (pw_or (PW.pt (pw_and (pt_cmpR (op_eqD hr.units) (pv 1) pe_str (nomark _)) (pw_and1 (pt_val (pe_isi_int tx.bt (pv 5)))))) (pw_or1 (PW.pt (pw_and (pt_cmpR (op_eqD hr.units) (pv 1) pe_str (nomark _)) (pw_and1 (pt_cmp (pc_isN (pv 5)) rfl)))))))
    (pss_one (ps_asg pe_bl (pg_name (i := 6) sc_law_cells_where.nd rfl (by first | exact Or.inl rfl | exact Or.inr rfl))))
    pss_nil)
    (pss_one (ps_if (pt_val (pv 6))
    (pss_one (ps_expr (pe_bm PySem.F.plainAttrs_list PySem.F.slot_list_append PySem.F.type_list_append mt_append (pv 2) (pa_cons (pe_tup (pa_cons (pv 3) (pa_cons (pv 4) pa_nil))) pa_nil))))
    pss_nil))))))))
    (pss_one (ps_ret (pv 2))))), ?_⟩
  try dsimp only [cxOf]
  obtain ⟨ds, ts, hi, ⟨F, rfl, rfl⟩, q⟩ := h
  obtain ⟨v1, v2, rfl, h1, h2⟩ := hi.two_inv
  rw [h2.sv]
  have hm := F.hm
  have wm := F.wm
  have hh1 := F.h1
  have l1 : F.rows.length = F.h := by unfold Fl.rows rowsL; simp
  have at0 : atI F.rows 0 = some (.tup (rowL F.w fun x => (F.it (0, x)).t)) := atI_rows (f := fun c => (F.it c).t) (Int.le_refl _) (by omega)
  with_reducible apply s_seq
  refine s_nil fun p H1 hp s1 e1 => ?_
  with_reducible apply s_seq
  refine for_rng K (j := (F.h : Int)) (a_cons (ev_eq (e_len (Ev.sq_im (e_var rfl (s1.is h1)))) (by rw [l1])) a_nil) (by omega) (fun i σ' H' => ∃ a3 a4 a5 a6, σ' = [some v1, some (.str "open"), some (.ref p), a3, a4, a5, a6] ∧ Same H H' ∧ ∃ vs, H' p = some (.lst vs) ∧ vs.length ≤ 300 * i ∧
    Ims K H' vs ((((List.range i).flatMap fun y : Nat => (List.range F.w).map fun x : Nat => ((y : Int), (x : Int))).filter fun c => !decide (F.it c = .wall)).map cellT)) ?_ ?_ ?_
  · exact fun H2 s2 => ⟨none, none, none, none, rfl, s1.trans s2, [], s2 _ _ e1, Nat.le_refl _, .nil⟩
  · rintro i σ' H2 hi ⟨a3, a4, a5, a6, rfl, s2, vs, e2, l2, im2⟩
    have hi2 : i < F.h := by omega
    refine for_rng K (j := (F.w : Int)) (a_cons (ev_eq (e_len (Ev.sq_im (e_ix (Ev.sq_im (e_var rfl (s2.is h1))) e_int at0))) (by rw [rowL_len])) a_nil) (by omega) (fun j σ' H' => ∃ a4 a5 a6, σ' = [some v1, some (.str "open"), some (.ref p), some (.int (i : Int)), a4, a5, a6] ∧ Same H H' ∧ ∃ vs, H' p = some (.lst vs) ∧ vs.length ≤ 300 * i + j ∧
      Ims K H' vs ((((List.range i).flatMap fun y : Nat => (List.range F.w).map fun x : Nat => ((y : Int), (x : Int))).filter (fun c => !decide (F.it c = .wall)) ++ ((List.range j).map fun x : Nat => ((i : Int), (x : Int))).filter (fun c => !decide (F.it c = .wall))).map cellT)) ?_ ?_ ?_
    · exact fun H3 s3 => ⟨_, _, _, rfl, s2.trans s3, vs, s3 _ _ e2, l2, by simpa using L2.Same.ims s3 im2⟩
    · rintro j σ' H3 hj ⟨b4, b5, b6, rfl, s3, vs3, e3, l3, im3⟩
      have hj2 : j < F.w := by omega
      with_reducible apply s_seq
      refine s_set K (e_mat (f := fun c => (F.it c).t) (h := F.h) (w := F.w) (e_var rfl (s3.is h1)) (e_vint rfl) (e_vint rfl) (by omega) (by omega) (by omega) (by omega)) fun it H4 s4 h4 => ?_
      have bq : ∀ z : Str, PyData.strOk z = true → ∀ {H5 : Hp} {σ'' : L2.St} {b : Bool}, σ''[1]? = some (some (.str "open")) → T.beq (.str "open") (.str z) = b → Ev K (tOp (rEqD K) (tVar 1) (tC (.str z))) σ'' H5 (.im (.bl b)) := fun z hz {H5 σ'' b} hs hb => ev_eq (e_eq (e_vstr hs) e_str (okd_s (by decide +kernel)) (okd_s hz)) (by rw [hb])
      with_reducible apply s_seq
      refine s_setB K (n := !decide (F.it ((i : Int), (j : Int)) = .wall)) (ev_eq (e_or (b := false) (bq "all" (by decide +kernel) rfl (by decide +kernel)) fun _ => e_or (b := (true && !decide (F.it ((i : Int), (j : Int)) = .wall))) (e_and (b := true) (bq "open" (by decide +kernel) rfl (by decide +kernel)) fun _ => e_noWall (e_var rfl h4) e_str) fun _ => e_and (b := false) (c := false) (bq "wall" (by decide +kernel) rfl (by decide +kernel)) fun z => by cases z) (by simp)) fun H5 s5 => ?_
      with_reducible apply s_seq
      refine s_if K (b := (false && false) || (false && false)) (t_or (t_and (c := false) (t_of (bq "start" (by decide +kernel) rfl (by decide +kernel))) fun z => by cases z) fun _ => t_and (c := false) (t_of (bq "free" (by decide +kernel) rfl (by decide +kernel))) fun z => by cases z) (fun z => by cases z) (fun _ H6 s6 => ?_)
      refine s_next ?_
      have s36 := s4.trans (s5.trans s6)
      have e6 := s36 _ _ e3
      have st : (List.range (j + 1)).map (fun x : Nat => ((i : Int), (x : Int))) = (List.range j).map (fun x : Nat => ((i : Int), (x : Int))) ++ [((i : Int), (j : Int))] := by rw [List.range_succ, List.map_append]; rfl
      refine s_if K (b := !decide (F.it ((i : Int), (j : Int)) = .wall)) (t_ofB (e_vbl rfl)) (fun hb H7 s7 => ?_) (fun hb H7 s7 => ?_)
      · refine s_app K (d := .im (cellT ((i : Int), (j : Int)))) rfl (s7 _ _ e6) (by omega) (e_tup (ts := [.int (i : Int), .int (j : Int)]) (a_cons (e_vint rfl) (a_cons (e_vint rfl) a_nil)) (by rfl) (Nat.le_of_ble_eq_true rfl)) fun w H8 s8 hw => ?_
        refine ⟨_, _, _, rfl, same_mut (s3.trans (s36.trans (s7.trans s8))) hp, vs3 ++ [w], upd_same, by simp; omega, ?_⟩
        have k1 : Keep H8 (upd H8 p (.lst (vs3 ++ [w]))) := keep_lst (s8 _ _ (s7 _ _ e6))
        have z := ((L2.Same.ims (s36.trans (s7.trans s8)) im3).mono k1).snoc (Im.mono k1 hw)
        rw [st, List.filter_append, List.filter_cons_of_pos (by exact hb), List.filter_nil, ← List.append_assoc, List.map_append]
        exact z
      · refine s_next ⟨_, _, _, rfl, s3.trans (s36.trans s7), vs3, s7 _ _ e6, by omega, ?_⟩
        rw [st, List.filter_append, List.filter_cons_of_neg (by rw [hb]; exact Bool.false_ne_true), List.filter_nil, List.append_nil]
        exact L2.Same.ims (s36.trans s7) im3
    · rintro σ' H3 ⟨b4, b5, b6, rfl, s3, vs3, e3, l3, im3⟩
      have z : ((F.w : Int)).toNat = F.w := by omega
      rw [z] at im3 l3
      refine ⟨_, _, _, _, rfl, s3, vs3, e3, by omega, ?_⟩
      rw [List.range_succ, List.flatMap_append, List.filter_append]
      simpa using im3
  · rintro σ' H2 ⟨a3, a4, a5, a6, rfl, s2, vs, e2, l2, im2⟩
    have z : ((F.h : Int)).toNat = F.h := by omega
    rw [z] at im2
    exact ⟨_, rfl, q p vs H2 hp s2 e2 im2⟩
theorem sc_law_distances : FnScope ["rows", "mask"] ["rows", "mask"] (defScope (top 82)) := ⟨rfl, rfl, rfl, by decide +kernel, rfl, by decide +kernel, by decide +kernel⟩
theorem ok_law_distances {f : Addr} {fd : FuncData} (F : FunD K "_law_distances" "_law_distances" (defArgs (top 82)) (defBody (top 82)) (defScope (top 82)) [] [] f fd) (tx : Tx w K mg CF) (G_law_grown : Gf P w K mg base "_law_grown" 1 (sp_law_grown K mg CF)) (G_law_arrows : Gf P w K mg base "_law_arrows" 2 (sp_law_arrows K mg CF)) (G_law_start_grid : Gf P w K mg base "_law_start_grid" 1 (sp_law_start_grid K mg CF)) : FnOk P w K mg base (L2.CX P w) 3 f fd ["rows", "mask"] (sp_law_distances K mg CF) := by
  refine F.ok sc_law_distances (fun vs H Q E h => ?_) (fun cdv A outer s H vs Q E hr h => ?_)
  · first | (obtain ⟨_, rfl, _⟩ := h; rfl) | (obtain ⟨_, _, rfl, _⟩ := h; rfl) | (obtain ⟨_, _, _, rfl, _⟩ := h; rfl) | (obtain ⟨_, _, _, _, rfl, _⟩ := h; rfl) | (obtain ⟨_, _, _, _, _, rfl, _⟩ := h; rfl) | (obtain ⟨_, _, _, _, _, _, rfl, _⟩ := h; rfl) | (obtain ⟨_, _, _, _, _, _, _, rfl, _⟩ := h; rfl) | (obtain ⟨_, _, _, _, _, _, _, _, rfl, _⟩ := h; rfl) | exact spInit_len h rfl | exact spN_len h (by intro ds o hh; first | (obtain ⟨rfl, _⟩ := hh; rfl) | (obtain ⟨_, rfl, _⟩ := hh; rfl) | (obtain ⟨_, _, rfl, _⟩ := hh; rfl) | (obtain ⟨_, _, _, rfl, _⟩ := hh; rfl)) | exact spO_len h (by intro ds o hh; first | (obtain ⟨rfl, _⟩ := hh; rfl) | (obtain ⟨_, rfl, _⟩ := hh; rfl) | (obtain ⟨_, _, rfl, _⟩ := hh; rfl) | (obtain ⟨_, _, _, rfl, _⟩ := hh; rfl) | (obtain ⟨_, _, _, _, rfl, _⟩ := hh; rfl) | (obtain ⟨_, _, _, _, _, rfl, _⟩ := hh; rfl) | (obtain ⟨_, _, _, _, _, _, rfl, _⟩ := hh; rfl))
  refine ⟨_, (pss_one (ps_ret (pe_g G_law_grown (hr.mono (by decide)) (takes_of rfl rfl rfl rfl) (pa_cons (pe_g G_law_start_grid (hr.mono (by decide)) (takes_of rfl rfl rfl rfl) (pa_cons (pv 0) pa_nil)) (pa_cons (pe_g G_law_arrows (hr.mono (by decide)) (takes_of rfl rfl rfl rfl) (pa_cons (pv 0) (pa_cons (pv 1) pa_nil))) pa_nil))))), ?_⟩
  try dsimp only [cxOf]
  obtain ⟨ds, o, hi, ⟨F, m, rfl, hl, rfl⟩, q⟩ := h
  obtain ⟨v1, v2, rfl, h1, h2⟩ := hi.two_inv
  refine s_ret K (e_call (a_cons (e_call (d := .im (F.gridT F.start)) (a_cons (e_var rfl h1) a_nil) ⟨F, rfl, rfl⟩) (a_cons (e_call (d := .ls ((F.arrows m).map arrT)) (a_cons (e_var rfl h1) (a_cons (e_var rfl h2) a_nil)) ⟨F, m, rfl, hl, rfl⟩) a_nil)) ⟨F, F.start, F.arrows m, rfl, arrows_len hl, fun a ha => arrows_ins ha, rfl⟩) q
theorem sc_law_ordered_cells : FnScope ["rows", "order", "keys", "cell", "pair"] ["rows", "order"] (defScope (top 83)) := ⟨rfl, rfl, rfl, by decide +kernel, rfl, by decide +kernel, by decide +kernel⟩
theorem ok_law_ordered_cells {f : Addr} {fd : FuncData} (F : FunD K "_law_ordered_cells" "_law_ordered_cells" (defArgs (top 83)) (defBody (top 83)) (defScope (top 83)) [] [] f fd) (tx : Tx w K mg CF) (G_law_cells_where : Gf P w K mg base "_law_cells_where" 1 (sp_law_cells_where K mg CF)) (G_law_key : Gf P w K mg base "_law_key" 1 (sp_law_key K mg CF)) : FnOk P w K mg base (L2.CX P w) 2 f fd ["rows", "order"] (sp_law_ordered_cells K mg CF) := by
  refine F.ok sc_law_ordered_cells (fun vs H Q E h => ?_) (fun cdv A outer s H vs Q E hr h => ?_)
  · first | (obtain ⟨_, rfl, _⟩ := h; rfl) | (obtain ⟨_, _, rfl, _⟩ := h; rfl) | (obtain ⟨_, _, _, rfl, _⟩ := h; rfl) | (obtain ⟨_, _, _, _, rfl, _⟩ := h; rfl) | (obtain ⟨_, _, _, _, _, rfl, _⟩ := h; rfl) | (obtain ⟨_, _, _, _, _, _, rfl, _⟩ := h; rfl) | (obtain ⟨_, _, _, _, _, _, _, rfl, _⟩ := h; rfl) | (obtain ⟨_, _, _, _, _, _, _, _, rfl, _⟩ := h; rfl) | exact spInit_len h rfl | exact spN_len h (by intro ds o hh; first | (obtain ⟨rfl, _⟩ := hh; rfl) | (obtain ⟨_, rfl, _⟩ := hh; rfl) | (obtain ⟨_, _, rfl, _⟩ := hh; rfl) | (obtain ⟨_, _, _, rfl, _⟩ := hh; rfl)) | exact spO_len h (by intro ds o hh; first | (obtain ⟨rfl, _⟩ := hh; rfl) | (obtain ⟨_, rfl, _⟩ := hh; rfl) | (obtain ⟨_, _, rfl, _⟩ := hh; rfl) | (obtain ⟨_, _, _, rfl, _⟩ := hh; rfl) | (obtain ⟨_, _, _, _, rfl, _⟩ := hh; rfl) | (obtain ⟨_, _, _, _, _, rfl, _⟩ := hh; rfl) | (obtain ⟨_, _, _, _, _, _, rfl, _⟩ := hh; rfl))
  refine ⟨_, (pss_cons (ps_asg (pe_sortN tx.bt hr.units (pe_lc (te := (tTup (tCons (tCallS (sp_law_key K mg CF) (WE (fun _ _ _ _ => False)) (tCons (tVar 1) (tCons (tVar 3) tNil))) (tCons (tVar 3) tNil)))) (own := [("cell", 3)]) (g := (gName 3)) (tt := tYes) rfl sc_law_ordered_cells.nd (pi_seq (pe_g G_law_cells_where (hr.mono (by decide)) (takes_of rfl rfl rfl rfl) (pa_cons (pv 0) (pa_cons pe_str pa_nil)))) (blkOk_by (own := [("cell", 3)]) (N := ["rows", "order", "keys", "cell", "pair"]) (sc := defScope (top 83)) (by decide +kernel)) (fun _ _ _ _ _ => (pg_name (i := 3) sc_law_ordered_cells.nd rfl (by first | exact Or.inl rfl | exact Or.inr rfl))) (fun _ _ _ _ _ => pts_nil) (fun _ _ _ _ _ => (pe_tup (pa_cons (pe_g G_law_key (hr.mono (by decide)) takes0 (pa_cons (pv 1) (pa_cons (pv 3) pa_nil))) (pa_cons (pv 3) pa_nil)))))) (pg_name (i := 2) sc_law_ordered_cells.nd rfl (by first | exact Or.inl rfl | exact Or.inr rfl)))
    (pss_one (ps_ret (pe_lc (te := (tOp (rIx K) (tVar 4) (tC (V.int 1)))) (own := [("pair", 4)]) (g := (gName 4)) (tt := tYes) rfl sc_law_ordered_cells.nd (pi_seq (pv 2)) (blkOk_by (own := [("pair", 4)]) (N := ["rows", "order", "keys", "cell", "pair"]) (sc := defScope (top 83)) (by decide +kernel)) (fun _ _ _ _ _ => (pg_name (i := 4) sc_law_ordered_cells.nd rfl (by first | exact Or.inl rfl | exact Or.inr rfl))) (fun _ _ _ _ _ => pts_nil) (fun _ _ _ _ _ => (pe_ix ix_seq (pv 4) pe_int (fun _ _ => rfl))))))), ?_⟩
  try dsimp only [cxOf]
  obtain ⟨ds, ts, hi, ⟨F, a, rfl, rfl⟩, q⟩ := h
  obtain ⟨v1, v2, rfl, h1, h2⟩ := hi.two_inv
  rw [h2.sv]
  have ol := opens_len (F := F)
  with_reducible apply s_seq
  refine n_sortN (cs := F.opens) (κ := a.key) (n_genA (enc := cellT) (xs := F.opens) (f := fun c => .tup [cellT (a.key c), cellT c]) (i_seq (n_call (a_cons (e_var rfl h1) (a_cons e_str a_nil)) ⟨F, rfl, rfl⟩).ev.sq_ls) (by omega) fun i c v H1 hc s1 im => ?_).ev (fun _ _ => key_inj) fun p vs cs H1 s1 hp e1 im1 hpm hsr => ?_
  · refine ⟨_, fun k z => z, rfl, ?_⟩
    have hv : Is K H1 v (.im (cellT c)) := im
    exact e_tup (ts := [cellT (a.key c), cellT c]) (a_cons (e_call (a_cons (e_vstr rfl) (a_cons (e_var rfl hv) a_nil)) ⟨a, c, rfl, rfl⟩) (a_cons (e_var rfl hv) a_nil)) (by rfl) (Nat.le_of_ble_eq_true rfl)
  · have eo := ordered_cells hpm hsr
    subst eo
    have hv : Is K H1 (.ref p) (.ls (((a.cells F.h F.w).filter F.op).map fun c => .tup [cellT (a.key c), cellT c])) := ⟨p, vs, rfl, .inl (.inl e1), im1⟩
    have lo := hpm.length_eq
    refine s_retN K (n_genA (enc := fun c => .tup [cellT (a.key c), cellT c]) (xs := (a.cells F.h F.w).filter F.op) (f := cellT) (i_seq (Ev.sq_ls (e_var rfl hv))) (by omega) fun i c v H2 hc s2 im => ?_) fun r ws H2 hr s2 er imr => q r ws H2 (s1.free hr) (s1.trans s2) er imr
    refine ⟨_, fun k z => z, rfl, ?_⟩
    exact e_ix (ts := [cellT (a.key c), cellT c]) (Ev.sq_im (e_var rfl (show Is K H2 v (.im (.tup [cellT (a.key c), cellT c])) from im))) e_int (by rfl)
end
end TW

set_option Elab.async false
set_option linter.all false
set_option maxRecDepth 100000
set_option maxHeartbeats 4000000
namespace TW
open PySem PySem.Spec PyProof.Rows L2
local macro_rules | `(tactic| walk_at "ev") => `(tactic| repeat' (first
  | with_reducible exact e_int | with_reducible exact e_str | with_reducible exact e_bl | with_reducible exact e_non
  | exact e_vint rfl | exact e_vstr rfl | exact e_vbl rfl | exact e_vnon rfl | exact e_var rfl (by assumption)
  | exact e_sqv rfl (by assumption) | exact e_dkI rfl (by assumption) rfl
  | with_reducible apply e_call | with_reducible apply e_intc | with_reducible apply e_abs
  | with_reducible apply e_intop | with_reducible apply e_cmp | with_reducible apply e_intopC
  | with_reducible apply e_len | with_reducible apply e_pow | with_reducible apply e_min2 | with_reducible apply e_max2
  | with_reducible exact a_nil | with_reducible apply a_cons
  | with_reducible apply t_ofB | with_reducible apply t_of
  | (with_reducible apply mulR; omega) | (with_reducible apply mulL; omega) | (with_reducible show (_ < _); omega)))
section
variable {P : Program} {w : World} {K : PySem.W.Frag} {mg : Str → Option Value} {base : Heap} {CF : Addr}
theorem sc_law_arrows : FnScope ["rows", "mask", "arrows", "cell", "row", "goal"] ["rows", "mask"] (defScope (top 80)) := ⟨rfl, rfl, rfl, by decide +kernel, rfl, by decide +kernel, by decide +kernel⟩
theorem ok_law_arrows {f : Addr} {fd : FuncData} (F : FunD K "_law_arrows" "_law_arrows" (defArgs (top 80)) (defBody (top 80)) (defScope (top 80)) [] [] f fd) (tx : Tx w K mg CF) (G_law_cells_where : Gf P w K mg base "_law_cells_where" 1 (sp_law_cells_where K mg CF)) (G_law_is_open : Gf P w K mg base "_law_is_open" 1 (sp_law_is_open K mg CF)) : FnOk P w K mg base (L2.CX P w) 2 f fd ["rows", "mask"] (sp_law_arrows K mg CF) := by
  refine F.ok sc_law_arrows (fun vs H Q E h => ?_) (fun cdv A outer s H vs Q E hr h => ?_)
  · first | (obtain ⟨_, rfl, _⟩ := h; rfl) | (obtain ⟨_, _, rfl, _⟩ := h; rfl) | (obtain ⟨_, _, _, rfl, _⟩ := h; rfl) | (obtain ⟨_, _, _, _, rfl, _⟩ := h; rfl) | (obtain ⟨_, _, _, _, _, rfl, _⟩ := h; rfl) | (obtain ⟨_, _, _, _, _, _, rfl, _⟩ := h; rfl) | (obtain ⟨_, _, _, _, _, _, _, rfl, _⟩ := h; rfl) | (obtain ⟨_, _, _, _, _, _, _, _, rfl, _⟩ := h; rfl) | exact spInit_len h rfl | exact spN_len h (by intro ds o hh; first | (obtain ⟨rfl, _⟩ := hh; rfl) | (obtain ⟨_, rfl, _⟩ := hh; rfl) | (obtain ⟨_, _, rfl, _⟩ := hh; rfl) | (obtain ⟨_, _, _, rfl, _⟩ := hh; rfl)) | exact spO_len h (by intro ds o hh; first | (obtain ⟨rfl, _⟩ := hh; rfl) | (obtain ⟨_, rfl, _⟩ := hh; rfl) | (obtain ⟨_, _, rfl, _⟩ := hh; rfl) | (obtain ⟨_, _, _, rfl, _⟩ := hh; rfl) | (obtain ⟨_, _, _, _, rfl, _⟩ := hh; rfl) | (obtain ⟨_, _, _, _, _, rfl, _⟩ := hh; rfl) | (obtain ⟨_, _, _, _, _, _, rfl, _⟩ := hh; rfl))
  refine ⟨_, (pss_cons (ps_asg (pe_lst pa_nil) (pg_name (i := 2) sc_law_arrows.nd rfl (by first | exact Or.inl rfl | exact Or.inr rfl)))
    (pss_cons (ps_for (passes_of rfl) rfl (pi_seq (pe_g G_law_cells_where (hr.mono (by decide)) (takes_of rfl rfl rfl rfl) (pa_cons (pv 0) (pa_cons pe_str pa_nil)))) (pg_name (i := 3) sc_law_arrows.nd rfl (by first | exact Or.inl rfl | exact Or.inr rfl))
    (pss_one (ps_for (passes_of rfl) rfl (pi_seq (pv 1)) (pg_name (i := 4) sc_law_arrows.nd rfl (by first | exact Or.inl rfl | exact Or.inr rfl))
    (pss_cons (ps_asg (pe_tup (pa_cons (pe_op op_add (pe_ix ix_seq (pv 3) pe_int (fun _ _ => rfl)) (pe_ix ix_seq (pv 4) pe_int (fun _ _ => rfl))) (pa_cons (pe_op op_add (pe_ix ix_seq (pv 3) pe_int (fun _ _ => rfl)) (pe_ix ix_seq (pv 4) pe_int (fun _ _ => rfl))) pa_nil))) (pg_name (i := 5) sc_law_arrows.nd rfl (by first | exact Or.inl rfl | exact Or.inr rfl)))
    (pss_one (ps_if (pt_val (pe_g G_law_is_open (hr.mono (by decide)) (takes_of rfl rfl rfl rfl) (pa_cons (pv 0) (pa_cons (pv 5) pa_nil))))
    (pss_one (ps_expr (pe_bm PySem.F.plainAttrs_list PySem.F.slot_list_append PySem.F.type_list_append mt_append (pv 2) (pa_cons (pe_tup (pa_cons (pe_ix ix_seq (pv 3) pe_int (fun _ _ => rfl)) (pa_cons (pe_ix ix_seq (pv 3) pe_int (fun _ _ => rfl)) (pa_cons (pe_ix ix_seq (pv 5) pe_int (fun _ _ => rfl)) (pa_cons (pe_ix ix_seq (pv 5) pe_int (fun _ _ => rfl)) (pa_cons (pe_ix ix_seq (pv 4) pe_int (fun _ _ => rfl)) pa_nil)))))) pa_nil))))
    pss_nil))))))
    (pss_one (ps_ret (pv 2))))), ?_⟩
  try dsimp only [cxOf]
  obtain ⟨ds, o, hi, ⟨F, m, rfl, hl, rfl⟩, q⟩ := h
  obtain ⟨v1, v2, rfl, h1, h2⟩ := hi.two_inv
  have ol := opens_len (F := F)
  with_reducible apply s_seq
  refine s_nil fun p H1 hp s1 e1 => ?_
  with_reducible apply s_seq
  refine for_new (enc := cellT) (xs := F.opens) K (n_call (a_cons (e_var rfl (s1.is h1)) (a_cons e_str a_nil)) ⟨F, rfl, rfl⟩) fun b ws H2 hb s2 e2 im2 => ?_
  have s02 := s1.trans s2
  have ep2 := s2 _ _ e1
  have nbp : b ≠ p := fun z => by rw [z] at hb; rw [e1] at hb; cases hb
  refine ⟨fun i σ' H' => ∃ a3 a4 a5, σ' = [some v1, some v2, some (.ref p), a3, a4, a5] ∧ Sm p H2 H' ∧ ∃ vs, H' p = some (.lst vs) ∧ vs.length ≤ 100 * i ∧ Ims K H' vs (((F.opens.take i).flatMap fun c => (m.filter fun q => F.op (goal c q)).map fun q => ((c, goal c q, q.2.2) : Arrow)).map arrT), ⟨none, none, none, rfl, Sm.refl _ _, [], ep2, Nat.le_refl _, .nil⟩, ?_, ?_, ?_⟩
  · rintro i σ' H' hi ⟨_, _, _, _, mm, _⟩
    exact ⟨mm b _ nbp e2, im2.mono ((keep_del ep2).trans (same_del mm).keep)⟩
  · rintro i c x σ' H3 hc ⟨a3, a4, a5, rfl, m3, vs, e3, l3, im3⟩ imx
    have hx : Is K H3 x (.im (cellT c)) := imx
    have s03 : Same H H3 := same_sm s02 hp m3
    have hil : i < F.opens.length := (List.getElem?_eq_some_iff.mp hc).1
    show tFor _ _ _ _ _ _
    refine for_it0 (enc := moveT) (xs := m) (H0 := H) K (i0_var rfl (Im.sq h2)) s03 (fun j σ' H' => ∃ a4 a5, σ' = [some v1, some v2, some (.ref p), some x, a4, a5] ∧ Sm p H3 H' ∧ ∃ vs, H' p = some (.lst vs) ∧ vs.length ≤ 100 * i + j ∧ Ims K H' vs ((((F.opens.take i).flatMap fun c => (m.filter fun q => F.op (goal c q)).map fun q => ((c, goal c q, q.2.2) : Arrow)) ++ ((m.take j).filter fun q => F.op (goal c q)).map fun q => ((c, goal c q, q.2.2) : Arrow)).map arrT)) ?_ ?_ ?_ ?_
    · exact fun H4 s4 => ⟨_, _, rfl, s4.sm, vs, s4 _ _ e3, l3, by simpa using L2.Same.ims s4 im3⟩
    · rintro j σ' H' hj ⟨_, _, _, mm, _⟩
      exact (same_sm s03 hp mm).stay
    · rintro j r y σ' H4 H5 hr ⟨b4, b5, rfl, m4, vs4, e4, l4, im4⟩ s5 imy
      have hy : Is K H5 y (.im (moveT r)) := imy
      have m5 : Sm p H3 H5 := m4.trans s5.sm
      have s05 : Same H H5 := same_sm s03 hp m5
      have e5 := s5 _ _ e4
      have hx5 : Is K H5 x (.im (cellT c)) := by
        have z := Im.mono ((keep_del e3).trans (same_del m5).keep) hx
        exact z
      have hjl : j < m.length := (List.getElem?_eq_some_iff.mp hr).1
      have cc : ∀ {H6 : Hp} {k : Nat} {w : V}, Is K H6 w (.im (cellT c)) → ∀ (σ'' : L2.St), σ''[k]? = some (some w) → Ev K (tOp (rIx K) (tVar k) (tC (.int 0))) σ'' H6 (.im (.int c.1)) := fun hw σ'' hs => e_ix (ts := [.int c.1, .int c.2]) (Ev.sq_im (e_var hs hw)) e_int (by rfl)
      refine s_gq ?_
      refine s_set K (e_tup (ts := [.int (c.1 + r.1), .int (c.2 + r.2.1)]) (a_cons (e_intop (e_ix (ts := [.int c.1, .int c.2]) (Ev.sq_im (e_var rfl hx5)) e_int (by rfl)) (e_ix (ts := [.int r.1, .int r.2.1, .int r.2.2]) (Ev.sq_im (e_var rfl hy)) e_int (by rfl))) (a_cons (e_intop (e_ix (ts := [.int c.1, .int c.2]) (Ev.sq_im (e_var rfl hx5)) e_int (by rfl)) (e_ix (ts := [.int r.1, .int r.2.1, .int r.2.2]) (Ev.sq_im (e_var rfl hy)) e_int (by rfl))) a_nil)) (by rfl) (Nat.le_of_ble_eq_true rfl)) fun g H6 s6 hg => ?_
      have hg : Is K H6 g (.im (cellT (goal c r))) := hg
      have st : ((m.take (j + 1)).filter fun q => F.op (goal c q)) = if F.op (goal c r) then ((m.take j).filter fun q => F.op (goal c q)) ++ [r] else ((m.take j).filter fun q => F.op (goal c q)) := filter_take_succ hr
      refine s_if K (b := F.op (goal c r)) (t_ofB (e_call (a_cons (e_var rfl ((s05.trans s6).is h1)) (a_cons (e_var rfl hg) a_nil)) ⟨F, goal c r, rfl, rfl⟩)) (fun hb2 H7 s7 => ?_) (fun hb2 H7 s7 => ?_)
      · have s57 := s6.trans s7
        refine s_app K (d := .im (arrT (c, goal c r, r.2.2))) rfl (s57 _ _ e5) (by omega) (e_tup (ts := [.int c.1, .int c.2, .int (goal c r).1, .int (goal c r).2, .int r.2.2]) (a_cons (e_ix (ts := [.int c.1, .int c.2]) (Ev.sq_im (e_var rfl (s57.is hx5))) e_int (by rfl)) (a_cons (e_ix (ts := [.int c.1, .int c.2]) (Ev.sq_im (e_var rfl (s57.is hx5))) e_int (by rfl)) (a_cons (e_ix (ts := [.int (goal c r).1, .int (goal c r).2]) (Ev.sq_im (e_var rfl (s7.is hg))) e_int (by rfl)) (a_cons (e_ix (ts := [.int (goal c r).1, .int (goal c r).2]) (Ev.sq_im (e_var rfl (s7.is hg))) e_int (by rfl)) (a_cons (e_ix (ts := [.int r.1, .int r.2.1, .int r.2.2]) (Ev.sq_im (e_var rfl (s57.is hy))) e_int (by rfl)) a_nil))))) (by rfl) (Nat.le_of_ble_eq_true rfl)) fun w H8 s8 hw => ?_
        have s58 := s57.trans s8
        refine ⟨_, _, rfl, (m5.trans s58.sm).upd, vs4 ++ [w], upd_same, by simp; omega, ?_⟩
        have k1 : Keep H8 (upd H8 p (.lst (vs4 ++ [w]))) := keep_lst (s58 _ _ e5)
        have z := ((L2.Same.ims (s5.trans s58) im4).mono k1).snoc (Im.mono k1 hw)
        rw [st, hb2, if_pos rfl]
        simpa [List.map_append, List.append_assoc] using z
      · refine s_next ⟨_, _, rfl, m5.trans (s6.trans s7).sm, vs4, (s6.trans s7) _ _ e5, by omega, ?_⟩
        rw [st, hb2, if_neg Bool.false_ne_true]
        exact L2.Same.ims (s5.trans (s6.trans s7)) im4
    · rintro σ' H4 ⟨b4, b5, rfl, m4, vs4, e4, l4, im4⟩
      rw [List.take_length] at im4
      refine ⟨_, _, _, rfl, m3.trans m4, vs4, e4, by omega, ?_⟩
      rw [List.take_add_one, hc, List.flatMap_append]
      simpa using im4
  · rintro σ' H3 ⟨a3, a4, a5, rfl, m3, vs, e3, l3, im3⟩
    rw [List.take_length] at im3
    exact ⟨_, rfl, q (.ref p) H3 (same_sm s02 hp m3) ⟨p, vs, rfl, .inl (.inl e3), im3⟩⟩
end
end TW

set_option Elab.async false
set_option linter.all false
set_option maxRecDepth 100000
set_option maxHeartbeats 4000000
namespace TW
open PySem PySem.Spec PyProof.Rows L2
local macro_rules | `(tactic| walk_at "ev") => `(tactic| repeat' (first
  | with_reducible exact e_int | with_reducible exact e_str | with_reducible exact e_bl | with_reducible exact e_non
  | exact e_vint rfl | exact e_vstr rfl | exact e_vbl rfl | exact e_vnon rfl | exact e_var rfl (by assumption)
  | exact e_sqv rfl (by assumption) | exact e_dkI rfl (by assumption) rfl
  | with_reducible apply e_call | with_reducible apply e_intc | with_reducible apply e_abs
  | with_reducible apply e_intop | with_reducible apply e_cmp | with_reducible apply e_intopC
  | with_reducible apply e_len | with_reducible apply e_pow | with_reducible apply e_min2 | with_reducible apply e_max2
  | with_reducible exact a_nil | with_reducible apply a_cons
  | with_reducible apply t_ofB | with_reducible apply t_of
  | (with_reducible apply mulR; omega) | (with_reducible apply mulL; omega) | (with_reducible show (_ < _); omega)))
section
variable {P : Program} {w : World} {K : PySem.W.Frag} {mg : Str → Option Value} {base : Heap} {CF : Addr}
theorem sc_law_sweep : FnScope ["rows", "mask", "order", "grid", "numbers", "item", "row", "ahead", "cell", "least", "came", "total"] ["rows", "mask", "order", "grid"] (defScope (top 84)) := ⟨rfl, rfl, rfl, by decide +kernel, rfl, by decide +kernel, by decide +kernel⟩
theorem ok_law_sweep {f : Addr} {fd : FuncData} (F : FunD K "_law_sweep" "_law_sweep" (defArgs (top 84)) (defBody (top 84)) (defScope (top 84)) [] [] f fd) (tx : Tx w K mg CF) (G_law_ordered_cells : Gf P w K mg base "_law_ordered_cells" 2 (sp_law_ordered_cells K mg CF)) (G_law_is_open : Gf P w K mg base "_law_is_open" 1 (sp_law_is_open K mg CF)) (G_law_part : Gf P w K mg base "_law_part" 3 (sp_law_part K mg CF)) : FnOk P w K mg base (L2.CX P w) 4 f fd ["rows", "mask", "order", "grid"] (sp_law_sweep K mg CF) := by
  refine F.ok sc_law_sweep (fun vs H Q E h => ?_) (fun cdv A outer s H vs Q E hr h => ?_)
  · first | (obtain ⟨_, rfl, _⟩ := h; rfl) | (obtain ⟨_, _, rfl, _⟩ := h; rfl) | (obtain ⟨_, _, _, rfl, _⟩ := h; rfl) | (obtain ⟨_, _, _, _, rfl, _⟩ := h; rfl) | (obtain ⟨_, _, _, _, _, rfl, _⟩ := h; rfl) | (obtain ⟨_, _, _, _, _, _, rfl, _⟩ := h; rfl) | (obtain ⟨_, _, _, _, _, _, _, rfl, _⟩ := h; rfl) | (obtain ⟨_, _, _, _, _, _, _, _, rfl, _⟩ := h; rfl) | exact spInit_len h rfl | exact spN_len h (by intro ds o hh; first | (obtain ⟨rfl, _⟩ := hh; rfl) | (obtain ⟨_, rfl, _⟩ := hh; rfl) | (obtain ⟨_, _, rfl, _⟩ := hh; rfl) | (obtain ⟨_, _, _, rfl, _⟩ := hh; rfl)) | exact spO_len h (by intro ds o hh; first | (obtain ⟨rfl, _⟩ := hh; rfl) | (obtain ⟨_, rfl, _⟩ := hh; rfl) | (obtain ⟨_, _, rfl, _⟩ := hh; rfl) | (obtain ⟨_, _, _, rfl, _⟩ := hh; rfl) | (obtain ⟨_, _, _, _, rfl, _⟩ := hh; rfl) | (obtain ⟨_, _, _, _, _, rfl, _⟩ := hh; rfl) | (obtain ⟨_, _, _, _, _, _, rfl, _⟩ := hh; rfl))
  refine ⟨_, (pss_cons (ps_setLc (i := 4) (te := (tLc (iSeq K (tVar 6)) (gName 5) tYes (tC V.non) [5])) (own := [("row", 6)]) (g := (gName 6)) (tt := tYes) rfl sc_law_sweep.nd rfl rfl rfl (pi_seq (pv 0)) (blkOk_by (own := [("row", 6)]) (N := ["rows", "mask", "order", "grid", "numbers", "item", "row", "ahead", "cell", "least", "came", "total"]) (sc := defScope (top 84)) (by decide +kernel)) (fun _ _ _ _ _ => (pg_name (i := 6) sc_law_sweep.nd rfl (by first | exact Or.inl rfl | exact Or.inr rfl))) (fun _ _ _ _ _ => pts_nil) (fun _ _ _ _ _ => (pe_lc (te := (tC V.non)) (own := [("item", 5)]) (g := (gName 5)) (tt := tYes) rfl sc_law_sweep.nd (pi_seq (pv 6)) (blkOk_by (own := [("item", 5)]) (N := ["rows", "mask", "order", "grid", "numbers", "item", "row", "ahead", "cell", "least", "came", "total"]) (by kernel_rfl)) (fun _ _ _ _ _ => (pg_name (i := 5) sc_law_sweep.nd rfl (by first | exact Or.inl rfl | exact Or.inr rfl))) (fun _ _ _ _ _ => pts_nil) (fun _ _ _ _ _ => pe_non))))
    (pss_cons (ps_asg (pe_g G_law_part (hr.mono (by decide)) (takes_of rfl rfl rfl rfl) (pa_cons (pv 2) (pa_cons (pv 1) (pa_cons pe_bl pa_nil)))) (pg_name (i := 7) sc_law_sweep.nd rfl (by first | exact Or.inl rfl | exact Or.inr rfl)))
    (pss_cons (ps_for (passes_of rfl) rfl (pi_seq (pe_g G_law_ordered_cells (hr.mono (by decide)) (takes_of rfl rfl rfl rfl) (pa_cons (pv 0) (pa_cons (pv 2) pa_nil)))) (pg_name (i := 8) sc_law_sweep.nd rfl (by first | exact Or.inl rfl | exact Or.inr rfl))
    (pss_cons (ps_asg (pe_ix ix_seq (pe_ix ix_seq (pv 3) (pe_ix ix_seq (pv 8) pe_int (fun _ _ => rfl)) (fun _ _ => rfl)) (pe_ix ix_seq (pv 8) pe_int (fun _ _ => rfl)) (fun _ _ => rfl)) (pg_name (i := 9) sc_law_sweep.nd rfl (by first | exact Or.inl rfl | exact Or.inr rfl)))
    (pss_cons (ps_for (passes_of rfl) rfl (pi_seq (pv 7)) (pg_name (i := 6) sc_law_sweep.nd rfl (by first | exact Or.inl rfl | exact Or.inr rfl))
    (pss_cons (ps_asg (pe_tup (pa_cons (pe_op op_sub (pe_ix ix_seq (pv 8) pe_int (fun _ _ => rfl)) (pe_ix ix_seq (pv 6) pe_int (fun _ _ => rfl))) (pa_cons (pe_op op_sub (pe_ix ix_seq (pv 8) pe_int (fun _ _ => rfl)) (pe_ix ix_seq (pv 6) pe_int (fun _ _ => rfl))) pa_nil))) (pg_name (i := 10) sc_law_sweep.nd rfl (by first | exact Or.inl rfl | exact Or.inr rfl)))
    (pss_one (ps_if (PW.pt (pw_and (pt_val (pe_g G_law_is_open (hr.mono (by decide)) (takes_of rfl rfl rfl rfl) (pa_cons (pv 0) (pa_cons (pv 10) pa_nil)))) (pw_and1 (pt_cmp (pc_notN (pe_ix ix_seq (pe_ix ix_seq (pv 4) (pe_ix ix_seq (pv 10) pe_int (fun _ _ => rfl)) (fun _ _ => rfl)) (pe_ix ix_seq (pv 10) pe_int (fun _ _ => rfl)) (fun _ _ => rfl))) rfl))))
    (pss_cons (ps_asg (pe_op op_add (pe_ix ix_seq (pe_ix ix_seq (pv 4) (pe_ix ix_seq (pv 10) pe_int (fun _ _ => rfl)) (fun _ _ => rfl)) (pe_ix ix_seq (pv 10) pe_int (fun _ _ => rfl)) (fun _ _ => rfl)) (pe_ix ix_seq (pv 6) pe_int (fun _ _ => rfl))) (pg_name (i := 11) sc_law_sweep.nd rfl (by first | exact Or.inl rfl | exact Or.inr rfl)))
    (pss_one (ps_if (PW.pt (pw_or (pt_cmp (pc_isN (pv 9)) rfl) (pw_or1 (pt_cmpR op_lt (pv 11) (pv 9) (nomark _)))))
    (pss_one (ps_asg (pv 11) (pg_name (i := 9) sc_law_sweep.nd rfl (by first | exact Or.inl rfl | exact Or.inr rfl))))
    pss_nil)))
    pss_nil))))
    (pss_one (ps_asg (pv 9) (pg_sub (pe_ix ix_seq (pv 4) (pe_ix ix_seq (pv 8) pe_int (fun _ _ => rfl)) (fun _ _ => rfl)) (pe_ix ix_seq (pv 8) pe_int (fun _ _ => rfl)) set_list))))))
    (pss_one (ps_ret (pe_tuple tx.bt (pe_lc (te := (tB1 (rTupQ K) (tVar 6))) (own := [("row", 6)]) (g := (gName 6)) (tt := tYes) rfl sc_law_sweep.nd (pi_seq (pv 4)) (blkOk_by (own := [("row", 6)]) (N := ["rows", "mask", "order", "grid", "numbers", "item", "row", "ahead", "cell", "least", "came", "total"]) (sc := defScope (top 84)) (by decide +kernel)) (fun _ _ _ _ _ => (pg_name (i := 6) sc_law_sweep.nd rfl (by first | exact Or.inl rfl | exact Or.inr rfl))) (fun _ _ _ _ _ => pts_nil) (fun _ _ _ _ _ => (pe_tuple tx.bt (pv 6)))))))))), ?_⟩
  try dsimp only [cxOf]
  obtain ⟨ds, o, hi, ⟨F, m, a, g, rfl, hl, rfl⟩, q⟩ := h
  obtain ⟨v1, v2, v3, v4, rfl, h1, h2, h3, h4⟩ := hi.four_inv
  rw [h3.sv]
  have hm := F.hm
  have wm := F.wm
  have l1 : F.rows.length = F.h := by unfold Fl.rows rowsL; simp
  have hl2 : (a.part m).length ≤ 1000 := Nat.le_trans (List.length_filter_le _ _) hl
  with_reducible apply s_seq
  refine n_genL (enc := fun y : Nat => T.tup (rowL F.w fun x => (F.it ((y : Int), x)).t)) (xs := List.range F.h) (f := fun _ => rowL F.w fun _ => T.non) (i_seq (Ev.sq_im (e_var rfl h1))) (by simp; omega) (fun i y v H1 hy s1 im => ?_) H (Same.refl H) _ fun n ps H1 hn s1 en lp nd nn fr rows => ?_
  · refine ⟨_, fun k z => z, rfl, ?_⟩
    exact n_genA (enc := fun x : Nat => (F.it ((y : Int), (x : Int))).t) (xs := List.range F.w) (f := fun _ => T.non) (i_seq (Ev.sq_im (e_var rfl (show Is K H1 v (.im _) from im)))) (by simp; omega) fun j x2 v2 H4 hx2 s4 im4 => ⟨_, fun k z => z, rfl, e_non⟩
  have m0 : MatAt K H1 n ps F.h F.w (fun _ => T.non) := ⟨en, by rw [lp]; simp, nd, nn, fun y p hp => by
    have hy : y < F.h := by
      have := (List.getElem?_eq_some_iff.mp hp).1
      rw [lp] at this
      simpa using this
    exact rows y p y hp (List.getElem?_range hy)⟩
  show tSeq _ _ _ _ _
  with_reducible apply s_seq
  refine s_set K (e_call (d := .im (maskT (a.part m))) (a_cons (e_vstr rfl) (a_cons (e_var rfl (s1.is h2)) (a_cons e_bl a_nil))) ⟨a, m, rfl, hl, rfl⟩) fun v7 H2 s2 h7 => ?_
  have s02 := s1.trans s2
  have m2 := m0.same s2
  with_reducible apply s_seq
  refine for_new (enc := cellT) (xs := (a.cells F.h F.w).filter F.op) K (n_call (a_cons (e_var rfl (s02.is h1)) (a_cons (e_vstr rfl) a_nil)) ⟨F, a, rfl, rfl⟩) fun b ws H3 hb s3 e3 im3 => ?_
  have s03 := s02.trans s3
  have nb : ∀ p ∈ ps, b ≠ p := fun p hp z => by
    obtain ⟨y, hy⟩ := List.mem_iff_getElem?.mp hp
    obtain ⟨vs, e, _⟩ := m2.row y p hy
    rw [z, e] at hb
    cases hb
  refine ⟨fun i σ' H' => ∃ a5 a6 a8 a9 a10 a11, σ' = [some v1, some v2, some (.str a.str), some v4, some (.ref n), a5, a6, some v7, a8, a9, a10, a11] ∧ Same H H' ∧ (∀ b' o, b' ∉ ps → H3 b' = some o → H' b' = some o) ∧ Keep H3 H' ∧
    MatAt K H' n ps F.h F.w (fun c => oT (look (sweepS F.op (a.part m) g (((a.cells F.h F.w).filter F.op).take i) []) c)), ?_, ?_, ?_, ?_⟩
  · exact ⟨_, _, _, _, _, _, rfl, s03, fun _ _ _ z => z, Keep.refl _, m2.same s3⟩
  · rintro i σ' H' hi ⟨_, _, _, _, _, _, _, _, mm, kk, _⟩
    exact ⟨mm b _ (fun z => nb b z rfl) e3, im3.mono kk⟩
  · rintro i c x σ' H4 hc ⟨a5, a6, a8, a9, a10, a11, rfl, s4, mm, kk, mt⟩ imx
    generalize hS : sweepS F.op (a.part m) g (((a.cells F.h F.w).filter F.op).take i) [] = S at mt
    have hx : Is K H4 x (.im (cellT c)) := imx
    obtain ⟨hcm, hcop⟩ := List.mem_filter.mp (List.mem_of_getElem? hc)
    obtain ⟨y0, y1, x0, x1⟩ := mem_cells.mp hcm
    have h74 : Is K H4 v7 (.im (maskT (a.part m))) := Im.mono kk (s3.is h7)
    have c0 : ∀ {H6 : Hp} {σ'' : L2.St} , Same H4 H6 → σ''[8]? = some (some x) → Ev K (tOp (rIx K) (tVar 8) (tC (.int 0))) σ'' H6 (.im (.int c.1)) := fun s hs => e_ix (ts := [.int c.1, .int c.2]) (Ev.sq_im (e_var hs (s.is hx))) e_int (by rfl)
    have c1 : ∀ {H6 : Hp} {σ'' : L2.St} , Same H4 H6 → σ''[8]? = some (some x) → Ev K (tOp (rIx K) (tVar 8) (tC (.int 1))) σ'' H6 (.im (.int c.2)) := fun s hs => e_ix (ts := [.int c.1, .int c.2]) (Ev.sq_im (e_var hs (s.is hx))) e_int (by rfl)
    refine s_gq ?_
    refine s_set K (e_mat (f := fun c => oT (g c)) (h := F.h) (w := F.w) (e_var rfl (s4.is h4)) (c0 (Same.refl _) rfl) (c1 (Same.refl _) rfl) y0 y1 x0 x1) fun v9 H5 s5 h9 => ?_
    with_reducible apply s_seq
    refine for_it0 (enc := moveT) (xs := a.part m) (H0 := H4) K (i0_var rfl (Im.sq h74)) s5 (fun j σ' H' => ∃ b6 b9 b10 b11, σ' = [some v1, some v2, some (.str a.str), some v4, some (.ref n), a5, b6, some v7, some x, some b9, b10, b11] ∧ Same H4 H' ∧ Is K H' b9 (.im (oT (leastO (oL (g c) ++ sums S ((a.part m).take j) c))))) ?_ ?_ ?_ ?_
    · intro H6 s6
      refine ⟨_, _, _, _, rfl, s5.trans s6, ?_⟩
      have e : leastO (oL (g c) ++ sums S ((a.part m).take 0) c) = g c := by
        cases g c <;> rfl
      rw [e]
      exact s6.is h9
    · rintro j σ' H' hj ⟨_, _, _, _, _, s, _⟩
      exact s.stay
    · rintro j r y σ' H6 H7 hr ⟨b6, b9, b10, b11, rfl, s6, h96⟩ s7 imy
      have hy : Is K H7 y (.im (moveT r)) := imy
      have s47 := s6.trans s7
      have r0 : ∀ {H8 : Hp} {σ'' : L2.St}, Same H7 H8 → σ''[6]? = some (some y) → ∀ k z, atI ([.int r.1, .int r.2.1, .int r.2.2] : List T) k = some (.int z) → Ev K (tOp (rIx K) (tVar 6) (tC (.int k))) σ'' H8 (.im (.int z)) := fun s hs k z hk => e_ix (ts := [.int r.1, .int r.2.1, .int r.2.2]) (Ev.sq_im (e_var hs (s.is hy))) e_int hk
      refine s_gq ?_
      refine s_set K (e_tup (ts := [.int (c.1 - r.1), .int (c.2 - r.2.1)]) (a_cons (e_intop (c0 s47 rfl) (r0 (Same.refl _) rfl 0 _ rfl)) (a_cons (e_intop (c1 s47 rfl) (r0 (Same.refl _) rfl 1 _ rfl)) a_nil)) (by rfl) (Nat.le_of_ble_eq_true rfl)) fun w H8 s8 hw => ?_
      have hw : Is K H8 w (.im (cellT (came c r))) := hw
      have s48 := s47.trans s8
      have mt8 := mt.same s48
      have w0 : ∀ {H9 : Hp} {σ'' : L2.St}, Same H8 H9 → σ''[10]? = some (some w) → Ev K (tOp (rIx K) (tVar 10) (tC (.int 0))) σ'' H9 (.im (.int (came c r).1)) := fun s hs => e_ix (ts := [.int (came c r).1, .int (came c r).2]) (Ev.sq_im (e_var hs (s.is hw))) e_int (by rfl)
      have w1 : ∀ {H9 : Hp} {σ'' : L2.St}, Same H8 H9 → σ''[10]? = some (some w) → Ev K (tOp (rIx K) (tVar 10) (tC (.int 1))) σ'' H9 (.im (.int (came c r).2)) := fun s hs => e_ix (ts := [.int (came c r).1, .int (came c r).2]) (Ev.sq_im (e_var hs (s.is hw))) e_int (by rfl)
      have ins : F.op (came c r) = true → 0 ≤ (came c r).1 ∧ (came c r).1 < F.h ∧ 0 ≤ (came c r).2 ∧ (came c r).2 < F.w := fun z => fl_ins.mp (op_ins z)
      have nm : ∀ {H9 : Hp} {σ'' : L2.St}, F.op (came c r) = true → Same H8 H9 → σ''[4]? = some (some (.ref n)) → σ''[10]? = some (some w) → Ev K (tOp (rIx K) (tOp (rIx K) (tVar 4) (tOp (rIx K) (tVar 10) (tC (.int 0)))) (tOp (rIx K) (tVar 10) (tC (.int 1)))) σ'' H9 (.im (oT (look S (came c r)))) := fun z s hs hs2 => e_matR (f := fun c => oT (look S c)) (mt8.same s) (r_var hs) (w0 s hs2) (w1 s hs2) (ins z).1 (ins z).2.1 (ins z).2.2.1 (ins z).2.2.2
      have stp := sums_succ (S := S) (c := c) hr
      refine s_if K (b := F.op (came c r) && !(oT (look S (came c r))).isN) (t_and (t_ofB (e_call (a_cons (e_var rfl ((s4.trans s48).is h1)) (a_cons (e_var rfl hw) a_nil)) ⟨F, came c r, rfl, rfl⟩)) fun z => t_of (e_notN (nm z (Same.refl _) rfl rfl) rfl)) (fun hb2 H9 s9 => ?_) (fun hb2 H9 s9 => ?_)
      · obtain ⟨hop, hnn⟩ := Bool.and_eq_true_iff.mp hb2
        obtain ⟨k, ek⟩ : ∃ k, look S (came c r) = some k := by
          cases e : look S (came c r) with
          | none => rw [e] at hnn; cases hnn
          | some k => exact ⟨k, rfl⟩
        have nm9 := nm (σ'' := [some v1, some v2, some (.str a.str), some v4, some (.ref n), a5, some y, some v7, some x, some b9, some w, b11]) hop s9 rfl rfl
        rw [ek] at nm9
        with_reducible apply s_seq
        refine s_setI K (n := k + r.2.2) (e_intop nm9 (r0 (s8.trans s9) rfl 2 _ rfl)) fun H10 s10 => ?_
        have h910 : Is K H10 b9 (.im (oT (leastO (oL (g c) ++ sums S ((a.part m).take j) c)))) := (s7.trans (s8.trans (s9.trans s10))).is h96
        have nxt : leastO (oL (g c) ++ sums S ((a.part m).take (j + 1)) c) = match leastO (oL (g c) ++ sums S ((a.part m).take j) c) with
            | none => some (k + r.2.2)
            | some mm => some (if k + r.2.2 < mm then k + r.2.2 else mm) := by
          rw [stp, ek, ← List.append_assoc]
          exact leastO_snoc
        have fin : Same H4 H10 := s48.trans (s9.trans s10)
        cases hle : leastO (oL (g c) ++ sums S ((a.part m).take j) c) with
        | none =>
          rw [hle] at nxt h910
          refine s_if K (b := (true || false)) (t_or (c := false) (t_of (e_isN (e_var rfl h910) rfl)) fun z => by cases z) (fun _ H11 s11 => ?_) (fun z => by cases z)
          refine s_set K (e_vint rfl) fun u H12 s12 hu => ⟨_, _, _, _, rfl, fin.trans (s11.trans s12), ?_⟩
          rw [nxt]
          exact hu
        | some ml =>
          rw [hle] at nxt h910
          have eb := (show Is K H10 b9 (.im (.int ml)) from h910).iv
          subst eb
          refine s_if K (b := (false || decide (k + r.2.2 < ml))) (t_or (t_of (e_isN (e_var rfl h910) rfl)) fun _ => t_of (e_cmp (f := fun i j => decide (i < j)) (e_vint rfl) (e_vint rfl))) (fun z H11 s11 => ?_) (fun z H11 s11 => ?_)
          · have z : k + r.2.2 < ml := by simpa using z
            refine s_set K (e_vint rfl) fun u H12 s12 hu => ⟨_, _, _, _, rfl, fin.trans (s11.trans s12), ?_⟩
            rw [nxt]
            simp only
            rw [if_pos z]
            exact hu
          · have z : ¬ k + r.2.2 < ml := by simpa using z
            refine s_next ⟨_, _, _, _, rfl, fin.trans s11, ?_⟩
            rw [nxt]
            simp only
            rw [if_neg z]
            exact s11.is h910
      · refine s_next ⟨_, _, _, _, rfl, s48.trans s9, ?_⟩
        have en : look S (came c r) = none := by
          cases e : look S (came c r) with
          | none => rfl
          | some k =>
            have hop : F.op (came c r) = true := by
              rw [← hS] at e
              exact (look_op e).1
            rw [hop, e] at hb2
            cases hb2
        have e2 : leastO (oL (g c) ++ sums S ((a.part m).take (j + 1)) c) = leastO (oL (g c) ++ sums S ((a.part m).take j) c) := by
          rw [stp, en]
          simp [oL]
        rw [e2]
        exact (s7.trans (s8.trans s9)).is h96
    · rintro σ' H6 ⟨b6, b9, b10, b11, rfl, s6, h96⟩
      rw [List.take_length] at h96
      refine s_matSet K (mt.same s6) (r_var rfl) (c0 s6 rfl) (c1 s6 rfl) y0 y1 x0 x1 (e_var rfl h96) fun p vs v H7 hp s7 e7 mt7 => ?_
      have hpn : H p = none := fr p hp
      refine ⟨_, _, _, _, _, _, rfl, same_mut (s4.trans (s6.trans s7)) hpn, fun b' o nb' e => ?_, ?_, ?_⟩
      · rw [upd_ne (fun z => nb' (by rw [z]; exact hp))]
        exact s7 _ _ (s6 _ _ (mm b' o nb' e))
      · exact kk.trans ((s6.trans s7).keep.trans (keep_lst e7))
      · have hk : c ∉ S.map (·.1) := fun z => by
          rw [← hS] at z
          rcases sweepS_keys z with y | y
          · cases y
          · exact nodup_take (nodup_cells.sublist List.filter_sublist) hc y.1
        have e : (fun c' => if c' = (c.1, c.2) then oT (leastO (oL (g c) ++ sums S (a.part m) c)) else oT (look S c')) = fun c' => oT (look (sweepS F.op (a.part m) g (((a.cells F.h F.w).filter F.op).take (i + 1)) []) c') := by
          funext c'
          rw [sweepS_succ hc, hS, hcop, if_pos rfl, look_snoc hk]
          by_cases d : c' = c
          · subst d
            rw [if_pos rfl, if_pos rfl]
            rfl
          · rw [if_neg d, if_neg d]
        rw [e] at mt7
        exact mt7
  · rintro σ' H4 ⟨a5, a6, a8, a9, a10, a11, rfl, s4, mm, kk, mt⟩
    rw [List.take_length, sweepS_filter] at mt
    exact s_ret K (e_tuple (n_rows rfl mt (by omega) (Nat.le_of_ble_eq_true rfl)).ev.sq_ls) fun v H5 s5 hv => q v H5 (s4.trans s5) hv
end
end TW

set_option Elab.async false
set_option linter.all false
set_option maxRecDepth 100000
set_option maxHeartbeats 4000000
namespace TW
open PySem PySem.Spec PyProof.Rows L2
local macro_rules | `(tactic| walk_at "ev") => `(tactic| repeat' (first
  | with_reducible exact e_int | with_reducible exact e_str | with_reducible exact e_bl | with_reducible exact e_non
  | exact e_vint rfl | exact e_vstr rfl | exact e_vbl rfl | exact e_vnon rfl | exact e_var rfl (by assumption)
  | exact e_sqv rfl (by assumption) | exact e_dkI rfl (by assumption) rfl
  | with_reducible apply e_call | with_reducible apply e_intc | with_reducible apply e_abs
  | with_reducible apply e_intop | with_reducible apply e_cmp | with_reducible apply e_intopC
  | with_reducible apply e_len | with_reducible apply e_pow | with_reducible apply e_min2 | with_reducible apply e_max2
  | with_reducible exact a_nil | with_reducible apply a_cons
  | with_reducible apply t_ofB | with_reducible apply t_of
  | (with_reducible apply mulR; omega) | (with_reducible apply mulL; omega) | (with_reducible show (_ < _); omega)))
section
variable {P : Program} {w : World} {K : PySem.W.Frag} {mg : Str → Option Value} {base : Heap} {CF : Addr}
theorem sc_law_grown : FnScope ["grid", "arrows", "numbers", "row", "turn", "changed", "arrow", "number", "held"] ["grid", "arrows"] (defScope (top 81)) := ⟨rfl, rfl, rfl, by decide +kernel, rfl, by decide +kernel, by decide +kernel⟩
theorem ok_law_grown {f : Addr} {fd : FuncData} (F : FunD K "_law_grown" "_law_grown" (defArgs (top 81)) (defBody (top 81)) (defScope (top 81)) [] [] f fd) (tx : Tx w K mg CF) : FnOk P w K mg base (L2.CX P w) 1 f fd ["grid", "arrows"] (sp_law_grown K mg CF) := by
  refine F.ok sc_law_grown (fun vs H Q E h => ?_) (fun cdv A outer s H vs Q E hr h => ?_)
  · first | (obtain ⟨_, rfl, _⟩ := h; rfl) | (obtain ⟨_, _, rfl, _⟩ := h; rfl) | (obtain ⟨_, _, _, rfl, _⟩ := h; rfl) | (obtain ⟨_, _, _, _, rfl, _⟩ := h; rfl) | (obtain ⟨_, _, _, _, _, rfl, _⟩ := h; rfl) | (obtain ⟨_, _, _, _, _, _, rfl, _⟩ := h; rfl) | (obtain ⟨_, _, _, _, _, _, _, rfl, _⟩ := h; rfl) | (obtain ⟨_, _, _, _, _, _, _, _, rfl, _⟩ := h; rfl) | exact spInit_len h rfl | exact spN_len h (by intro ds o hh; first | (obtain ⟨rfl, _⟩ := hh; rfl) | (obtain ⟨_, rfl, _⟩ := hh; rfl) | (obtain ⟨_, _, rfl, _⟩ := hh; rfl) | (obtain ⟨_, _, _, rfl, _⟩ := hh; rfl)) | exact spO_len h (by intro ds o hh; first | (obtain ⟨rfl, _⟩ := hh; rfl) | (obtain ⟨_, rfl, _⟩ := hh; rfl) | (obtain ⟨_, _, rfl, _⟩ := hh; rfl) | (obtain ⟨_, _, _, rfl, _⟩ := hh; rfl) | (obtain ⟨_, _, _, _, rfl, _⟩ := hh; rfl) | (obtain ⟨_, _, _, _, _, rfl, _⟩ := hh; rfl) | (obtain ⟨_, _, _, _, _, _, rfl, _⟩ := hh; rfl))
  refine ⟨_, (pss_cons (ps_setLc (i := 2) (te := (tB1 (rListQ K) (tVar 3))) (own := [("row", 3)]) (g := (gName 3)) (tt := tYes) rfl sc_law_grown.nd rfl rfl rfl (pi_seq (pv 0)) (blkOk_by (own := [("row", 3)]) (N := ["grid", "arrows", "numbers", "row", "turn", "changed", "arrow", "number", "held"]) (sc := defScope (top 81)) (by decide +kernel)) (fun _ _ _ _ _ => (pg_name (i := 3) sc_law_grown.nd rfl (by first | exact Or.inl rfl | exact Or.inr rfl))) (fun _ _ _ _ _ => pts_nil) (fun _ _ _ _ _ => (pe_list tx.bt (pv 3))))
    (pss_cons (ps_for (passes_of rfl) rfl (pi_range1 rfl tx.bt.range (pa_cons pe_int pa_nil)) (pg_name (i := 4) sc_law_grown.nd rfl (by first | exact Or.inl rfl | exact Or.inr rfl))
    (pss_cons (ps_asg pe_bl (pg_name (i := 5) sc_law_grown.nd rfl (by first | exact Or.inl rfl | exact Or.inr rfl)))
    (pss_cons (ps_for (passes_of rfl) rfl (pi_seq (pv 1)) (pg_name (i := 6) sc_law_grown.nd rfl (by first | exact Or.inl rfl | exact Or.inr rfl))
    (pss_cons (ps_asg (pe_ix ix_seq (pe_ix ix_seq (pv 2) (pe_ix ix_seq (pv 6) pe_int (fun _ _ => rfl)) (fun _ _ => rfl)) (pe_ix ix_seq (pv 6) pe_int (fun _ _ => rfl)) (fun _ _ => rfl)) (pg_name (i := 7) sc_law_grown.nd rfl (by first | exact Or.inl rfl | exact Or.inr rfl)))
    (pss_one (ps_if (pt_cmp (pc_notN (pv 7)) rfl)
    (pss_cons (ps_asg (pe_ix ix_seq (pe_ix ix_seq (pv 2) (pe_ix ix_seq (pv 6) pe_int (fun _ _ => rfl)) (fun _ _ => rfl)) (pe_ix ix_seq (pv 6) pe_int (fun _ _ => rfl)) (fun _ _ => rfl)) (pg_name (i := 8) sc_law_grown.nd rfl (by first | exact Or.inl rfl | exact Or.inr rfl)))
    (pss_one (ps_if (PW.pt (pw_or (pt_cmp (pc_isN (pv 8)) rfl) (pw_or1 (pt_cmpR op_lt (pe_op op_add (pv 7) (pe_ix ix_seq (pv 6) pe_int (fun _ _ => rfl))) (pv 8) (nomark _)))))
    (pss_cons (ps_asg (pe_op op_add (pv 7) (pe_ix ix_seq (pv 6) pe_int (fun _ _ => rfl))) (pg_sub (pe_ix ix_seq (pv 2) (pe_ix ix_seq (pv 6) pe_int (fun _ _ => rfl)) (fun _ _ => rfl)) (pe_ix ix_seq (pv 6) pe_int (fun _ _ => rfl)) set_list))
    (pss_one (ps_asg pe_bl (pg_name (i := 5) sc_law_grown.nd rfl (by first | exact Or.inl rfl | exact Or.inr rfl)))))
    pss_nil)))
    pss_nil))))
    (pss_one (ps_if (pt_not (pt_val (pv 5)))
    (pss_one ps_break)
    pss_nil)))))
    (pss_one (ps_ret (pe_tuple tx.bt (pe_lc (te := (tB1 (rTupQ K) (tVar 3))) (own := [("row", 3)]) (g := (gName 3)) (tt := tYes) rfl sc_law_grown.nd (pi_seq (pv 2)) (blkOk_by (own := [("row", 3)]) (N := ["grid", "arrows", "numbers", "row", "turn", "changed", "arrow", "number", "held"]) (sc := defScope (top 81)) (by decide +kernel)) (fun _ _ _ _ _ => (pg_name (i := 3) sc_law_grown.nd rfl (by first | exact Or.inl rfl | exact Or.inr rfl))) (fun _ _ _ _ _ => pts_nil) (fun _ _ _ _ _ => (pe_tuple tx.bt (pv 3))))))))), ?_⟩
  try dsimp only [cxOf]
  obtain ⟨ds, o, hi, ⟨F, g, as, rfl, hl, hins, rfl⟩, q⟩ := h
  obtain ⟨v1, v2, rfl, h1, h2⟩ := hi.two_inv
  have hm := F.hm
  have wm := F.wm
  with_reducible apply s_seq
  refine n_genL (enc := fun y : Nat => T.tup (rowL F.w fun x => oT (g ((y : Int), x)))) (xs := List.range F.h) (f := fun y : Nat => rowL F.w fun x => oT (g ((y : Int), x))) (i_seq (Ev.sq_im (e_var rfl h1))) (by simp; omega) (fun i y v H1 hy s1 im => ?_) H (Same.refl H) _ fun n ps H1 hn s1 en lp nd nn fr rows => ?_
  · refine ⟨_, fun k z => z, rfl, ?_⟩
    exact n_list (Ev.sq_im (e_var rfl (show Is K H1 v (.im _) from im)))
  have m0 : MatAt K H1 n ps F.h F.w (fun c => oT (g c)) := ⟨en, by rw [lp]; simp, nd, nn, fun y p hp => by
    have hy : y < F.h := by
      have := (List.getElem?_eq_some_iff.mp hp).1
      rw [lp] at this
      simpa using this
    exact rows y p y hp (List.getElem?_range hy)⟩
  show tSeq _ _ _ _ _
  with_reducible apply s_seq
  refine for_brk (fun σ' H' => ∃ a3 a4 a5 a6 a7 a8, σ' = [some v1, some v2, some (.ref n), a3, a4, a5, a6, a7, a8] ∧ Same H H' ∧ MatAt K H' n ps F.h F.w (fun c => oT (grow as 200 g c))) ?_ fun hd => for_rng K (j := 200) (a_cons e_int a_nil) (by decide) (fun k σ' H' => ∃ a3 a4 a5 a6 a7 a8 gk, σ' = [some v1, some v2, some (.ref n), a3, a4, a5, a6, a7, a8] ∧ Same H H' ∧ MatAt K H' n ps F.h F.w (fun c => oT (gk c)) ∧ grow as (200 - k) gk = grow as 200 g) ?_ ?_ ?_
  · rintro σ' H2 ⟨a3, a4, a5, a6, a7, a8, rfl, s2, mt⟩
    exact s_ret K (e_tuple (n_rows rfl mt (by omega) (Nat.le_of_ble_eq_true rfl)).ev.sq_ls) fun v H5 s5 hv => q v H5 (s2.trans s5) hv
  · exact fun H2 s2 => ⟨_, _, _, _, _, _, g, rfl, s1.trans s2, m0.same s2, rfl⟩
  · rintro k σ' H2 hk ⟨a3, a4, a5, a6, a7, a8, gk, rfl, s2, mt, eg⟩
    have hk2 : k < 200 := by omega
    obtain ⟨j, hj⟩ : ∃ j, 200 - k = j + 1 := ⟨199 - k, by omega⟩
    rw [hj] at eg
    with_reducible apply s_seq
    refine s_setB K (n := false) e_bl fun H3 s3 => ?_
    with_reducible apply s_seq
    refine for_it0 (enc := arrT) (xs := as) (H0 := H) K (i0_var rfl (Ls.sq h2)) (s2.trans s3) (fun i σ' H' => ∃ a6 a7 a8, σ' = [some v1, some v2, some (.ref n), a3, some (.int (k : Int)), some (.bl ((as.take i).foldl relax (gk, false)).2), a6, a7, a8] ∧ Same H H' ∧ MatAt K H' n ps F.h F.w (fun c => oT (((as.take i).foldl relax (gk, false)).1 c))) ?_ ?_ ?_ ?_
    · exact fun H4 s4 => ⟨_, _, _, rfl, s2.trans (s3.trans s4), (mt.same s3).same s4⟩
    · rintro i σ' H' hi ⟨_, _, _, _, s, _⟩
      exact s.stay
    · rintro i a x σ' H4 H5 ha ⟨b6, b7, b8, rfl, s4, mt4⟩ s5 imx
      generalize hr : (as.take i).foldl relax (gk, false) = r at mt4
      have hx : Is K H5 x (.im (arrT a)) := imx
      obtain ⟨i1, i2⟩ := hins a (List.mem_of_getElem? ha)
      obtain ⟨y0, y1, x0, x1⟩ := fl_ins.mp i1
      obtain ⟨u0, u1, w0, w1⟩ := fl_ins.mp i2
      have mt5 := mt4.same s5
      have s05 := s4.trans s5
      have stp : (as.take (i + 1)).foldl relax (gk, false) = relax r a := by
        rw [List.take_add_one, ha, List.foldl_append, hr]
        rfl
      have ax : ∀ {H6 : Hp} {σ'' : L2.St}, Same H5 H6 → σ''[6]? = some (some x) → ∀ k z, atI ([.int a.1.1, .int a.1.2, .int a.2.1.1, .int a.2.1.2, .int a.2.2] : List T) k = some (.int z) → Ev K (tOp (rIx K) (tVar 6) (tC (.int k))) σ'' H6 (.im (.int z)) := fun s hs k z hk => e_ix (ts := [.int a.1.1, .int a.1.2, .int a.2.1.1, .int a.2.1.2, .int a.2.2]) (Ev.sq_im (e_var hs (s.is hx))) e_int hk
      refine s_gq ?_
      refine s_set K (e_matR mt5 (r_var rfl) (ax (Same.refl _) rfl 0 _ rfl) (ax (Same.refl _) rfl 1 _ rfl) y0 y1 x0 x1) fun v7 H6 s6 h7 => ?_
      have h7 : Is K H6 v7 (.im (oT (r.1 a.1))) := h7
      refine s_if K (b := !(oT (r.1 a.1)).isN) (t_of (e_notN (e_var rfl h7) rfl)) (fun hb H7 s7 => ?_) (fun hb H7 s7 => ?_)
      · obtain ⟨nn', en'⟩ : ∃ k, r.1 a.1 = some k := by
          cases e : r.1 a.1 with
          | none => rw [e] at hb; cases hb
          | some k => exact ⟨k, rfl⟩
        rw [en'] at h7
        have e7 := (show Is K H6 v7 (.im (.int nn')) from h7).iv
        subst e7
        have s57 := s6.trans s7
        with_reducible apply s_seq
        refine s_set K (e_matR (mt5.same s57) (r_var rfl) (ax s57 rfl 2 _ rfl) (ax s57 rfl 3 _ rfl) u0 u1 w0 w1) fun v8 H8 s8 h8 => ?_
        have h8 : Is K H8 v8 (.im (oT (r.1 a.2.1))) := h8
        have s58 := s57.trans s8
        -- the place is set
        have put : relax r a = (putG r.1 a.2.1 (some (nn' + a.2.2)), true) → ∀ {H9 : Hp}, Same H8 H9 → ∀ {nx' : L2.St → Hp → Prop} {bk' ct' : L2.St → Hp → Prop} {rt' : VK}, (∀ σ' H', (∃ a6 a7 a8, σ' = [some v1, some v2, some (.ref n), a3, some (.int (k : Int)), some (.bl ((as.take (i + 1)).foldl relax (gk, false)).2), a6, a7, a8] ∧ Same H H' ∧ MatAt K H' n ps F.h F.w (fun c => oT (((as.take (i + 1)).foldl relax (gk, false)).1 c))) → nx' σ' H') →
            tSeq (tAsg (tOp (rI0 fun i j => .int (i + j)) (tVar 7) (tOp (rIx K) (tVar 6) (tC (.int 4)))) (gSub (tOp (rIx K) (tVar 2) (tOp (rIx K) (tVar 6) (tC (.int 2)))) (tOp (rIx K) (tVar 6) (tC (.int 3))) rSetL)) (tAsg (tC (.bl true)) (gName 5)) ⟨nx', rt', bk', ct'⟩ [some v1, some v2, some (.ref n), a3, some (.int (k : Int)), some (.bl r.2), some x, some (.int nn'), some v8] H9 := by
          intro er H9 s9 nx' bk' ct' rt' kn
          have s59 := s58.trans s9
          refine s_seq ?_
          refine s_matSet K (mt5.same s59) (r_var rfl) (ax s59 rfl 2 _ rfl) (ax s59 rfl 3 _ rfl) u0 u1 w0 w1 (t := .int (nn' + a.2.2)) (e_intop (e_vint rfl) (ax s59 rfl 4 _ rfl)) fun p vs v H10 hp s10 e10 mt10 => ?_
          refine s_setB K (n := true) e_bl fun H11 s11 => kn _ _ ⟨some x, some (.int nn'), some v8, ?_, (same_mut (s05.trans (s59.trans s10)) (fr p hp)).trans s11, ?_⟩
          · rw [stp, er]
            rfl
          · rw [stp, er]
            have e : (fun c => if c = (a.2.1.1, a.2.1.2) then T.int (nn' + a.2.2) else oT (r.1 c)) = fun c => oT (putG r.1 a.2.1 (some (nn' + a.2.2)) c) := by
              funext c
              unfold putG
              by_cases d : c = a.2.1
              · rw [if_pos d, if_pos d]
                rfl
              · rw [if_neg d, if_neg d]
            rw [e] at mt10
            exact mt10.same s11
        cases eh : r.1 a.2.1 with
        | none =>
          rw [eh] at h8
          refine s_if K (b := (true || false)) (t_or (c := false) (t_of (e_isN (e_var rfl h8) rfl)) fun z => by cases z) (fun _ H9 s9 => ?_) (fun z => by cases z)
          refine put ?_ s9 fun σ' H' z => z
          unfold relax
          rw [en', eh]
        | some hv =>
          rw [eh] at h8
          have e8 := (show Is K H8 v8 (.im (.int hv)) from h8).iv
          subst e8
          refine s_if K (b := (false || decide (nn' + a.2.2 < hv))) (t_or (t_of (e_isN (e_var rfl h8) rfl)) fun _ => t_of (e_cmp (f := fun i j => decide (i < j)) (e_intop (e_vint rfl) (ax s58 rfl 4 _ rfl)) (e_vint rfl))) (fun z H9 s9 => ?_) (fun z H9 s9 => ?_)
          · have z : nn' + a.2.2 < hv := by simpa using z
            refine put ?_ s9 fun σ' H' z => z
            unfold relax
            rw [en', eh]
            simp only
            rw [if_pos z]
          · have z : ¬ nn' + a.2.2 < hv := by simpa using z
            have er : relax r a = r := by
              unfold relax
              rw [en', eh]
              simp only
              rw [if_neg z]
            refine s_next ?_
            rw [stp, er]
            exact ⟨_, _, _, rfl, s05.trans (s58.trans s9), mt5.same (s58.trans s9)⟩
      · have en' : r.1 a.1 = none := by
          cases e : r.1 a.1 with
          | none => rfl
          | some k => rw [e] at hb; cases hb
        have er : relax r a = r := by
          unfold relax
          rw [en']
        refine s_next ?_
        rw [stp, er]
        exact ⟨_, _, _, rfl, s05.trans (s6.trans s7), mt5.same (s6.trans s7)⟩
    · rintro σ' H4 ⟨b6, b7, b8, rfl, s4, mt4⟩
      rw [List.take_length] at mt4 ⊢
      have eg2 : grow as 200 g = if (as.foldl relax (gk, false)).2 then grow as j (as.foldl relax (gk, false)).1 else (as.foldl relax (gk, false)).1 := eg.symm
      refine s_if K (b := !(as.foldl relax (gk, false)).2) (t_not (t_ofB (e_vbl rfl))) (fun hb H5 s5 => ?_) (fun hb H5 s5 => ?_)
      · refine s_break (hd _ _ ⟨_, _, _, _, _, _, rfl, s4.trans s5, ?_⟩)
        have hb : (as.foldl relax (gk, false)).2 = false := by simpa using hb
        rw [eg2, hb]
        exact mt4.same s5
      · refine s_next ⟨_, _, _, _, _, _, (as.foldl relax (gk, false)).1, rfl, s4.trans s5, mt4.same s5, ?_⟩
        have hb : (as.foldl relax (gk, false)).2 = true := by simpa using hb
        rw [eg2, hb]
        have e : 200 - (k + 1) = j := by omega
        rw [e]
        rfl
  · rintro σ' H2 ⟨a3, a4, a5, a6, a7, a8, gk, rfl, s2, mt, eg⟩
    have e : gk = grow as 200 g := eg
    refine hd _ _ ⟨_, _, _, _, _, _, rfl, s2, ?_⟩
    rw [← e]
    exact mt
end
end TW

set_option Elab.async false
set_option linter.all false
set_option maxRecDepth 100000
set_option maxHeartbeats 4000000
namespace TW
open PySem PySem.Spec PyProof.Rows L2
local macro_rules | `(tactic| walk_at "ev") => `(tactic| repeat' (first
  | with_reducible exact e_int | with_reducible exact e_str | with_reducible exact e_bl | with_reducible exact e_non
  | exact e_vint rfl | exact e_vstr rfl | exact e_vbl rfl | exact e_vnon rfl | exact e_var rfl (by assumption)
  | exact e_sqv rfl (by assumption) | exact e_dkI rfl (by assumption) rfl
  | with_reducible apply e_call | with_reducible apply e_intc | with_reducible apply e_abs
  | with_reducible apply e_intop | with_reducible apply e_cmp | with_reducible apply e_intopC
  | with_reducible apply e_len | with_reducible apply e_pow | with_reducible apply e_min2 | with_reducible apply e_max2
  | with_reducible exact a_nil | with_reducible apply a_cons
  | with_reducible apply t_ofB | with_reducible apply t_of
  | (with_reducible apply mulR; omega) | (with_reducible apply mulL; omega) | (with_reducible show (_ < _); omega)))
section
variable {P : Program} {w : World} {K : PySem.W.Frag} {mg : Str → Option Value} {base : Heap} {CF : Addr}
theorem sc_law_price : FnScope ["store", "low", "high", "choice"] ["store", "low", "high"] (defScope (top 65)) := ⟨rfl, rfl, rfl, by decide +kernel, rfl, by decide +kernel, by decide +kernel⟩
theorem ok_law_price {f : Addr} {fd : FuncData} (F : FunD K "_law_price" "_law_price" (defArgs (top 65)) (defBody (top 65)) (defScope (top 65)) [] [] f fd) (tx : Tx w K mg CF) (G_law_span : Gf P w K mg base "_law_span" 4 (sp_law_span K mg CF)) (G_law_take : Gf P w K mg base "_law_take" 3 (sp_law_take K mg CF)) : FnOk P w K mg base (L2.CX P w) 5 f fd ["store", "low", "high"] (sp_law_price K mg CF) := by
  refine F.ok sc_law_price (fun vs H Q E h => ?_) (fun cdv A outer s H vs Q E hr h => ?_)
  · first | (obtain ⟨_, rfl, _⟩ := h; rfl) | (obtain ⟨_, _, rfl, _⟩ := h; rfl) | (obtain ⟨_, _, _, rfl, _⟩ := h; rfl) | (obtain ⟨_, _, _, _, rfl, _⟩ := h; rfl) | (obtain ⟨_, _, _, _, _, rfl, _⟩ := h; rfl) | (obtain ⟨_, _, _, _, _, _, rfl, _⟩ := h; rfl) | (obtain ⟨_, _, _, _, _, _, _, rfl, _⟩ := h; rfl) | (obtain ⟨_, _, _, _, _, _, _, _, rfl, _⟩ := h; rfl) | exact spInit_len h rfl | exact spN_len h (by intro ds o hh; first | (obtain ⟨rfl, _⟩ := hh; rfl) | (obtain ⟨_, rfl, _⟩ := hh; rfl) | (obtain ⟨_, _, rfl, _⟩ := hh; rfl) | (obtain ⟨_, _, _, rfl, _⟩ := hh; rfl)) | exact spO_len h (by intro ds o hh; first | (obtain ⟨rfl, _⟩ := hh; rfl) | (obtain ⟨_, rfl, _⟩ := hh; rfl) | (obtain ⟨_, _, rfl, _⟩ := hh; rfl) | (obtain ⟨_, _, _, rfl, _⟩ := hh; rfl) | (obtain ⟨_, _, _, _, rfl, _⟩ := hh; rfl) | (obtain ⟨_, _, _, _, _, rfl, _⟩ := hh; rfl) | (obtain ⟨_, _, _, _, _, _, rfl, _⟩ := hh; rfl))
  refine ⟨_, (pss_cons (ps_asg (pe_g G_law_take (hr.mono (by decide)) (takes_of rfl rfl rfl rfl) (pa_cons (pv 0) (pa_cons pe_int pa_nil))) (pg_name (i := 3) sc_law_price.nd rfl (by first | exact Or.inl rfl | exact Or.inr rfl)))
    (pss_cons (ps_if (pt_cmpR (op_eqD hr.units) (pv 3) pe_int (nomark _))
    (pss_one (ps_ret (pv 1)))
    pss_nil)
    (pss_cons (ps_if (pt_cmpR (op_eqD hr.units) (pv 3) pe_int (nomark _))
    (pss_one (ps_ret (pv 2)))
    pss_nil)
    (pss_cons (ps_if (pt_cmpR op_lt (pv 3) pe_int (nomark _))
    (pss_one (ps_ret (pe_g G_law_span (hr.mono (by decide)) (takes_of rfl rfl rfl rfl) (pa_cons (pv 0) (pa_cons (pv 1) (pa_cons (pe_min2 tx.bt rfl (pv 2) (pe_op op_add (pv 1) pe_int)) pa_nil))))))
    pss_nil)
    (pss_one (ps_ret (pe_g G_law_span (hr.mono (by decide)) (takes_of rfl rfl rfl rfl) (pa_cons (pv 0) (pa_cons (pv 1) (pa_cons (pv 2) pa_nil)))))))))), ?_⟩
  try dsimp only [cxOf]
  obtain ⟨a, b, lo, hi, rfl, hok, h1, h2, h3, q⟩ := h
  with_reducible apply s_seq
  refine ⟨_, rfl, a, b, _, rfl, hok, small_lit (by decide) (by decide), fun r H1 m1 ok1 _ _ => ?_⟩
  show tSeq _ _ _ _ _
  with_reducible apply s_seq
  refine s_if K (t_of (e_eq (e_vint rfl) e_int rfl rfl)) (fun _ H2 s2 => s_ret K (e_vint rfl) fun v H3 s3 hv => ?_) (fun _ H2 s2 => ?_)
  · rw [hv.iv]
    exact q _ _ (m1.trans (s2.trans s3).sm) (ok1.same (s2.trans s3)) (Int.le_refl _) h2
  with_reducible apply s_next
  with_reducible apply s_seq
  refine s_if K (t_of (e_eq (e_vint rfl) e_int rfl rfl)) (fun _ H3 s3 => s_ret K (e_vint rfl) fun v H4 s4 hv => ?_) (fun _ H3 s3 => ?_)
  · rw [hv.iv]
    exact q _ _ (m1.trans (s2.trans (s3.trans s4)).sm) (ok1.same (s2.trans (s3.trans s4))) h2 (Int.le_refl _)
  with_reducible apply s_next
  with_reducible apply s_seq
  refine s_if K (t_of (e_cmp (f := fun i j => decide (i < j)) (e_vint rfl) e_int)) (fun _ H4 s4 => ?_) (fun _ H4 s4 => ?_)
  · refine ⟨_, rfl, _, rfl, e_min2 (K := K) (i := hi) (j := lo + 6) (e_vint rfl) (e_intop (e_vint rfl) e_int) H4 (Same.refl _) _ fun v H5 s5 hv => ?_⟩
    rw [hv.iv]
    have sx := s2.trans (s3.trans (s4.trans s5))
    have hm : (if lo + 6 < hi then lo + 6 else hi) ≤ hi ∧ lo ≤ (if lo + 6 < hi then lo + 6 else hi) := by split <;> omega
    exact ⟨a, b, lo, _, rfl, ok1.same sx, small_lit (by omega) (by omega), fun r H6 m6 ok6 r1 r2 => q _ _ ((m1.trans sx.sm).trans m6) ok6 r1 (Int.le_trans (r2 hm.2) hm.1)⟩
  · with_reducible apply s_next
    refine ⟨_, rfl, _, rfl, _, rfl, a, b, lo, hi, rfl, ok1.same (s2.trans (s3.trans s4)), small_lit (by omega) (by omega), fun r H5 m5 ok5 r1 r2 => ?_⟩
    exact q _ _ ((m1.trans (s2.trans (s3.trans s4)).sm).trans m5) ok5 r1 (r2 h2)
theorem sc_law_order : FnScope ["store"] ["store"] (defScope (top 67)) := ⟨rfl, rfl, rfl, by decide +kernel, rfl, by decide +kernel, by decide +kernel⟩
theorem ok_law_order {f : Addr} {fd : FuncData} (F : FunD K "_law_order" "_law_order" (defArgs (top 67)) (defBody (top 67)) (defScope (top 67)) [] [] f fd) (tx : Tx w K mg CF) (G_law_pick : Gf P w K mg base "_law_pick" 4 (sp_law_pick K mg CF)) (G_law_orders : Gf P w K mg base "_law_orders" 1 (sp_law_orders K mg CF)) : FnOk P w K mg base (L2.CX P w) 5 f fd ["store"] (sp_law_order K mg CF) := by
  refine F.ok sc_law_order (fun vs H Q E h => ?_) (fun cdv A outer s H vs Q E hr h => ?_)
  · first | (obtain ⟨_, rfl, _⟩ := h; rfl) | (obtain ⟨_, _, rfl, _⟩ := h; rfl) | (obtain ⟨_, _, _, rfl, _⟩ := h; rfl) | (obtain ⟨_, _, _, _, rfl, _⟩ := h; rfl) | (obtain ⟨_, _, _, _, _, rfl, _⟩ := h; rfl) | (obtain ⟨_, _, _, _, _, _, rfl, _⟩ := h; rfl) | (obtain ⟨_, _, _, _, _, _, _, rfl, _⟩ := h; rfl) | (obtain ⟨_, _, _, _, _, _, _, _, rfl, _⟩ := h; rfl) | exact spInit_len h rfl | exact spN_len h (by intro ds o hh; first | (obtain ⟨rfl, _⟩ := hh; rfl) | (obtain ⟨_, rfl, _⟩ := hh; rfl) | (obtain ⟨_, _, rfl, _⟩ := hh; rfl) | (obtain ⟨_, _, _, rfl, _⟩ := hh; rfl)) | exact spO_len h (by intro ds o hh; first | (obtain ⟨rfl, _⟩ := hh; rfl) | (obtain ⟨_, rfl, _⟩ := hh; rfl) | (obtain ⟨_, _, rfl, _⟩ := hh; rfl) | (obtain ⟨_, _, _, rfl, _⟩ := hh; rfl) | (obtain ⟨_, _, _, _, rfl, _⟩ := hh; rfl) | (obtain ⟨_, _, _, _, _, rfl, _⟩ := hh; rfl) | (obtain ⟨_, _, _, _, _, _, rfl, _⟩ := hh; rfl))
  refine ⟨_, (pss_one (ps_ret (pe_g G_law_pick (hr.mono (by decide)) (takes_of rfl rfl rfl rfl) (pa_cons (pv 0) (pa_cons (pe_g0 G_law_orders (hr.mono (by decide)) passL) pa_nil))))), ?_⟩
  try dsimp only [cxOf]
  obtain ⟨a, b, rfl, hok, q⟩ := h
  refine ⟨_, rfl, ?_⟩
  refine ⟨[], _, .nil, ⟨rfl, rfl⟩, fun v H1 s1 hv => ?_⟩
  obtain ⟨p, vs, rfl, sq, im⟩ := Im.tup_inv (show Im K H1 v (.tup (orderStrs.map T.str)) from hv)
  have e := ims_strs im
  subst e
  refine ⟨a, b, p, _, rfl, hok.same s1, .inr sq, by decide, by decide, fun v H2 hv m2 ok2 => ?_⟩
  obtain ⟨x, hx, rfl⟩ := List.mem_map.mp hv
  obtain ⟨o, _, rfl⟩ := List.mem_map.mp hx
  exact q o H2 (s1.sm.trans m2) ok2
theorem sc_law_bad_order : FnScope ["store"] ["store"] (defScope (top 68)) := ⟨rfl, rfl, rfl, by decide +kernel, rfl, by decide +kernel, by decide +kernel⟩
theorem ok_law_bad_order {f : Addr} {fd : FuncData} (F : FunD K "_law_bad_order" "_law_bad_order" (defArgs (top 68)) (defBody (top 68)) (defScope (top 68)) [] [] f fd) (tx : Tx w K mg CF) (G_law_pick : Gf P w K mg base "_law_pick" 4 (sp_law_pick K mg CF)) : FnOk P w K mg base (L2.CX P w) 5 f fd ["store"] (sp_law_bad_order K mg CF) := by
  refine F.ok sc_law_bad_order (fun vs H Q E h => ?_) (fun cdv A outer s H vs Q E hr h => ?_)
  · first | (obtain ⟨_, rfl, _⟩ := h; rfl) | (obtain ⟨_, _, rfl, _⟩ := h; rfl) | (obtain ⟨_, _, _, rfl, _⟩ := h; rfl) | (obtain ⟨_, _, _, _, rfl, _⟩ := h; rfl) | (obtain ⟨_, _, _, _, _, rfl, _⟩ := h; rfl) | (obtain ⟨_, _, _, _, _, _, rfl, _⟩ := h; rfl) | (obtain ⟨_, _, _, _, _, _, _, rfl, _⟩ := h; rfl) | (obtain ⟨_, _, _, _, _, _, _, _, rfl, _⟩ := h; rfl) | exact spInit_len h rfl | exact spN_len h (by intro ds o hh; first | (obtain ⟨rfl, _⟩ := hh; rfl) | (obtain ⟨_, rfl, _⟩ := hh; rfl) | (obtain ⟨_, _, rfl, _⟩ := hh; rfl) | (obtain ⟨_, _, _, rfl, _⟩ := hh; rfl)) | exact spO_len h (by intro ds o hh; first | (obtain ⟨rfl, _⟩ := hh; rfl) | (obtain ⟨_, rfl, _⟩ := hh; rfl) | (obtain ⟨_, _, rfl, _⟩ := hh; rfl) | (obtain ⟨_, _, _, rfl, _⟩ := hh; rfl) | (obtain ⟨_, _, _, _, rfl, _⟩ := hh; rfl) | (obtain ⟨_, _, _, _, _, rfl, _⟩ := hh; rfl) | (obtain ⟨_, _, _, _, _, _, rfl, _⟩ := hh; rfl))
  refine ⟨_, (pss_one (ps_ret (pe_g G_law_pick (hr.mono (by decide)) (takes_of rfl rfl rfl rfl) (pa_cons (pv 0) (pa_cons (pe_lst (pa_cons pe_str (pa_cons pe_str (pa_cons pe_str (pa_cons pe_str (pa_cons pe_str (pa_cons pe_str (pa_cons pe_str (pa_cons pe_str (pa_cons pe_str (pa_cons pe_str (pa_cons pe_str (pa_cons pe_str (pa_cons pe_str pa_nil)))))))))))))) pa_nil))))), ?_⟩
  try dsimp only [cxOf]
  obtain ⟨a, b, rfl, hok, q⟩ := h
  refine ⟨_, rfl, Nat.le_of_ble_eq_true rfl, fun p hp => ?_⟩
  have s1 : Same H (upd H p (.lst (badStrs.map V.str))) := same_new hp
  refine ⟨a, b, p, badStrs.map V.str, rfl, hok.same s1, .inl (.inl (.inl upd_same)), by decide, by decide, fun v H2 hv m2 ok2 => ?_⟩
  obtain ⟨x, hx, rfl⟩ := List.mem_map.mp hv
  exact q x H2 hx (s1.sm.trans m2) ok2
theorem sc_law_moves : FnScope ["reach", "moves", "y", "x"] ["reach"] (defScope (top 73)) := ⟨rfl, rfl, rfl, by decide +kernel, rfl, by decide +kernel, by decide +kernel⟩
theorem ok_law_moves {f : Addr} {fd : FuncData} (F : FunD K "_law_moves" "_law_moves" (defArgs (top 73)) (defBody (top 73)) (defScope (top 73)) [] [] f fd) (tx : Tx w K mg CF) : FnOk P w K mg base (L2.CX P w) 1 f fd ["reach"] (sp_law_moves K mg CF) := by
  refine F.ok sc_law_moves (fun vs H Q E h => ?_) (fun cdv A outer s H vs Q E hr h => ?_)
  · first | (obtain ⟨_, rfl, _⟩ := h; rfl) | (obtain ⟨_, _, rfl, _⟩ := h; rfl) | (obtain ⟨_, _, _, rfl, _⟩ := h; rfl) | (obtain ⟨_, _, _, _, rfl, _⟩ := h; rfl) | (obtain ⟨_, _, _, _, _, rfl, _⟩ := h; rfl) | (obtain ⟨_, _, _, _, _, _, rfl, _⟩ := h; rfl) | (obtain ⟨_, _, _, _, _, _, _, rfl, _⟩ := h; rfl) | (obtain ⟨_, _, _, _, _, _, _, _, rfl, _⟩ := h; rfl) | exact spInit_len h rfl | exact spN_len h (by intro ds o hh; first | (obtain ⟨rfl, _⟩ := hh; rfl) | (obtain ⟨_, rfl, _⟩ := hh; rfl) | (obtain ⟨_, _, rfl, _⟩ := hh; rfl) | (obtain ⟨_, _, _, rfl, _⟩ := hh; rfl)) | exact spO_len h (by intro ds o hh; first | (obtain ⟨rfl, _⟩ := hh; rfl) | (obtain ⟨_, rfl, _⟩ := hh; rfl) | (obtain ⟨_, _, rfl, _⟩ := hh; rfl) | (obtain ⟨_, _, _, rfl, _⟩ := hh; rfl) | (obtain ⟨_, _, _, _, rfl, _⟩ := hh; rfl) | (obtain ⟨_, _, _, _, _, rfl, _⟩ := hh; rfl) | (obtain ⟨_, _, _, _, _, _, rfl, _⟩ := hh; rfl))
  refine ⟨_, (pss_cons (ps_asg (pe_lst pa_nil) (pg_name (i := 1) sc_law_moves.nd rfl (by first | exact Or.inl rfl | exact Or.inr rfl)))
    (pss_cons (ps_for (passes_of rfl) rfl (pi_range2 rfl tx.bt.range (pa_cons (pe_op op_sub pe_int (pv 0)) (pa_cons (pe_op op_add (pv 0) pe_int) pa_nil))) (pg_name (i := 2) sc_law_moves.nd rfl (by first | exact Or.inl rfl | exact Or.inr rfl))
    (pss_one (ps_for (passes_of rfl) rfl (pi_range2 rfl tx.bt.range (pa_cons (pe_op op_sub pe_int (pv 0)) (pa_cons (pe_op op_add (pv 0) pe_int) pa_nil))) (pg_name (i := 3) sc_law_moves.nd rfl (by first | exact Or.inl rfl | exact Or.inr rfl))
    (pss_one (ps_if (PW.pt (pw_or (pt_cmpR (op_neD hr.units) (pv 2) pe_int (nomark _)) (pw_or1 (pt_cmpR (op_neD hr.units) (pv 3) pe_int (nomark _)))))
    (pss_one (ps_expr (pe_bm PySem.F.plainAttrs_list PySem.F.slot_list_append PySem.F.type_list_append mt_append (pv 1) (pa_cons (pe_tup (pa_cons (pv 2) (pa_cons (pv 3) pa_nil))) pa_nil))))
    pss_nil)))))
    (pss_one (ps_ret (pv 1))))), ?_⟩
  try dsimp only [cxOf]
  obtain ⟨r, rfl, r1, r3, q⟩ := h
  with_reducible apply s_seq
  refine s_nil fun p H1 hp s1 e1 => ?_
  with_reducible apply s_seq
  have bd : -(2 ^ 62) ≤ (0 - r : Int) ∧ (0 - r : Int) < 2 ^ 62 ∧ -(2 ^ 62) ≤ (r + 1 : Int) ∧ (r + 1 : Int) < 2 ^ 62 := by omega
  refine for_rng2 K (lo := 0 - r) (hi := r + 1) (a_cons (e_intop e_int (e_vint rfl)) (a_cons (e_intop (e_vint rfl) e_int) a_nil)) bd (fun i σ' H' => ∃ a2 a3, σ' = [some (.int r), some (.ref p), a2, a3] ∧ Same H H' ∧ ∃ (ws : List V) (ms : List Cell), H' p = some (.lst ws) ∧ Ims K H' ws (ms.map cellT) ∧ (∀ c ∈ ms, c ≠ (0, 0)) ∧ ms.length ≤ 10 * i) ?_ ?_ ?_
  · exact fun H2 s2 => ⟨none, none, rfl, s1.trans s2, [], [], s2 _ _ e1, .nil, (fun c hc => absurd hc (List.not_mem_nil)), Nat.le_refl _⟩
  · rintro i σ' H2 hi ⟨a2, a3, rfl, s2, ws, ms, e2, im2, nz2, l2⟩
    refine for_rng2 K (lo := 0 - r) (hi := r + 1) (a_cons (e_intop e_int (e_vint rfl)) (a_cons (e_intop (e_vint rfl) e_int) a_nil)) bd (fun j σ' H' => ∃ a3, σ' = [some (.int r), some (.ref p), some (.int (0 - r + (i : Int))), a3] ∧ Same H H' ∧ ∃ (ws : List V) (ms : List Cell), H' p = some (.lst ws) ∧ Ims K H' ws (ms.map cellT) ∧ (∀ c ∈ ms, c ≠ (0, 0)) ∧ ms.length ≤ 10 * i + j) ?_ ?_ ?_
    · exact fun H3 s3 => ⟨_, rfl, s2.trans s3, ws, ms, s3 _ _ e2, L2.Same.ims s3 im2, nz2, l2⟩
    · rintro j σ' H3 hj ⟨b3, rfl, s3, ws3, ms3, e3, im3, nz3, l3⟩
      refine s_if K (t_or (t_of (e_ne (e_vint rfl) e_int rfl rfl)) fun _ => t_of (e_ne (e_vint rfl) e_int rfl rfl)) (fun hb H4 s4 => ?_) (fun hb H4 s4 => ?_)
      · have lw : ws3.length = ms3.length := by rw [im3.length, List.length_map]
        refine s_app K (d := .im (cellT (0 - r + (i : Int), 0 - r + (j : Int)))) rfl (s4 _ _ e3) (by omega) (e_tup (ts := [.int (0 - r + (i : Int)), .int (0 - r + (j : Int))]) (a_cons (e_vint rfl) (a_cons (e_vint rfl) a_nil)) (by rfl) (Nat.le_of_ble_eq_true rfl)) fun w H5 s5 hw => ?_
        have k1 : Keep H5 (upd H5 p (.lst (ws3 ++ [w]))) := keep_lst (s5 _ _ (s4 _ _ e3))
        refine ⟨_, rfl, same_mut (s3.trans (s4.trans s5)) hp, ws3 ++ [w], ms3 ++ [(0 - r + (i : Int), 0 - r + (j : Int))], upd_same, ?_, ?_, by simp; omega⟩
        · rw [List.map_append]
          exact ((L2.Same.ims (s4.trans s5) im3).mono k1).snoc (Im.mono k1 hw)
        · intro c hc
          rcases List.mem_append.mp hc with z | z
          · exact nz3 c z
          · rw [List.mem_singleton.mp z]
            intro e
            injection e with e1 e2
            have hb : (!((0 - r + (i : Int)) == 0) || !((0 - r + (j : Int)) == 0)) = true := hb
            rw [e1, e2] at hb
            cases hb
      · exact s_next ⟨_, rfl, s3.trans s4, ws3, ms3, s4 _ _ e3, L2.Same.ims s4 im3, nz3, by omega⟩
    · rintro σ' H3 ⟨b3, rfl, s3, ws3, ms3, e3, im3, nz3, l3⟩
      exact ⟨_, _, rfl, s3, ws3, ms3, e3, im3, nz3, by omega⟩
  · rintro σ' H2 ⟨a2, a3, rfl, s2, ws, ms, e2, im2, nz2, l2⟩
    exact ⟨_, rfl, q p ws ms H2 hp s2 e2 im2 nz2 (by omega)⟩
theorem sc_law_word : FnScope ["store", "most", "choice", "count", "one", "word", "k"] ["store", "most"] (defScope (top 72)) := ⟨rfl, rfl, rfl, by decide +kernel, rfl, by decide +kernel, by decide +kernel⟩
theorem ok_law_word {f : Addr} {fd : FuncData} (F : FunD K "_law_word" "_law_word" (defArgs (top 72)) (defBody (top 72)) (defScope (top 72)) [] [] f fd) (tx : Tx w K mg CF) (G_law_hit : Gf P w K mg base "_law_hit" 4 (sp_law_hit K mg CF)) (G_law_counter : Gf P w K mg base "_law_counter" 1 (sp_law_counter K mg CF)) (G_law_order : Gf P w K mg base "_law_order" 5 (sp_law_order K mg CF)) (G_law_take : Gf P w K mg base "_law_take" 3 (sp_law_take K mg CF)) : FnOk P w K mg base (L2.CX P w) 6 f fd ["store", "most"] (sp_law_word K mg CF) := by
  refine F.ok sc_law_word (fun vs H Q E h => ?_) (fun cdv A outer s H vs Q E hr h => ?_)
  · first | (obtain ⟨_, rfl, _⟩ := h; rfl) | (obtain ⟨_, _, rfl, _⟩ := h; rfl) | (obtain ⟨_, _, _, rfl, _⟩ := h; rfl) | (obtain ⟨_, _, _, _, rfl, _⟩ := h; rfl) | (obtain ⟨_, _, _, _, _, rfl, _⟩ := h; rfl) | (obtain ⟨_, _, _, _, _, _, rfl, _⟩ := h; rfl) | (obtain ⟨_, _, _, _, _, _, _, rfl, _⟩ := h; rfl) | (obtain ⟨_, _, _, _, _, _, _, _, rfl, _⟩ := h; rfl) | exact spInit_len h rfl | exact spN_len h (by intro ds o hh; first | (obtain ⟨rfl, _⟩ := hh; rfl) | (obtain ⟨_, rfl, _⟩ := hh; rfl) | (obtain ⟨_, _, rfl, _⟩ := hh; rfl) | (obtain ⟨_, _, _, rfl, _⟩ := hh; rfl)) | exact spO_len h (by intro ds o hh; first | (obtain ⟨rfl, _⟩ := hh; rfl) | (obtain ⟨_, rfl, _⟩ := hh; rfl) | (obtain ⟨_, _, rfl, _⟩ := hh; rfl) | (obtain ⟨_, _, _, rfl, _⟩ := hh; rfl) | (obtain ⟨_, _, _, _, rfl, _⟩ := hh; rfl) | (obtain ⟨_, _, _, _, _, rfl, _⟩ := hh; rfl) | (obtain ⟨_, _, _, _, _, _, rfl, _⟩ := hh; rfl))
  refine ⟨_, (pss_cons (ps_asg (pe_g G_law_take (hr.mono (by decide)) (takes_of rfl rfl rfl rfl) (pa_cons (pv 0) (pa_cons pe_int pa_nil))) (pg_name (i := 2) sc_law_word.nd rfl (by first | exact Or.inl rfl | exact Or.inr rfl)))
    (pss_cons (ps_asg (pe_g G_law_take (hr.mono (by decide)) (takes_of rfl rfl rfl rfl) (pa_cons (pv 0) (pa_cons (pe_op op_add (pv 1) pe_int) pa_nil))) (pg_name (i := 3) sc_law_word.nd rfl (by first | exact Or.inl rfl | exact Or.inr rfl)))
    (pss_cons (ps_asg (pe_g G_law_order (hr.mono (by decide)) (takes_of rfl rfl rfl rfl) (pa_cons (pv 0) pa_nil)) (pg_name (i := 4) sc_law_word.nd rfl (by first | exact Or.inl rfl | exact Or.inr rfl)))
    (pss_cons (ps_asg (pe_lst pa_nil) (pg_name (i := 5) sc_law_word.nd rfl (by first | exact Or.inl rfl | exact Or.inr rfl)))
    (pss_cons (ps_for (passes_of rfl) rfl (pi_range1 rfl tx.bt.range (pa_cons (pv 3) pa_nil)) (pg_name (i := 6) sc_law_word.nd rfl (by first | exact Or.inl rfl | exact Or.inr rfl))
    (pss_one (ps_if (PW.pt (pw_or (PW.pt (pw_and (pt_cmpR (op_eqD hr.units) (pv 2) pe_int (nomark _)) (pw_and1 (pt_cmpR (op_eqD hr.units) (pe_op op_mod (pe_intc tx.bt (pv 6)) pe_int) pe_int (nomark _))))) (pw_or1 (PW.pt (pw_and (pt_cmpR (op_eqD hr.units) (pv 2) pe_int (nomark _)) (pw_and1 (pt_val (pe_g G_law_hit (hr.mono (by decide)) (takes_of rfl rfl rfl rfl) (pa_cons (pv 0) (pa_cons pe_int pa_nil))))))))))
    (pss_one (ps_expr (pe_bm PySem.F.plainAttrs_list PySem.F.slot_list_append PySem.F.type_list_append mt_append (pv 5) (pa_cons (pv 4) pa_nil))))
    (pss_one (ps_if (pt_cmpR (op_eqD hr.units) (pv 2) pe_int (nomark _))
    (pss_one (ps_expr (pe_bm PySem.F.plainAttrs_list PySem.F.slot_list_append PySem.F.type_list_append mt_append (pv 5) (pa_cons (pe_g G_law_counter (hr.mono (by decide)) (takes_of rfl rfl rfl rfl) (pa_cons (pv 4) pa_nil)) pa_nil))))
    (pss_cons (ps_asg (pe_g G_law_order (hr.mono (by decide)) (takes_of rfl rfl rfl rfl) (pa_cons (pv 0) pa_nil)) (pg_name (i := 4) sc_law_word.nd rfl (by first | exact Or.inl rfl | exact Or.inr rfl)))
    (pss_one (ps_expr (pe_bm PySem.F.plainAttrs_list PySem.F.slot_list_append PySem.F.type_list_append mt_append (pv 5) (pa_cons (pv 4) pa_nil))))))))))
    (pss_one (ps_ret (pv 5)))))))), ?_⟩
  try dsimp only [cxOf]
  obtain ⟨a, b, most, rfl, hok, h0, h1, q⟩ := h
  with_reducible apply s_seq
  refine ⟨_, rfl, a, b, _, rfl, hok, small_lit (by decide) (by decide), fun ch H1 m1 ok1 _ _ => ?_⟩
  show tSeq _ _ _ _ _
  with_reducible apply s_seq
  refine ⟨_, rfl, _, rfl, _, _, rfl, rfl, a, b, _, rfl, ok1, small_lit (by omega) (by omega), fun ct H2 m2 ok2 c0 c1 => ?_⟩
  have hct : 0 ≤ ct ∧ ct ≤ most := by
    by_cases z : most + 1 < 2
    · have := c0 z
      omega
    · have := c1 (by omega)
      omega
  show tSeq _ _ _ _ _
  with_reducible apply s_seq
  refine ⟨_, rfl, a, b, rfl, ok2, fun one H3 m3 ok3 => ?_⟩
  show tSeq _ _ _ _ _
  with_reducible apply s_seq
  refine s_nil fun p H4 hp s4 e4 => ?_
  have m03 := m1.trans (m2.trans m3)
  have ok4 := ok3.same s4
  obtain ⟨npa, npb⟩ := ok3.apart hp
  have hp0 : H p = none := m03.free npa hp
  with_reducible apply s_seq
  refine for_rng K (j := ct) (a_cons (e_vint rfl) a_nil) (by omega) (fun i σ' H' => ∃ (o : Ord) (os : List Ord) (a6 : Option V), σ' = [some (.ref a), some (.int most), some (.int ch), some (.int ct), some (.str o.str), some (.ref p), a6] ∧ Sm a H H' ∧ StoreOk H' a b ∧ H' p = some (.lst (os.map fun o => V.str o.str)) ∧ os.length ≤ i) ?_ ?_ ?_
  · exact fun H5 s5 => ⟨one, [], none, rfl, m03.trans (s4.trans s5).sm, ok4.same s5, s5 _ _ e4, Nat.le_refl _⟩
  · rintro i σ' H5 hi ⟨o, os, a6, rfl, m5, ok5, e5, l5⟩
    -- the order is appended
    have app : ∀ {H6 : Hp} (o' : Ord) {te : TE} {o'' : Ord}, Sm a H H6 → StoreOk H6 a b → H6 p = some (.lst (os.map fun o => V.str o.str)) → Ev K te [some (.ref a), some (.int most), some (.int ch), some (.int ct), some (.str o''.str), some (.ref p), some (.int (i : Int))] H6 (.im (.str o'.str)) →
        ∀ {bk ct' : L2.St → Hp → Prop} {rt : VK}, tDrop (tBM K "list" rAppend (tVar 5) (tCons te tNil)) ⟨fun σ' H' => ∃ (o : Ord) (os : List Ord) (a6 : Option V), σ' = [some (.ref a), some (.int most), some (.int ch), some (.int ct), some (.str o.str), some (.ref p), a6] ∧ Sm a H H' ∧ StoreOk H' a b ∧ H' p = some (.lst (os.map fun o => V.str o.str)) ∧ os.length ≤ i + 1, rt, bk, ct'⟩ [some (.ref a), some (.int most), some (.int ch), some (.int ct), some (.str o''.str), some (.ref p), some (.int (i : Int))] H6 := by
      intro H6 o' te o'' m6 ok6 e6 hte bk ct' rt
      refine s_app K rfl e6 (by rw [List.length_map]; omega) hte fun v H7 s7 hv => ?_
      rw [hv.sv]
      refine ⟨o'', os ++ [o'], _, rfl, ?_, (ok6.same s7).upd npa npb, by rw [upd_same, List.map_append]; rfl, by simp; omega⟩
      intro b' u nb hb
      rw [upd_ne (ne_of_none hb hp0)]
      exact s7 _ _ (m6 b' u nb hb)
    have hB : ∀ {H6 : Hp}, Sm a H H6 → StoreOk H6 a b → H6 p = some (.lst (os.map fun o => V.str o.str)) → ∀ {bk ct' : L2.St → Hp → Prop} {rt : VK},
        (tIfS (tTest (tOp (rEqD K) (tVar 2) (tC (V.int 0)))) (tDrop (tBM K "list" rAppend (tVar 5) (tCons (tCallS (sp_law_counter K mg CF) (WE fun cls d x H => E cls d H) (tCons (tVar 4) tNil)) tNil)))
          (tSeq (tAsg (tCallS (sp_law_order K mg CF) (WE fun cls d x H => E cls d H) (tCons (tVar 0) tNil)) (gName 4)) (tDrop (tBM K "list" rAppend (tVar 5) (tCons (tVar 4) tNil)))))
          ⟨fun σ' H' => ∃ (o : Ord) (os : List Ord) (a6 : Option V), σ' = [some (.ref a), some (.int most), some (.int ch), some (.int ct), some (.str o.str), some (.ref p), a6] ∧ Sm a H H' ∧ StoreOk H' a b ∧ H' p = some (.lst (os.map fun o => V.str o.str)) ∧ os.length ≤ i + 1, rt, bk, ct'⟩ [some (.ref a), some (.int most), some (.int ch), some (.int ct), some (.str o.str), some (.ref p), some (.int (i : Int))] H6 := by
      intro H6 m6 ok6 e6 bk ct' rt
      refine s_if K (t_of (e_eq (e_vint rfl) e_int rfl rfl)) (fun _ H7 s7 => ?_) (fun _ H7 s7 => ?_)
      · exact app o.opp (m6.trans s7.sm) (ok6.same s7) (s7 _ _ e6) (e_call (a_cons (e_vstr rfl) a_nil) ⟨o, rfl, rfl⟩)
      · with_reducible apply s_seq
        refine ⟨_, rfl, a, b, rfl, ok6.same s7, fun o' H8 m8 ok8 => ?_⟩
        exact app o' (te := tVar 4) (o'' := o') ((m6.trans s7.sm).trans m8) ok8 (m8 p _ npa (s7 _ _ e6)) (e_vstr rfl)
    refine t_and (K := K) (t_of (e_eq (e_vint rfl) e_int rfl rfl)) (fun _ => t_of (e_eq (e_intopC (e_intc (e_vint rfl)) e_int (by decide)) e_int rfl rfl)) H5 (Same.refl _) _ fun H6 s6 => ?_
    have m6 := m5.trans s6.sm
    have ok6 := ok5.same s6
    have e6 := s6 _ _ e5
    by_cases hc : (T.beq (.int ch) (.int 0) && T.beq (.int ((i : Int) % 2)) (.int 0)) = true
    · rw [if_pos hc]
      exact iteT (app o (te := tVar 4) (o'' := o) m6 ok6 e6 (e_vstr rfl))
    · rw [if_neg hc]
      refine t_of (K := K) (e_eq (t := .int ch) (u := .int 1) (e_vint rfl) e_int rfl rfl) H6 (Same.refl _) _ fun H7 s7 => ?_
      have m7 := m6.trans s7.sm
      have ok7 := ok6.same s7
      have e7 := s7 _ _ e6
      by_cases hd : T.beq (.int ch) (.int 1) = true
      · rw [if_pos hd]
        refine ⟨_, rfl, a, b, _, rfl, ok7, small_lit (by decide) (by decide), fun c H8 m8 ok8 => ⟨c, rfl, ?_⟩⟩
        have m08 := m7.trans m8
        have e8 := m8 p _ npa e7
        cases c with
        | true => exact iteT (app o (te := tVar 4) (o'' := o) m08 ok8 e8 (e_vstr rfl))
        | false => exact iteF (hB m08 ok8 e8)
      · rw [if_neg hd]
        exact iteF (hB m7 ok7 e7)
  · rintro σ' H5 ⟨o, os, a6, rfl, m5, ok5, e5, l5⟩
    exact ⟨_, rfl, q p os H5 hp0 m5 ok5 e5 (by omega)⟩
end
end TW

set_option Elab.async false
set_option linter.all false
set_option maxRecDepth 100000
set_option maxHeartbeats 4000000
namespace TW
open PySem PySem.Spec PyProof.Rows L2
local macro_rules | `(tactic| walk_at "ev") => `(tactic| repeat' (first
  | with_reducible exact e_int | with_reducible exact e_str | with_reducible exact e_bl | with_reducible exact e_non
  | exact e_vint rfl | exact e_vstr rfl | exact e_vbl rfl | exact e_vnon rfl | exact e_var rfl (by assumption)
  | exact e_sqv rfl (by assumption) | exact e_dkI rfl (by assumption) rfl
  | with_reducible apply e_call | with_reducible apply e_intc | with_reducible apply e_abs
  | with_reducible apply e_intop | with_reducible apply e_cmp | with_reducible apply e_intopC
  | with_reducible apply e_len | with_reducible apply e_pow | with_reducible apply e_min2 | with_reducible apply e_max2
  | with_reducible exact a_nil | with_reducible apply a_cons
  | with_reducible apply t_ofB | with_reducible apply t_of
  | (with_reducible apply mulR; omega) | (with_reducible apply mulL; omega) | (with_reducible show (_ < _); omega)))
section
variable {P : Program} {w : World} {K : PySem.W.Frag} {mg : Str → Option Value} {base : Heap} {CF : Addr}
theorem sc_law_free_mask : FnScope ["store", "reach", "most", "low", "high", "rows", "move"] ["store", "reach", "most", "low", "high"] (defScope (top 74)) := ⟨rfl, rfl, rfl, by decide +kernel, rfl, by decide +kernel, by decide +kernel⟩
theorem ok_law_free_mask {f : Addr} {fd : FuncData} (F : FunD K "_law_free_mask" "_law_free_mask" (defArgs (top 74)) (defBody (top 74)) (defScope (top 74)) [] [] f fd) (tx : Tx w K mg CF) (G_law_some : Gf P w K mg base "_law_some" 4 (sp_law_some K mg CF)) (G_law_take : Gf P w K mg base "_law_take" 3 (sp_law_take K mg CF)) (G_law_moves : Gf P w K mg base "_law_moves" 1 (sp_law_moves K mg CF)) (G_law_price : Gf P w K mg base "_law_price" 5 (sp_law_price K mg CF)) : FnOk P w K mg base (L2.CX P w) 6 f fd ["store", "reach", "most", "low", "high"] (sp_law_free_mask K mg CF) := by
  refine F.ok sc_law_free_mask (fun vs H Q E h => ?_) (fun cdv A outer s H vs Q E hr h => ?_)
  · first | (obtain ⟨_, rfl, _⟩ := h; rfl) | (obtain ⟨_, _, rfl, _⟩ := h; rfl) | (obtain ⟨_, _, _, rfl, _⟩ := h; rfl) | (obtain ⟨_, _, _, _, rfl, _⟩ := h; rfl) | (obtain ⟨_, _, _, _, _, rfl, _⟩ := h; rfl) | (obtain ⟨_, _, _, _, _, _, rfl, _⟩ := h; rfl) | (obtain ⟨_, _, _, _, _, _, _, rfl, _⟩ := h; rfl) | (obtain ⟨_, _, _, _, _, _, _, _, rfl, _⟩ := h; rfl) | exact spInit_len h rfl | exact spN_len h (by intro ds o hh; first | (obtain ⟨rfl, _⟩ := hh; rfl) | (obtain ⟨_, rfl, _⟩ := hh; rfl) | (obtain ⟨_, _, rfl, _⟩ := hh; rfl) | (obtain ⟨_, _, _, rfl, _⟩ := hh; rfl)) | exact spO_len h (by intro ds o hh; first | (obtain ⟨rfl, _⟩ := hh; rfl) | (obtain ⟨_, rfl, _⟩ := hh; rfl) | (obtain ⟨_, _, rfl, _⟩ := hh; rfl) | (obtain ⟨_, _, _, rfl, _⟩ := hh; rfl) | (obtain ⟨_, _, _, _, rfl, _⟩ := hh; rfl) | (obtain ⟨_, _, _, _, _, rfl, _⟩ := hh; rfl) | (obtain ⟨_, _, _, _, _, _, rfl, _⟩ := hh; rfl))
  refine ⟨_, (pss_cons (ps_asg (pe_lst pa_nil) (pg_name (i := 5) sc_law_free_mask.nd rfl (by first | exact Or.inl rfl | exact Or.inr rfl)))
    (pss_cons (ps_for (passes_of rfl) rfl (pi_seq (pe_g G_law_some (hr.mono (by decide)) (takes_of rfl rfl rfl rfl) (pa_cons (pv 0) (pa_cons (pe_g G_law_moves (hr.mono (by decide)) (takes_of rfl rfl rfl rfl) (pa_cons (pv 1) pa_nil)) (pa_cons (pe_g G_law_take (hr.mono (by decide)) (takes_of rfl rfl rfl rfl) (pa_cons (pv 0) (pa_cons (pe_op op_add (pv 2) pe_int) pa_nil))) pa_nil))))) (pg_name (i := 6) sc_law_free_mask.nd rfl (by first | exact Or.inl rfl | exact Or.inr rfl))
    (pss_one (ps_expr (pe_bm PySem.F.plainAttrs_list PySem.F.slot_list_append PySem.F.type_list_append mt_append (pv 5) (pa_cons (pe_tup (pa_cons (pe_ix ix_seq (pv 6) pe_int (fun _ _ => rfl)) (pa_cons (pe_ix ix_seq (pv 6) pe_int (fun _ _ => rfl)) (pa_cons (pe_g G_law_price (hr.mono (by decide)) (takes_of rfl rfl rfl rfl) (pa_cons (pv 0) (pa_cons (pv 3) (pa_cons (pv 4) pa_nil)))) pa_nil)))) pa_nil)))))
    (pss_one (ps_ret (pe_tuple tx.bt (pe_sort3 tx.bt (pv 5))))))), ?_⟩
  try dsimp only [cxOf]
  obtain ⟨a, b, r, most, hi, rfl, hok, r1, r3, t0, t1, h0, h1, q⟩ := h
  with_reducible apply s_seq
  refine s_nil fun p H1 hp s1 e1 => ?_
  with_reducible apply s_seq
  refine ⟨_, rfl, _, rfl, r, rfl, r1, r3, fun pm wm mm H2 hpm s2 em im nz lm => ?_⟩
  refine ⟨_, rfl, _, rfl, _, _, rfl, rfl, a, b, _, rfl, (hok.same s1).same s2, small_lit (by omega) (by omega), fun n H3 m3 ok3 n0 n1 => ?_⟩
  have hn : n ≤ 8 := by
    by_cases z : most + 1 < 2
    · have := n0 z
      omega
    · have := n1 (by omega)
      omega
  have ok1 := hok.same s1
  have ok2 := ok1.same s2
  obtain ⟨npa, npb⟩ := hok.apart hp
  obtain ⟨nma, nmb⟩ := ok1.apart hpm
  have lw : wm.length = mm.length := by rw [im.length, List.length_map]
  refine ⟨a, b, pm, wm, n, rfl, ok3, .inl (.inl (.inl (m3 pm _ nma em))), by omega, fun qq ys zs H4 m4 ok4 pm4 ly hq4 e4 => ?_⟩
  have s12 := s1.trans s2
  have m04 : Sm a H H4 := s12.sm.trans (m3.trans m4)
  have keep24 : Keep H2 H4 := (m3.stayS (K := K) ok2).2.trans (m4.stayS (K := K) ok3).2
  obtain ⟨us, hus, ius⟩ := (im.mono keep24).perm_of pm4
  obtain ⟨cs, rfl, hcs⟩ := perm_map_inv cellT_inj hus
  have iy : Ims K H4 ys ((cs.take ys.length).map cellT) := by
    have z := ius.take ys.length
    rw [List.take_left, ← List.map_take] at z
    exact z
  have ep4 : H4 p = some (.lst []) := m4 p _ npa (m3 p _ npa (s2 _ _ e1))
  have nqp : qq ≠ p := fun z => by rw [z] at hq4; rw [m3 p _ npa (s2 _ _ e1)] at hq4; cases hq4
  obtain ⟨nqa, nqb⟩ := ok3.apart hq4
  have hp0 := hp
  refine ⟨qq, rfl, .inl ⟨⟨ys, .inl (.inl e4)⟩, ?_⟩⟩
  refine for_list (D := ⟨_, Q, fun _ _ => False, fun _ _ => False⟩) (xs := ys) (fun i σ' H' => ∃ a6, σ' = [some (.ref a), some (.int r), some (.int most), some (.int 0), some (.int hi), some (.ref p), a6] ∧ Sm a H H' ∧ StoreOk H' a b ∧ H' qq = some (.lst ys) ∧ Keep H4 H' ∧ ∃ (vs : List V) (ms : List Move), H' p = some (.lst vs) ∧ Ims K H' vs (ms.map moveT) ∧ ms.length = i ∧ (∀ m ∈ ms, ¬ (m.1 = 0 ∧ m.2.1 = 0)) ∧ ∀ m ∈ ms, 0 ≤ m.2.2) ?_ ?_ ?_ ?_
  · exact ⟨none, rfl, m04, ok4, e4, Keep.refl _, [], [], ep4, .nil, rfl, (fun m hm => absurd hm (List.not_mem_nil)), (fun m hm => absurd hm (List.not_mem_nil))⟩
  · rintro i σ' H' _ ⟨_, _, _, _, e, _⟩
    exact .inl (.inl e)
  · rintro i x σ' H5 hx ⟨a6, rfl, m5, ok5, eq5, k5, vs, ms, e5, im5, l5, nz5, ps5⟩
    have hil : i < ys.length := (List.getElem?_eq_some_iff.mp hx).1
    obtain ⟨t, ht, imx⟩ := (iy.mono k5).get hx
    rw [List.getElem?_map] at ht
    obtain ⟨c, hc, rfl⟩ := Option.map_eq_some_iff.mp ht
    have hcm : c ∈ cs := List.mem_of_mem_take (List.mem_of_getElem? hc)
    have hcz : c ≠ (0, 0) := nz c (hcs.mem_iff.mp hcm)
    have hxx : Is K H5 x (.im (cellT c)) := imx
    have lv : vs.length = ms.length := by rw [im5.length, List.length_map]
    refine s_gd ?_
    refine ⟨_, rfl, .inl ⟨rfl, _, .inl (.inl e5)⟩, ?_⟩
    refine e_ix (K := K) (ts := [.int c.1, .int c.2]) (Ev.sq_im (e_var rfl hxx)) e_int (by rfl) H5 (Same.refl _) _ fun u0 H6 s6 h6 => ?_
    refine e_ix (K := K) (ts := [.int c.1, .int c.2]) (Ev.sq_im (e_var rfl (s6.is hxx))) e_int (by rfl) H6 (Same.refl _) _ fun u1 H7 s7 h7 => ?_
    have s57 := s6.trans s7
    refine ⟨_, rfl, _, rfl, _, rfl, a, b, 0, hi, rfl, ok5.same s57, by omega, h0, h1, fun pr H8 m8 ok8 p0 p1 => ?_⟩
    refine ⟨Nat.le_of_ble_eq_true rfl, fun tp htp => ?_⟩
    have s8 : Same H8 (upd H8 tp (.tup [u0, u1, .int pr])) := same_new htp
    have e8 : H8 p = some (.lst vs) := m8 p _ npa (s57 _ _ e5)
    have e9 := s8 _ _ e8
    refine ⟨p, vs, .ref tp, rfl, rfl, e9, lt_line (by omega), ?_⟩
    have k8 : Keep H7 H8 := (m8.stayS (K := K) (ok5.same s57)).2
    have k9 : Keep (upd H8 tp (.tup [u0, u1, .int pr])) (upd (upd H8 tp (.tup [u0, u1, .int pr])) p (.lst (vs ++ [.ref tp]))) := keep_lst e9
    refine ⟨_, rfl, ?_, ((ok8.same s8).upd npa npb), ?_, k5.trans (s57.keep.trans (k8.trans (s8.keep.trans k9))), vs ++ [.ref tp], ms ++ [(c.1, c.2, pr)], upd_same, ?_, by simp; omega, ?_, ?_⟩
    · intro b' u nb hb
      rw [upd_ne (ne_of_none hb hp0)]
      exact s8 _ _ (m8 b' u nb (s57 _ _ (m5 b' u nb hb)))
    · rw [upd_ne nqp]
      exact s8 _ _ (m8 qq _ nqa (s57 _ _ eq5))
    · rw [List.map_append]
      refine (((im5.mono s57.keep).mono (k8.trans s8.keep)).mono k9).snoc (Im.mono k9 ?_)
      rw [h6.iv, h7.iv]
      exact Im.new htp (.cons (.int _) (.cons (.int _) (.cons (.int _) .nil)))
    · intro m hm
      rcases List.mem_append.mp hm with z | z
      · exact nz5 m z
      · rw [List.mem_singleton.mp z]
        exact fun ⟨z1, z2⟩ => hcz (Prod.ext z1 z2)
    · intro m hm
      rcases List.mem_append.mp hm with z | z
      · exact ps5 m z
      · rw [List.mem_singleton.mp z]
        exact p0
  · rintro σ' H5 ⟨a6, rfl, m5, ok5, eq5, k5, vs, ms, e5, im5, l5, nz5, ps5⟩
    have hv : Is K H5 (.ref p) (.ls (ms.map moveT)) := ⟨p, vs, rfl, .inl (.inl e5), im5⟩
    refine n_sort3 (K := K) (e_var rfl hv) fun p' ws ns H6 s6 hp6 e6 i6 pm6 => ?_
    refine ⟨p', ws, rfl, .inl ⟨.inl (.inl e6), fun l hl => ?_⟩⟩
    have s7 : Same H6 (upd H6 l (.tup ws)) := same_new hl
    refine q _ ns _ (m5.trans (s6.trans s7).sm) ((ok5.same s6).same s7) (Im.new hl i6) ⟨?_, fun m hm => nz5 m (pm6.mem_iff.mp hm), fun m hm => ps5 m (pm6.mem_iff.mp hm)⟩
    rw [pm6.length_eq, l5]
    omega
theorem sc_law_drawn_mask : FnScope ["store", "low", "high"] ["store", "low"] (defScope (top 93)) := ⟨rfl, rfl, rfl, by decide +kernel, rfl, by decide +kernel, by decide +kernel⟩
theorem ok_law_drawn_mask {f : Addr} {fd : FuncData} (F : FunD K "_law_drawn_mask" "_law_drawn_mask" (defArgs (top 93)) (defBody (top 93)) (defScope (top 93)) [] [] f fd) (tx : Tx w K mg CF) (G_law_free_mask : Gf P w K mg base "_law_free_mask" 6 (sp_law_free_mask K mg CF)) (G_law_pick : Gf P w K mg base "_law_pick" 4 (sp_law_pick K mg CF)) (G_law_hit : Gf P w K mg base "_law_hit" 4 (sp_law_hit K mg CF)) (G_law_eights : Gf P w K mg base "_law_eights" 6 (sp_law_eights K mg CF)) : FnOk P w K mg base (L2.CX P w) 7 f fd ["store", "low"] (sp_law_drawn_mask K mg CF) := by
  refine F.ok sc_law_drawn_mask (fun vs H Q E h => ?_) (fun cdv A outer s H vs Q E hr h => ?_)
  · first | (obtain ⟨_, rfl, _⟩ := h; rfl) | (obtain ⟨_, _, rfl, _⟩ := h; rfl) | (obtain ⟨_, _, _, rfl, _⟩ := h; rfl) | (obtain ⟨_, _, _, _, rfl, _⟩ := h; rfl) | (obtain ⟨_, _, _, _, _, rfl, _⟩ := h; rfl) | (obtain ⟨_, _, _, _, _, _, rfl, _⟩ := h; rfl) | (obtain ⟨_, _, _, _, _, _, _, rfl, _⟩ := h; rfl) | (obtain ⟨_, _, _, _, _, _, _, _, rfl, _⟩ := h; rfl) | exact spInit_len h rfl | exact spN_len h (by intro ds o hh; first | (obtain ⟨rfl, _⟩ := hh; rfl) | (obtain ⟨_, rfl, _⟩ := hh; rfl) | (obtain ⟨_, _, rfl, _⟩ := hh; rfl) | (obtain ⟨_, _, _, rfl, _⟩ := hh; rfl)) | exact spO_len h (by intro ds o hh; first | (obtain ⟨rfl, _⟩ := hh; rfl) | (obtain ⟨_, rfl, _⟩ := hh; rfl) | (obtain ⟨_, _, rfl, _⟩ := hh; rfl) | (obtain ⟨_, _, _, rfl, _⟩ := hh; rfl) | (obtain ⟨_, _, _, _, rfl, _⟩ := hh; rfl) | (obtain ⟨_, _, _, _, _, rfl, _⟩ := hh; rfl) | (obtain ⟨_, _, _, _, _, _, rfl, _⟩ := hh; rfl))
  refine ⟨_, (pss_cons (ps_asg (pe_g G_law_pick (hr.mono (by decide)) (takes_of rfl rfl rfl rfl) (pa_cons (pv 0) (pa_cons (pe_lst (pa_cons pe_int (pa_cons pe_int (pa_cons pe_int (pa_cons (pe_op op_pow pe_int pe_int) pa_nil))))) pa_nil))) (pg_name (i := 2) sc_law_drawn_mask.nd rfl (by first | exact Or.inl rfl | exact Or.inr rfl)))
    (pss_cons (ps_if (pt_val (pe_g G_law_hit (hr.mono (by decide)) (takes_of rfl rfl rfl rfl) (pa_cons (pv 0) (pa_cons pe_int pa_nil))))
    (pss_one (ps_ret (pe_g G_law_eights (hr.mono (by decide)) (takes_of rfl rfl rfl rfl) (pa_cons (pv 0) (pa_cons (pv 1) (pa_cons (pv 2) pa_nil))))))
    pss_nil)
    (pss_one (ps_ret (pe_g G_law_free_mask (hr.mono (by decide)) (takes_of rfl rfl rfl rfl) (pa_cons (pv 0) (pa_cons (pe_g G_law_pick (hr.mono (by decide)) (takes_of rfl rfl rfl rfl) (pa_cons (pv 0) (pa_cons (pe_lst (pa_cons pe_int (pa_cons pe_int (pa_cons pe_int (pa_cons pe_int pa_nil))))) pa_nil))) (pa_cons (pe_g G_law_pick (hr.mono (by decide)) (takes_of rfl rfl rfl rfl) (pa_cons (pv 0) (pa_cons (pe_lst (pa_cons pe_int (pa_cons pe_int (pa_cons pe_int (pa_cons pe_int (pa_cons pe_int pa_nil)))))) pa_nil))) (pa_cons (pv 1) (pa_cons (pv 2) pa_nil)))))))))), ?_⟩
  try dsimp only [cxOf]
  obtain ⟨a, b, rfl, hok, q⟩ := h
  with_reducible apply s_seq
  refine ⟨_, rfl, n_lst (K := K) (ts := [.int 7, .int 7, .int 3, .int (10 ^ 9)]) (a_cons e_int (a_cons e_int (a_cons e_int (a_cons (e_pow (j := 9) e_int e_int ⟨by decide, by decide, by decide⟩) a_nil)))) (by rfl) (by decide) H (Same.refl _) _ fun p vs H1 hp s1 e1 im => ?_⟩
  have ev := ims_ints (xs := [7, 7, 3, 10 ^ 9]) im
  subst ev
  refine ⟨a, b, p, _, rfl, hok.same s1, .inl (.inl (.inl e1)), by decide, by decide, fun v H2 hv m2 ok2 => ?_⟩
  obtain ⟨hi, hhi, rfl⟩ := List.mem_map.mp hv
  have hh : 0 ≤ hi ∧ hi ≤ 1000000000 := by
    have z : hi = 7 ∨ hi = 7 ∨ hi = 3 ∨ hi = 10 ^ 9 := by simpa using hhi
    rcases z with z | z | z | z <;> subst z <;> decide
  have m02 := s1.sm.trans m2
  show tSeq _ _ _ _ _
  with_reducible apply s_seq
  refine ⟨_, rfl, a, b, _, rfl, ok2, small_lit (by decide) (by decide), fun c H3 m3 ok3 => ⟨c, rfl, ?_⟩⟩
  cases c with
  | true =>
    refine iteT ⟨_, rfl, _, rfl, _, rfl, a, b, hi, rfl, ok3, hh.1, hh.2, fun v ms H4 m4 ok4 i4 g4 => ?_⟩
    exact q v ms H4 (m02.trans (m3.trans m4)) ok4 i4 g4
  | false =>
    refine iteF (s_next ?_)
    refine ⟨_, rfl, _, rfl, n_lst (K := K) (ts := [.int 1, .int 1, .int 2, .int 3]) (a_cons e_int (a_cons e_int (a_cons e_int (a_cons e_int a_nil)))) (by rfl) (by decide) H3 (Same.refl _) _ fun p4 vs4 H4 hp4 s4 e4 im4 => ?_⟩
    have ev4 := ims_ints (xs := [1, 1, 2, 3]) im4
    subst ev4
    refine ⟨a, b, p4, _, rfl, ok3.same s4, .inl (.inl (.inl e4)), by decide, by decide, fun v5 H5 hv5 m5 ok5 => ?_⟩
    obtain ⟨rc, hrc, rfl⟩ := List.mem_map.mp hv5
    have hr1 : 1 ≤ rc ∧ rc ≤ 3 := by
      have z : rc = 1 ∨ rc = 1 ∨ rc = 2 ∨ rc = 3 := by simpa using hrc
      omega
    refine ⟨_, rfl, n_lst (K := K) (ts := [.int 2, .int 4, .int 8, .int 8, .int 8]) (a_cons e_int (a_cons e_int (a_cons e_int (a_cons e_int (a_cons e_int a_nil))))) (by rfl) (by decide) H5 (Same.refl _) _ fun p6 vs6 H6 hp6 s6 e6 im6 => ?_⟩
    have ev6 := ims_ints (xs := [2, 4, 8, 8, 8]) im6
    subst ev6
    refine ⟨a, b, p6, _, rfl, ok5.same s6, .inl (.inl (.inl e6)), by decide, by decide, fun v7 H7 hv7 m7 ok7 => ?_⟩
    obtain ⟨mo, hmo, rfl⟩ := List.mem_map.mp hv7
    have hr2 : 0 ≤ mo ∧ mo ≤ 8 := by
      have z : mo = 2 ∨ mo = 4 ∨ mo = 8 ∨ mo = 8 ∨ mo = 8 := by simpa using hmo
      omega
    refine ⟨_, rfl, _, rfl, a, b, rc, mo, hi, rfl, ok7, hr1.1, hr1.2, hr2.1, hr2.2, hh.1, by omega, fun v ms H8 m8 ok8 i8 g8 => ?_⟩
    exact q v ms H8 (m02.trans (m3.trans (s4.sm.trans (m5.trans (s6.sm.trans (m7.trans m8)))))) ok8 i8 g8
theorem sc_law_eights : FnScope ["store", "low", "high", "sides", "prices", "k", "rows", "after_it", "most", "price"] ["store", "low", "high"] (defScope (top 75)) := ⟨rfl, rfl, rfl, by decide +kernel, rfl, by decide +kernel, by decide +kernel⟩
theorem ok_law_eights {f : Addr} {fd : FuncData} (F : FunD K "_law_eights" "_law_eights" (defArgs (top 75)) (defBody (top 75)) (defScope (top 75)) [] [] f fd) (tx : Tx w K mg CF) (G_law_hit : Gf P w K mg base "_law_hit" 4 (sp_law_hit K mg CF)) (G_law_span : Gf P w K mg base "_law_span" 4 (sp_law_span K mg CF)) (G_law_price : Gf P w K mg base "_law_price" 5 (sp_law_price K mg CF)) : FnOk P w K mg base (L2.CX P w) 6 f fd ["store", "low", "high"] (sp_law_eights K mg CF) := by
  refine F.ok sc_law_eights (fun vs H Q E h => ?_) (fun cdv A outer s H vs Q E hr h => ?_)
  · first | (obtain ⟨_, rfl, _⟩ := h; rfl) | (obtain ⟨_, _, rfl, _⟩ := h; rfl) | (obtain ⟨_, _, _, rfl, _⟩ := h; rfl) | (obtain ⟨_, _, _, _, rfl, _⟩ := h; rfl) | (obtain ⟨_, _, _, _, _, rfl, _⟩ := h; rfl) | (obtain ⟨_, _, _, _, _, _, rfl, _⟩ := h; rfl) | (obtain ⟨_, _, _, _, _, _, _, rfl, _⟩ := h; rfl) | (obtain ⟨_, _, _, _, _, _, _, _, rfl, _⟩ := h; rfl) | exact spInit_len h rfl | exact spN_len h (by intro ds o hh; first | (obtain ⟨rfl, _⟩ := hh; rfl) | (obtain ⟨_, rfl, _⟩ := hh; rfl) | (obtain ⟨_, _, rfl, _⟩ := hh; rfl) | (obtain ⟨_, _, _, rfl, _⟩ := hh; rfl)) | exact spO_len h (by intro ds o hh; first | (obtain ⟨rfl, _⟩ := hh; rfl) | (obtain ⟨_, rfl, _⟩ := hh; rfl) | (obtain ⟨_, _, rfl, _⟩ := hh; rfl) | (obtain ⟨_, _, _, rfl, _⟩ := hh; rfl) | (obtain ⟨_, _, _, _, rfl, _⟩ := hh; rfl) | (obtain ⟨_, _, _, _, _, rfl, _⟩ := hh; rfl) | (obtain ⟨_, _, _, _, _, _, rfl, _⟩ := hh; rfl))
  refine ⟨_, (pss_cons (ps_asg (pe_lst (pa_cons (pe_tup (pa_cons pe_int (pa_cons pe_int pa_nil))) (pa_cons (pe_tup (pa_cons pe_int (pa_cons pe_int pa_nil))) (pa_cons (pe_tup (pa_cons pe_int (pa_cons (pe_un un_neg pe_int) pa_nil))) (pa_cons (pe_tup (pa_cons (pe_un un_neg pe_int) (pa_cons pe_int pa_nil))) pa_nil))))) (pg_name (i := 3) sc_law_eights.nd rfl (by first | exact Or.inl rfl | exact Or.inr rfl)))
    (pss_cons (ps_asg (pe_lc (te := (tCallS (sp_law_price K mg CF) (WE (fun _ _ _ _ => False)) (tCons (tVar 0) (tCons (tVar 1) (tCons (tVar 2) tNil))))) (own := [("k", 5)]) (g := (gName 5)) (tt := tYes) rfl sc_law_eights.nd (pi_range1 rfl tx.bt.range (pa_cons pe_int pa_nil)) (blkOk_by (own := [("k", 5)]) (N := ["store", "low", "high", "sides", "prices", "k", "rows", "after_it", "most", "price"]) (sc := defScope (top 75)) (by decide +kernel)) (fun _ _ _ _ _ => (pg_name (i := 5) sc_law_eights.nd rfl (by first | exact Or.inl rfl | exact Or.inr rfl))) (fun _ _ _ _ _ => pts_nil) (fun _ _ _ _ _ => (pe_g G_law_price (hr.mono (by decide)) takes0 (pa_cons (pv 0) (pa_cons (pv 1) (pa_cons (pv 2) pa_nil)))))) (pg_name (i := 4) sc_law_eights.nd rfl (by first | exact Or.inl rfl | exact Or.inr rfl)))
    (pss_cons (ps_if (pt_val (pe_g G_law_hit (hr.mono (by decide)) (takes_of rfl rfl rfl rfl) (pa_cons (pv 0) (pa_cons pe_int pa_nil))))
    (pss_one (ps_asg (pe_lc (te := (tOp (rIx K) (tVar 4) (tC (V.int 0)))) (own := [("k", 5)]) (g := (gName 5)) (tt := tYes) rfl sc_law_eights.nd (pi_range1 rfl tx.bt.range (pa_cons pe_int pa_nil)) (blkOk_by (own := [("k", 5)]) (N := ["store", "low", "high", "sides", "prices", "k", "rows", "after_it", "most", "price"]) (sc := defScope (top 75)) (by decide +kernel)) (fun _ _ _ _ _ => (pg_name (i := 5) sc_law_eights.nd rfl (by first | exact Or.inl rfl | exact Or.inr rfl))) (fun _ _ _ _ _ => pts_nil) (fun _ _ _ _ _ => (pe_ix ix_seq (pv 4) pe_int (fun _ _ => rfl)))) (pg_name (i := 4) sc_law_eights.nd rfl (by first | exact Or.inl rfl | exact Or.inr rfl))))
    pss_nil)
    (pss_cons (ps_setLc (i := 6) (te := (tTup (tCons (tOp (rIx K) (tOp (rIx K) (tVar 3) (tVar 5)) (tC (V.int 0))) (tCons (tOp (rIx K) (tOp (rIx K) (tVar 3) (tVar 5)) (tC (V.int 1))) (tCons (tOp (rIx K) (tVar 4) (tVar 5)) tNil))))) (own := [("k", 5)]) (g := (gName 5)) (tt := tYes) rfl sc_law_eights.nd rfl rfl rfl (pi_range1 rfl tx.bt.range (pa_cons pe_int pa_nil)) (blkOk_by (own := [("k", 5)]) (N := ["store", "low", "high", "sides", "prices", "k", "rows", "after_it", "most", "price"]) (sc := defScope (top 75)) (by decide +kernel)) (fun _ _ _ _ _ => (pg_name (i := 5) sc_law_eights.nd rfl (by first | exact Or.inl rfl | exact Or.inr rfl))) (fun _ _ _ _ _ => pts_nil) (fun _ _ _ _ _ => (pe_tup (pa_cons (pe_ix ix_seq (pe_ix ix_seq (pv 3) (pv 5) (fun _ _ => rfl)) pe_int (fun _ _ => rfl)) (pa_cons (pe_ix ix_seq (pe_ix ix_seq (pv 3) (pv 5) (fun _ _ => rfl)) pe_int (fun _ _ => rfl)) (pa_cons (pe_ix ix_seq (pv 4) (pv 5) (fun _ _ => rfl)) pa_nil))))))
    (pss_cons (ps_for (passes_of rfl) rfl (pi_range1 rfl tx.bt.range (pa_cons pe_int pa_nil)) (pg_name (i := 5) sc_law_eights.nd rfl (by first | exact Or.inl rfl | exact Or.inr rfl))
    (pss_cons (ps_asg (pe_op op_mod (pe_intc tx.bt (pe_op op_add (pv 5) pe_int)) pe_int) (pg_name (i := 7) sc_law_eights.nd rfl (by first | exact Or.inl rfl | exact Or.inr rfl)))
    (pss_one (ps_if (pt_not (pt_val (pe_g G_law_hit (hr.mono (by decide)) (takes_of rfl rfl rfl rfl) (pa_cons (pv 0) (pa_cons pe_int pa_nil)))))
    (pss_cons (ps_asg (pe_min2 tx.bt rfl (pe_op op_pow pe_int pe_int) (pe_op op_add (pe_op op_add (pe_ix ix_seq (pv 4) (pv 5) (fun _ _ => rfl)) (pe_ix ix_seq (pv 4) (pv 7) (fun _ _ => rfl))) pe_int)) (pg_name (i := 8) sc_law_eights.nd rfl (by first | exact Or.inl rfl | exact Or.inr rfl)))
    (pss_cons (ps_asg (pe_g G_law_span (hr.mono (by decide)) (takes_of rfl rfl rfl rfl) (pa_cons (pv 0) (pa_cons (pe_max2 tx.bt rfl (pe_ix ix_seq (pv 4) (pv 5) (fun _ _ => rfl)) (pe_ix ix_seq (pv 4) (pv 7) (fun _ _ => rfl))) (pa_cons (pv 8) pa_nil)))) (pg_name (i := 9) sc_law_eights.nd rfl (by first | exact Or.inl rfl | exact Or.inr rfl)))
    (pss_one (ps_expr (pe_bm PySem.F.plainAttrs_list PySem.F.slot_list_append PySem.F.type_list_append mt_append (pv 6) (pa_cons (pe_tup (pa_cons (pe_op op_add (pe_ix ix_seq (pe_ix ix_seq (pv 3) (pv 5) (fun _ _ => rfl)) pe_int (fun _ _ => rfl)) (pe_ix ix_seq (pe_ix ix_seq (pv 3) (pv 7) (fun _ _ => rfl)) pe_int (fun _ _ => rfl))) (pa_cons (pe_op op_add (pe_ix ix_seq (pe_ix ix_seq (pv 3) (pv 5) (fun _ _ => rfl)) pe_int (fun _ _ => rfl)) (pe_ix ix_seq (pe_ix ix_seq (pv 3) (pv 7) (fun _ _ => rfl)) pe_int (fun _ _ => rfl))) (pa_cons (pv 9) pa_nil)))) pa_nil))))))
    pss_nil))))
    (pss_one (ps_ret (pe_tuple tx.bt (pe_sort3 tx.bt (pv 6)))))))))), ?_⟩
  try dsimp only [cxOf]
  obtain ⟨a, b, hi, rfl, hok, h0, h1, q⟩ := h
  with_reducible apply s_seq
  refine s_setN K (n_lst (ts := sideL.map cellT) (a_cons (e_tup (ts := [.int 0, .int 1]) (a_cons e_int (a_cons e_int a_nil)) (by rfl) (by decide)) (a_cons (e_tup (ts := [.int 1, .int 0]) (a_cons e_int (a_cons e_int a_nil)) (by rfl) (by decide)) (a_cons (e_tup (ts := [.int 0, .int (-1)]) (a_cons e_int (a_cons (e_neg e_int) a_nil)) (by rfl) (by decide)) (a_cons (e_tup (ts := [.int (-1), .int 0]) (a_cons (e_neg e_int) (a_cons e_int a_nil)) (by rfl) (by decide)) a_nil)))) (by rfl) (by decide)) fun p1 vs1 H1 hp1 s1 e1 im1 => ?_
  have ok1 := hok.same s1
  have hS1 : Is K H1 (.ref p1) (.ls (sideL.map cellT)) := ⟨p1, vs1, rfl, .inl (.inl e1), im1⟩
  with_reducible apply s_seq
  refine ⟨4, rfl, by decide, by decide, fun D hD => ?_⟩
  refine lc_range (lo := 0) (n := 4) (fun i H' => Sm a H1 H' ∧ StoreOk H' a b ∧ ∃ ps : List Int, H' D = some (.lst (ps.map V.int)) ∧ ps.length = i ∧ ∀ p ∈ ps, 0 ≤ p ∧ p ≤ hi) ?_ ?_ ?_
  · obtain ⟨nDa, nDb⟩ := ok1.apart hD
    exact ⟨(same_new hD).sm, ok1.upd nDa nDb, [], upd_same, rfl, fun p hp => absurd hp (List.not_mem_nil)⟩
  · rintro i H' hi' ⟨m, ok, ps, e, l, hb⟩
    obtain ⟨nDa, nDb⟩ := ok1.apart hD
    refine ⟨rfl, ?_⟩
    unfold tYes
    dsimp only
    rw [if_pos rfl]
    refine ⟨_, rfl, _, rfl, _, rfl, a, b, 0, hi, rfl, ok, by decide, h0, by omega, fun r H2 m2 ok2 r0 r1 => ?_⟩
    have e2 := m2 D _ nDa e
    refine ⟨ps.map V.int, e2, lt_line (by rw [List.length_map]; omega), ?_, ok2.upd nDa nDb, ps ++ [r], by rw [upd_same, List.map_append]; rfl, by simp; omega, fun p hp => ?_⟩
    · intro b' u nb hb'
      rw [upd_ne (ne_of_none hb' hD)]
      exact m2 b' u nb (m b' u nb hb')
    · rcases List.mem_append.mp hp with z | z
      · exact hb p z
      · rw [List.mem_singleton.mp z]
        exact ⟨r0, r1⟩
  rintro H2 ⟨m2, ok2, ps, e2, l2, b2⟩
  refine s_gN ?_
  dsimp only
  have npa : D ≠ a := (ok1.apart hD).1
  refine s_cut (fun σ' H' => ∃ (D : Addr) (ps : List Int), σ' = [some (.ref a), some (.int 0), some (.int hi), some (.ref p1), some (.ref D), none, none, none, none, none] ∧ Sm a H H' ∧ StoreOk H' a b ∧ (H' p1 = some (.lst vs1) ∧ Ims K H' vs1 (sideL.map cellT)) ∧ D ≠ a ∧ H' D = some (.lst (ps.map V.int)) ∧ ps.length = 4 ∧ ∀ p ∈ ps, 0 ≤ p ∧ p ≤ hi) ?_ fun k1 => ?_
  rotate_left
  · refine ⟨_, rfl, a, b, _, rfl, ok2, small_lit (by decide) (by decide), fun c H3 m3 ok3 => ⟨c, rfl, ?_⟩⟩
    have m03 := s1.sm.trans (m2.trans m3)
    have e3 := m3 D _ npa e2
    have hS3 : H3 p1 = some (.lst vs1) ∧ Ims K H3 vs1 (sideL.map cellT) := ⟨(m2.trans m3) p1 _ (hok.apart hp1).1 e1, im1.mono ((m2.trans m3).stayS (K := K) ok1).2⟩
    cases c with
    | false => exact iteF (s_next (k1 _ _ ⟨D, ps, rfl, m03, ok3, hS3, npa, e3, l2, b2⟩))
    | true =>
      refine iteT ?_
      obtain ⟨p0, hp0⟩ : ∃ p0, ps[0]? = some p0 := ⟨_, List.getElem?_eq_getElem (by omega)⟩
      have hD3 : Is K H3 (.ref D) (.ls (ps.map T.int)) := ⟨D, _, rfl, .inl (.inl e3), Ims.ints ps⟩
      refine s_setN K (n_genA (enc := fun k : Nat => T.int (k : Int)) (xs := List.range 4) (f := fun _ => T.int p0) (i_rng1 (j := 4) (a_cons e_int a_nil) (by decide)) (by decide) fun i k x H4 hk s4 im4 => ?_) fun p' vs' H4 hp' s4 e4 im4 => ?_
      · refine ⟨_, fun k z => z, rfl, e_ix (ts := ps.map T.int) (Ev.sq_ls (e_var rfl (s4.is hD3))) e_int ?_⟩
        exact atI_of (Int.le_refl _) (show (ps.map T.int)[0]? = _ by rw [List.getElem?_map, hp0] <;> rfl)
      · have ev := ims_ints (xs := [p0, p0, p0, p0]) im4
        subst ev
        refine k1 _ _ ⟨p', [p0, p0, p0, p0], rfl, m03.trans s4.sm, ok3.same s4, ⟨s4 _ _ hS3.1, L2.Same.ims s4 hS3.2⟩, (ok3.apart hp').1, e4, rfl, fun p hp => ?_⟩
        have : p = p0 := by simpa using hp
        rw [this]
        exact b2 p0 (List.mem_of_getElem? hp0)
  rintro σ' H3 ⟨D, ps, rfl, m3, ok3, hS3, nDa, e3, l3, b3⟩
  have side : ∀ k : Nat, k < 4 → ∀ {H4 : Hp} {σ'' : L2.St} {te : TE}, H4 p1 = some (.lst vs1) ∧ Ims K H4 vs1 (sideL.map cellT) → σ''[3]? = some (some (.ref p1)) → Ev K te σ'' H4 (.im (.int (k : Int))) →
      Ev K (tOp (rIx K) (tOp (rIx K) (tVar 3) te) (tC (.int 0))) σ'' H4 (.im (.int (sideL.getD k (0, 0)).1)) ∧ Ev K (tOp (rIx K) (tOp (rIx K) (tVar 3) te) (tC (.int 1))) σ'' H4 (.im (.int (sideL.getD k (0, 0)).2)) := by
    intro k hk H4 σ'' te hh hs he
    have hc : sideL[k]? = some (sideL.getD k (0, 0)) := by
      rw [List.getD_eq_getElem?_getD, List.getElem?_eq_getElem (show k < sideL.length from hk)]
      rfl
    have z : Ev K (tOp (rIx K) (tVar 3) te) σ'' H4 (.im (.tup [.int (sideL.getD k (0, 0)).1, .int (sideL.getD k (0, 0)).2])) := e_ix (ts := sideL.map cellT) (e_var (d := .sq _) hs ⟨p1, vs1, rfl, .inl (.inl (.inl hh.1)), hh.2⟩) he (atI_nat (by rw [List.getElem?_map, hc] <;> rfl))
    exact ⟨e_ix (Ev.sq_im z) e_int (by rfl), e_ix (Ev.sq_im z) e_int (by rfl)⟩
  have price : ∀ k : Nat, k < 4 → (0 ≤ ps.getD k 0 ∧ ps.getD k 0 ≤ hi) ∧ ∀ {H4 : Hp} {σ'' : L2.St} {te : TE}, H4 D = some (.lst (ps.map V.int)) → σ''[4]? = some (some (.ref D)) → Ev K te σ'' H4 (.im (.int (k : Int))) → Ev K (tOp (rIx K) (tVar 4) te) σ'' H4 (.im (.int (ps.getD k 0))) := by
    intro k hk
    have hp : ps[k]? = some (ps.getD k 0) := by
      rw [List.getD_eq_getElem?_getD, List.getElem?_eq_getElem (show k < ps.length by omega)]
      rfl
    exact ⟨b3 _ (List.mem_of_getElem? hp), fun hh hs he => e_ix (ts := ps.map T.int) (e_var (d := .sq _) hs ⟨D, _, rfl, .inl (.inl (.inl hh)), Ims.ints ps⟩) he (atI_nat (by rw [List.getElem?_map, hp] <;> rfl))⟩
  with_reducible apply s_seq
  refine s_setN K (n_genA (enc := fun k : Nat => T.int (k : Int)) (xs := List.range 4) (f := fun k => moveT ((sideL.getD k (0, 0)).1, (sideL.getD k (0, 0)).2, ps.getD k 0)) (i_rng1 (j := 4) (a_cons e_int a_nil) (by decide)) (by decide) fun i k x H4 hk s4 im4 => ?_) fun p6 vs6 H4 hp6 s4 e6 im6 => ?_
  · rw [im4.int_inv]
    have hk4 : k < 4 := List.mem_range.mp (List.mem_of_getElem? hk)
    have hS4 : H4 p1 = some (.lst vs1) ∧ Ims K H4 vs1 (sideL.map cellT) := ⟨s4 _ _ hS3.1, L2.Same.ims s4 hS3.2⟩
    refine ⟨_, fun k z => z, rfl, ?_⟩
    exact e_tup (ts := [.int (sideL.getD k (0, 0)).1, .int (sideL.getD k (0, 0)).2, .int (ps.getD k 0)]) (a_cons (side k hk4 hS4 rfl (e_vint rfl)).1 (a_cons (side k hk4 hS4 rfl (e_vint rfl)).2 (a_cons ((price k hk4).2 (s4 _ _ e3) rfl (e_vint rfl)) a_nil))) (by rfl) (Nat.le_of_ble_eq_true rfl)
  have np1 : p1 ≠ p6 := fun z => by rw [← z] at hp6; rw [hS3.1] at hp6; cases hp6
  have npD : D ≠ p6 := fun z => by rw [← z] at hp6; rw [e3] at hp6; cases hp6
  obtain ⟨n6a, n6b⟩ := ok3.apart hp6
  have np1a : p1 ≠ a := (hok.apart hp1).1
  have hp60 : H p6 = none := m3.free n6a hp6
  have nzk : ∀ k : Nat, k < 4 → ¬ ((sideL.getD k (0, 0)).1 = 0 ∧ (sideL.getD k (0, 0)).2 = 0) ∧ ¬ ((sideL.getD k (0, 0)).1 + (sideL.getD ((k + 1) % 4) (0, 0)).1 = 0 ∧ (sideL.getD k (0, 0)).2 + (sideL.getD ((k + 1) % 4) (0, 0)).2 = 0) := by
    intro k hk
    have : k = 0 ∨ k = 1 ∨ k = 2 ∨ k = 3 := by omega
    rcases this with z | z | z | z <;> subst z <;> decide
  with_reducible apply s_seq
  refine for_rng K (j := 4) (a_cons e_int a_nil) (by decide) (fun k σ' H' => ∃ a5 a7 a8 a9, σ' = [some (.ref a), some (.int 0), some (.int hi), some (.ref p1), some (.ref D), a5, some (.ref p6), a7, a8, a9] ∧ Sm a H H' ∧ StoreOk H' a b ∧ (H' p1 = some (.lst vs1) ∧ Ims K H' vs1 (sideL.map cellT)) ∧ H' D = some (.lst (ps.map V.int)) ∧
    ∃ (vs : List V) (ms : List Move), H' p6 = some (.lst vs) ∧ Ims K H' vs (ms.map moveT) ∧ ms.length ≤ 4 + k ∧ (∀ m ∈ ms, ¬ (m.1 = 0 ∧ m.2.1 = 0)) ∧ ∀ m ∈ ms, 0 ≤ m.2.2) ?_ ?_ ?_
  · intro H5 s5
    have s45 := s4.trans s5
    refine ⟨_, _, _, _, rfl, m3.trans s45.sm, ok3.same s45, ⟨s45 _ _ hS3.1, L2.Same.ims s45 hS3.2⟩, s45 _ _ e3, vs6, (List.range 4).map fun k => ((sideL.getD k (0, 0)).1, (sideL.getD k (0, 0)).2, ps.getD k 0), s5 _ _ e6, ?_, Nat.le_of_ble_eq_true rfl, ?_, ?_⟩
    · rw [List.map_map]
      exact L2.Same.ims s5 im6
    · intro m hm
      obtain ⟨k, hk, rfl⟩ := List.mem_map.mp hm
      exact (nzk k (List.mem_range.mp hk)).1
    · intro m hm
      obtain ⟨k, hk, rfl⟩ := List.mem_map.mp hm
      exact (price k (List.mem_range.mp hk)).1.1
  · rintro k σ' H5 hk ⟨a5, a7, a8, a9, rfl, m5, ok5, hS5, eD5, vs, ms, e5, im5, l5, nz5, ps5⟩
    have hk4 : k < 4 := by omega
    have hk5 : (k + 1) % 4 < 4 := Nat.mod_lt _ (by decide)
    have lv : vs.length = ms.length := by rw [im5.length, List.length_map]
    with_reducible apply s_seq
    refine s_setI K (n := (((k + 1) % 4 : Nat) : Int)) (ev_eq (e_intopC (e_intc (e_intop (e_vint rfl) e_int)) e_int (by decide)) (by congr 2)) fun H6 s6 => ?_
    have m6 := m5.trans s6.sm
    have ok6 := ok5.same s6
    have hS6 : H6 p1 = some (.lst vs1) ∧ Ims K H6 vs1 (sideL.map cellT) := ⟨s6 _ _ hS5.1, L2.Same.ims s6 hS5.2⟩
    have eD6 := s6 _ _ eD5
    refine ⟨_, rfl, a, b, _, rfl, ok6, small_lit (by decide) (by decide), fun c H7 m7 ok7 => ⟨c, rfl, ?_⟩⟩
    have k7 : Keep H6 H7 := (m7.stayS (K := K) ok6).2
    have hS7 : H7 p1 = some (.lst vs1) ∧ Ims K H7 vs1 (sideL.map cellT) := ⟨m7 _ _ np1a hS6.1, hS6.2.mono k7⟩
    have eD7 := m7 _ _ nDa eD6
    have e7 := m7 _ _ n6a (s6 _ _ e5)
    have i7 : Ims K H7 vs (ms.map moveT) := (L2.Same.ims s6 im5).mono k7
    have m07 := m6.trans m7
    cases c with
    | true => exact iteF (s_next ⟨_, _, _, _, rfl, m07, ok7, hS7, eD7, vs, ms, e7, i7, by omega, nz5, ps5⟩)
    | false =>
      refine iteT ?_
      have pk := price k hk4
      have pk1 := price ((k + 1) % 4) hk5
      with_reducible apply s_seq
      refine s_setI K (n := if ps.getD k 0 + ps.getD ((k + 1) % 4) 0 + 2 < 10 ^ 9 then ps.getD k 0 + ps.getD ((k + 1) % 4) 0 + 2 else 10 ^ 9) (e_min2 (e_pow (j := 9) e_int e_int ⟨by decide, by decide, by decide⟩) (e_intop (e_intop (pk.2 eD7 rfl (e_vint rfl)) (pk1.2 eD7 rfl (e_vint rfl))) e_int)) fun H8 s8 => ?_
      generalize hmo : (if ps.getD k 0 + ps.getD ((k + 1) % 4) 0 + 2 < 10 ^ 9 then ps.getD k 0 + ps.getD ((k + 1) % 4) 0 + 2 else 10 ^ 9) = mo
      have hmo2 : 0 ≤ mo ∧ mo ≤ 10000000000 := by
        rw [← hmo]
        split
        · omega
        · exact ⟨by decide, by decide⟩
      with_reducible apply s_seq
      refine ⟨_, rfl, e_max2 (K := K) (pk.2 (s8 _ _ eD7) rfl (e_vint rfl)) (pk1.2 (s8 _ _ eD7) rfl (e_vint rfl)) H8 (Same.refl _) _ fun u H9 s9 hu => ?_⟩
      have hmx : 0 ≤ (if ps.getD ((k + 1) % 4) 0 > ps.getD k 0 then ps.getD ((k + 1) % 4) 0 else ps.getD k 0) ∧ (if ps.getD ((k + 1) % 4) 0 > ps.getD k 0 then ps.getD ((k + 1) % 4) 0 else ps.getD k 0) ≤ 10000000000 := by split <;> omega
      rw [hu.iv]
      have s79 := s8.trans s9
      have ok9 := ok7.same s79
      refine ⟨_, rfl, a, b, _, _, rfl, ok9, small_lit (by omega) (by omega), fun r H10 m10 ok10 r0 _ => ?_⟩
      refine s_gN ?_
      dsimp only
      have k10 : Keep H9 H10 := (m10.stayS (K := K) ok9).2
      have hS10 : H10 p1 = some (.lst vs1) ∧ Ims K H10 vs1 (sideL.map cellT) := ⟨m10 _ _ np1a (s79 _ _ hS7.1), (L2.Same.ims s79 hS7.2).mono k10⟩
      have eD10 := m10 _ _ nDa (s79 _ _ eD7)
      have e10 := m10 _ _ n6a (s79 _ _ e7)
      have i10 : Ims K H10 vs (ms.map moveT) := (L2.Same.ims s79 i7).mono k10
      have m010 : Sm a H H10 := m07.trans (s79.sm.trans m10)
      refine s_app K (d := .im (moveT ((sideL.getD k (0, 0)).1 + (sideL.getD ((k + 1) % 4) (0, 0)).1, (sideL.getD k (0, 0)).2 + (sideL.getD ((k + 1) % 4) (0, 0)).2, r))) rfl e10 (by omega)
        (e_tup (ts := [.int ((sideL.getD k (0, 0)).1 + (sideL.getD ((k + 1) % 4) (0, 0)).1), .int ((sideL.getD k (0, 0)).2 + (sideL.getD ((k + 1) % 4) (0, 0)).2), .int r]) (a_cons (e_intop (side k hk4 hS10 rfl (e_vint rfl)).1 (side _ hk5 hS10 rfl (e_vint rfl)).1) (a_cons (e_intop (side k hk4 hS10 rfl (e_vint rfl)).2 (side _ hk5 hS10 rfl (e_vint rfl)).2) (a_cons (e_vint rfl) a_nil))) (by rfl) (Nat.le_of_ble_eq_true rfl)) fun w H11 s11 hw => ?_
      have e11 := s11 _ _ e10
      have k12 : Keep H11 (upd H11 p6 (.lst (vs ++ [w]))) := keep_lst e11
      refine ⟨_, _, _, _, rfl, ?_, ((ok10.same s11).upd n6a n6b), ⟨by rw [upd_ne np1]; exact s11 _ _ hS10.1, (L2.Same.ims s11 hS10.2).mono k12⟩, by rw [upd_ne npD]; exact s11 _ _ eD10, vs ++ [w], ms ++ [((sideL.getD k (0, 0)).1 + (sideL.getD ((k + 1) % 4) (0, 0)).1, (sideL.getD k (0, 0)).2 + (sideL.getD ((k + 1) % 4) (0, 0)).2, r)], upd_same, ?_, by simp; omega, ?_, ?_⟩
      · intro b' u nb hb
        rw [upd_ne (ne_of_none hb hp60)]
        exact s11 _ _ (m010 b' u nb hb)
      · rw [List.map_append]
        exact ((L2.Same.ims s11 i10).mono k12).snoc (Im.mono k12 hw)
      · intro m hm
        rcases List.mem_append.mp hm with z | z
        · exact nz5 m z
        · rw [List.mem_singleton.mp z]
          exact (nzk k hk4).2
      · intro m hm
        rcases List.mem_append.mp hm with z | z
        · exact ps5 m z
        · rw [List.mem_singleton.mp z]
          exact Int.le_trans hmx.1 r0
  · rintro σ' H5 ⟨a5, a7, a8, a9, rfl, m5, ok5, hS5, eD5, vs, ms, e5, im5, l5, nz5, ps5⟩
    have hv : Is K H5 (.ref p6) (.ls (ms.map moveT)) := ⟨p6, vs, rfl, .inl (.inl e5), im5⟩
    refine n_sort3 (K := K) (e_var rfl hv) fun p' ws ns H6 s6 hp6' e6' i6 pm6 => ?_
    refine ⟨p', ws, rfl, .inl ⟨.inl (.inl e6'), fun l hl => ?_⟩⟩
    have s7 : Same H6 (upd H6 l (.tup ws)) := same_new hl
    have l5' : ms.length ≤ 8 := l5
    refine q _ ns _ (m5.trans (s6.trans s7).sm) ((ok5.same s6).same s7) (Im.new hl i6) ⟨?_, fun m hm => nz5 m (pm6.mem_iff.mp hm), fun m hm => ps5 m (pm6.mem_iff.mp hm)⟩
    rw [pm6.length_eq]
    exact l5'
end
end TW

set_option Elab.async false
set_option linter.all false
set_option maxRecDepth 100000
set_option maxHeartbeats 4000000
namespace TW
open PySem PySem.Spec PyProof.Rows L2
local macro_rules | `(tactic| walk_at "ev") => `(tactic| repeat' (first
  | with_reducible exact e_int | with_reducible exact e_str | with_reducible exact e_bl | with_reducible exact e_non
  | exact e_vint rfl | exact e_vstr rfl | exact e_vbl rfl | exact e_vnon rfl | exact e_var rfl (by assumption)
  | exact e_sqv rfl (by assumption) | exact e_dkI rfl (by assumption) rfl
  | with_reducible apply e_call | with_reducible apply e_intc | with_reducible apply e_abs
  | with_reducible apply e_intop | with_reducible apply e_cmp | with_reducible apply e_intopC
  | with_reducible apply e_len | with_reducible apply e_pow | with_reducible apply e_min2 | with_reducible apply e_max2
  | with_reducible exact a_nil | with_reducible apply a_cons
  | with_reducible apply t_ofB | with_reducible apply t_of
  | (with_reducible apply mulR; omega) | (with_reducible apply mulL; omega) | (with_reducible show (_ < _); omega)))
section
variable {P : Program} {w : World} {K : PySem.W.Frag} {mg : Str → Option Value} {base : Heap} {CF : Addr}
theorem sc_law_drawn_floor : FnScope ["store", "sizes", "one", "two", "lists", "items", "x", "y"] ["store"] (defScope (top 92)) := ⟨rfl, rfl, rfl, by decide +kernel, rfl, by decide +kernel, by decide +kernel⟩
theorem ok_law_drawn_floor {f : Addr} {fd : FuncData} (F : FunD K "_law_drawn_floor" "_law_drawn_floor" (defArgs (top 92)) (defBody (top 92)) (defScope (top 92)) [] [] f fd) (tx : Tx w K mg CF) (G_law_pick : Gf P w K mg base "_law_pick" 4 (sp_law_pick K mg CF)) (G_law_span : Gf P w K mg base "_law_span" 4 (sp_law_span K mg CF)) (G_law_hit : Gf P w K mg base "_law_hit" 4 (sp_law_hit K mg CF)) (G_law_take : Gf P w K mg base "_law_take" 3 (sp_law_take K mg CF)) : FnOk P w K mg base (L2.CX P w) 5 f fd ["store"] (sp_law_drawn_floor K mg CF) := by
  refine F.ok sc_law_drawn_floor (fun vs H Q E h => ?_) (fun cdv A outer s H vs Q E hr h => ?_)
  · first | (obtain ⟨_, rfl, _⟩ := h; rfl) | (obtain ⟨_, _, rfl, _⟩ := h; rfl) | (obtain ⟨_, _, _, rfl, _⟩ := h; rfl) | (obtain ⟨_, _, _, _, rfl, _⟩ := h; rfl) | (obtain ⟨_, _, _, _, _, rfl, _⟩ := h; rfl) | (obtain ⟨_, _, _, _, _, _, rfl, _⟩ := h; rfl) | (obtain ⟨_, _, _, _, _, _, _, rfl, _⟩ := h; rfl) | (obtain ⟨_, _, _, _, _, _, _, _, rfl, _⟩ := h; rfl) | exact spInit_len h rfl | exact spN_len h (by intro ds o hh; first | (obtain ⟨rfl, _⟩ := hh; rfl) | (obtain ⟨_, rfl, _⟩ := hh; rfl) | (obtain ⟨_, _, rfl, _⟩ := hh; rfl) | (obtain ⟨_, _, _, rfl, _⟩ := hh; rfl)) | exact spO_len h (by intro ds o hh; first | (obtain ⟨rfl, _⟩ := hh; rfl) | (obtain ⟨_, rfl, _⟩ := hh; rfl) | (obtain ⟨_, _, rfl, _⟩ := hh; rfl) | (obtain ⟨_, _, _, rfl, _⟩ := hh; rfl) | (obtain ⟨_, _, _, _, rfl, _⟩ := hh; rfl) | (obtain ⟨_, _, _, _, _, rfl, _⟩ := hh; rfl) | (obtain ⟨_, _, _, _, _, _, rfl, _⟩ := hh; rfl))
  refine ⟨_, (pss_cons (ps_asg (pe_tup (pa_cons (pe_op op_add pe_int (pe_g G_law_take (hr.mono (by decide)) (takes_of rfl rfl rfl rfl) (pa_cons (pv 0) (pa_cons pe_int pa_nil)))) (pa_cons (pe_op op_add pe_int (pe_g G_law_take (hr.mono (by decide)) (takes_of rfl rfl rfl rfl) (pa_cons (pv 0) (pa_cons pe_int pa_nil)))) pa_nil))) (pg_name (i := 1) sc_law_drawn_floor.nd rfl (by first | exact Or.inl rfl | exact Or.inr rfl)))
    (pss_cons (ps_if (pt_val (pe_g G_law_hit (hr.mono (by decide)) (takes_of rfl rfl rfl rfl) (pa_cons (pv 0) (pa_cons pe_int pa_nil))))
    (pss_one (ps_asg (pe_g G_law_pick (hr.mono (by decide)) (takes_of rfl rfl rfl rfl) (pa_cons (pv 0) (pa_cons (pe_lst (pa_cons (pe_tup (pa_cons pe_int (pa_cons pe_int pa_nil))) (pa_cons (pe_tup (pa_cons pe_int (pa_cons pe_int pa_nil))) (pa_cons (pe_tup (pa_cons pe_int (pa_cons pe_int pa_nil))) (pa_cons (pe_tup (pa_cons pe_int (pa_cons pe_int pa_nil))) (pa_cons (pe_tup (pa_cons pe_int (pa_cons pe_int pa_nil))) pa_nil)))))) pa_nil))) (pg_name (i := 1) sc_law_drawn_floor.nd rfl (by first | exact Or.inl rfl | exact Or.inr rfl))))
    pss_nil)
    (pss_cons (ps_asg (pe_g G_law_span (hr.mono (by decide)) (takes_of rfl rfl rfl rfl) (pa_cons (pv 0) (pa_cons (pe_un un_neg pe_int) (pa_cons pe_int pa_nil)))) (pg_name (i := 2) sc_law_drawn_floor.nd rfl (by first | exact Or.inl rfl | exact Or.inr rfl)))
    (pss_cons (ps_asg (pe_g G_law_pick (hr.mono (by decide)) (takes_of rfl rfl rfl rfl) (pa_cons (pv 0) (pa_cons (pe_lst (pa_cons pe_int (pa_cons pe_int (pa_cons (pv 2) (pa_cons (pe_op op_pow pe_int pe_int) (pa_cons (pe_op op_sub pe_int (pe_op op_pow pe_int pe_int)) (pa_cons (pe_g G_law_span (hr.mono (by decide)) (takes_of rfl rfl rfl rfl) (pa_cons (pv 0) (pa_cons pe_int (pa_cons pe_int pa_nil)))) pa_nil))))))) pa_nil))) (pg_name (i := 3) sc_law_drawn_floor.nd rfl (by first | exact Or.inl rfl | exact Or.inr rfl)))
    (pss_cons (ps_asg (pe_lst (pa_cons (pe_lst (pa_cons pe_non (pa_cons (pv 2) pa_nil))) (pa_cons (pe_lst (pa_cons pe_non (pa_cons pe_non (pa_cons (pv 2) (pa_cons (pv 3) (pa_cons pe_int pa_nil)))))) (pa_cons (pe_lst (pa_cons pe_non (pa_cons pe_non (pa_cons pe_str (pa_cons (pv 2) (pa_cons (pv 3) pa_nil)))))) (pa_cons (pe_lst (pa_cons pe_str (pa_cons pe_non (pa_cons (pv 2) pa_nil)))) (pa_cons (pe_lst (pa_cons (pv 2) (pa_cons (pv 3) (pa_cons pe_int pa_nil)))) pa_nil)))))) (pg_name (i := 4) sc_law_drawn_floor.nd rfl (by first | exact Or.inl rfl | exact Or.inr rfl)))
    (pss_cons (ps_asg (pe_g G_law_pick (hr.mono (by decide)) (takes_of rfl rfl rfl rfl) (pa_cons (pv 0) (pa_cons (pe_op op_cat (pv 4) (pe_lst (pa_cons (pe_op op_cat (pe_op op_rep (pe_lst (pa_cons pe_non pa_nil)) pe_int) (pe_lst (pa_cons (pv 2) pa_nil))) (pa_cons (pe_op op_cat (pe_op op_rep (pe_lst (pa_cons pe_non pa_nil)) pe_int) (pe_lst (pa_cons pe_str (pa_cons pe_str (pa_cons (pv 2) (pa_cons (pv 3) pa_nil)))))) (pa_cons (pe_lst (pa_cons pe_non (pa_cons pe_str pa_nil))) pa_nil))))) pa_nil))) (pg_name (i := 5) sc_law_drawn_floor.nd rfl (by first | exact Or.inl rfl | exact Or.inr rfl)))
    (pss_one (ps_ret (pe_tuple tx.bt (pe_lc (te := (tB1 (rTupQ K) (tLc (iRng1 (tCons (tOp (rIx K) (tVar 1) (tC (V.int 1))) tNil)) (gName 6) tYes (tCallS (sp_law_pick K mg CF) (WE (fun _ _ _ _ => False)) (tCons (tVar 0) (tCons (tVar 5) tNil))) [6]))) (own := [("y", 7)]) (g := (gName 7)) (tt := tYes) rfl sc_law_drawn_floor.nd (pi_range1 rfl tx.bt.range (pa_cons (pe_ix ix_seq (pv 1) pe_int (fun _ _ => rfl)) pa_nil)) (blkOk_by (own := [("y", 7)]) (N := ["store", "sizes", "one", "two", "lists", "items", "x", "y"]) (sc := defScope (top 92)) (by decide +kernel)) (fun _ _ _ _ _ => (pg_name (i := 7) sc_law_drawn_floor.nd rfl (by first | exact Or.inl rfl | exact Or.inr rfl))) (fun _ _ _ _ _ => pts_nil) (fun _ _ _ _ _ => (pe_tuple tx.bt (pe_lc (te := (tCallS (sp_law_pick K mg CF) (WE (fun _ _ _ _ => False)) (tCons (tVar 0) (tCons (tVar 5) tNil)))) (own := [("x", 6)]) (g := (gName 6)) (tt := tYes) rfl sc_law_drawn_floor.nd (pi_range1 rfl tx.bt.range (pa_cons (pe_ix ix_seq (pv 1) pe_int (fun _ _ => rfl)) pa_nil)) (blkOk_by (own := [("x", 6)]) (N := ["store", "sizes", "one", "two", "lists", "items", "x", "y"]) (by kernel_rfl)) (fun _ _ _ _ _ => (pg_name (i := 6) sc_law_drawn_floor.nd rfl (by first | exact Or.inl rfl | exact Or.inr rfl))) (fun _ _ _ _ _ => pts_nil) (fun _ _ _ _ _ => (pe_g G_law_pick (hr.mono (by decide)) takes0 (pa_cons (pv 0) (pa_cons (pv 5) pa_nil))))))))))))))))), ?_⟩
  try dsimp only [cxOf]
  obtain ⟨a, b, rfl, hok, q⟩ := h
  with_reducible apply s_seq
  -- the sides
  refine ⟨_, rfl, a, b, _, rfl, hok, small_lit (by decide) (by decide), fun r1 H1 m1 ok1 _ g1 => ⟨_, _, rfl, rfl, _, rfl, a, b, _, rfl, ok1, small_lit (by decide) (by decide), fun r2 H2 m2 ok2 _ g2 => ⟨_, _, rfl, rfl, Nat.le_of_ble_eq_true rfl, fun p hp => ?_⟩⟩⟩
  have g1 := g1 (by decide)
  have g2 := g2 (by decide)
  refine s_gN ?_
  dsimp only
  have s3 : Same H2 (upd H2 p (.tup [.int (1 + r1), .int (1 + r2)])) := same_new hp
  have m3 : Sm a H (upd H2 p (.tup [.int (1 + r1), .int (1 + r2)])) := (m1.trans m2).trans s3.sm
  have ok3 := ok2.same s3
  have hs3 : Is K (upd H2 p (.tup [.int (1 + r1), .int (1 + r2)])) (.ref p) (.im (.tup [.int (1 + r1), .int (1 + r2)])) := Im.new hp (.cons (.int _) (.cons (.int _) .nil))
  generalize upd H2 p (.tup [.int (1 + r1), .int (1 + r2)]) = H3 at m3 ok3 hs3 s3
  refine s_cut (fun σ' H' => ∃ (v1 : V) (hh ww : Nat), σ' = [some (.ref a), some v1, none, none, none, none, none, none] ∧ Sm a H H' ∧ StoreOk H' a b ∧ Is K H' v1 (.im (.tup [.int (hh : Int), .int (ww : Int)])) ∧ (1 ≤ hh ∧ hh ≤ 14) ∧ (1 ≤ ww ∧ ww ≤ 14)) ?_ fun k1 => ?_
  rotate_left
  · refine ⟨_, rfl, a, b, _, rfl, ok3, small_lit (by decide) (by decide), fun c H4 m4 ok4 => ⟨c, rfl, ?_⟩⟩
    cases c with
    | false =>
      refine iteF (s_next (k1 _ _ ⟨.ref p, (1 + r1).toNat, (1 + r2).toNat, rfl, m3.trans m4, ok4, ?_, by omega, by omega⟩))
      rw [Int.toNat_of_nonneg (by omega), Int.toNat_of_nonneg (by omega)]
      exact m4.isS ok3 hs3
    | true =>
      refine iteT ?_
      refine ⟨_, rfl, n_lst (K := K) (ts := sizeL.map fun s => T.tup [.int (s.1 : Nat), .int (s.2 : Nat)]) (a_cons (e_tup (ts := [.int 1, .int 14]) (a_cons e_int (a_cons e_int a_nil)) (by rfl) (by decide)) (a_cons (e_tup (ts := [.int 14, .int 1]) (a_cons e_int (a_cons e_int a_nil)) (by rfl) (by decide)) (a_cons (e_tup (ts := [.int 7, .int 7]) (a_cons e_int (a_cons e_int a_nil)) (by rfl) (by decide)) (a_cons (e_tup (ts := [.int 2, .int 12]) (a_cons e_int (a_cons e_int a_nil)) (by rfl) (by decide)) (a_cons (e_tup (ts := [.int 14, .int 14]) (a_cons e_int (a_cons e_int a_nil)) (by rfl) (by decide)) a_nil))))) (by rfl) (by decide) H4 (Same.refl _) _ fun p5 vs5 H5 hp5 s5 e5 im5 => ?_⟩
      refine ⟨a, b, p5, vs5, rfl, ok4.same s5, .inl (.inl (.inl e5)), (fun z => by rw [z] at im5; have := im5.length; cases this), by rw [im5.length]; decide, fun v H6 hv m6 ok6 => ?_⟩
      obtain ⟨t, ht, iv⟩ := ims_mem im5 hv
      obtain ⟨sz, hsz, rfl⟩ := List.mem_map.mp ht
      have hb : (1 ≤ sz.1 ∧ sz.1 ≤ 14) ∧ (1 ≤ sz.2 ∧ sz.2 ≤ 14) := by
        have all : ∀ s ∈ sizeL, (1 ≤ s.1 ∧ s.1 ≤ 14) ∧ (1 ≤ s.2 ∧ s.2 ≤ 14) := by decide
        exact all sz hsz
      exact k1 _ _ ⟨v, sz.1, sz.2, rfl, m3.trans (m4.trans (s5.sm.trans m6)), ok6, m6.isS (ok4.same s5) (show Is K H5 v (.im _) from iv), hb.1, hb.2⟩
  rintro σ' H4 ⟨v1, hh, ww, rfl, m4, ok4, h14, hh1, hw1⟩
  with_reducible apply s_seq
  refine ⟨_, rfl, _, rfl, a, b, _, _, rfl, ok4, small_lit (by decide) (by decide), fun one H5 m5 ok5 _ _ => ?_⟩
  refine s_gN ?_
  dsimp only
  have h15 := m5.isS ok4 h14
  with_reducible apply s_seq
  have cp : CPow 10 28 := ⟨by decide, by decide, by decide⟩
  refine ⟨_, rfl, _, rfl, _, _, rfl, rfl, cp, _, _, rfl, rfl, cp, _, _, rfl, rfl, _, rfl, a, b, _, _, rfl, ok5, small_lit (by decide) (by decide), fun z H6 m6 ok6 _ _ => ⟨Nat.le_of_ble_eq_true rfl, fun p7 hp7 => ?_⟩⟩
  refine ⟨a, b, p7, _, rfl, ok6.same (same_new hp7), .inl (.inl (.inl upd_same)), (fun z => by cases z), Nat.le_of_ble_eq_true rfl, fun v H7 hv m7 ok7 => ?_⟩
  obtain ⟨two, rfl⟩ : ∃ t, v = .int t := by
    simp only [List.mem_cons, List.not_mem_nil, or_false] at hv
    rcases hv with z | z | z | z | z | z <;> exact ⟨_, z⟩
  refine s_gN ?_
  dsimp only
  have h17 : Is K H7 v1 _ := m7.isS (ok6.same (same_new hp7)) ((same_new hp7).is (m6.isS ok5 h15))
  have m07 : Sm a H H7 := m4.trans (m5.trans (m6.trans ((same_new hp7).sm.trans m7)))
  with_reducible apply s_seq
  refine e_lists K (n := 5) ?_ (by decide) fun l lv H9 s79 _ e9 ll hl9 => ?_
  · refine al_cons (is := [.free, .num one]) ?_ (fun z => by cases z) (Nat.le_of_ble_eq_true rfl) ?_
    · exact n_lst (a_cons e_non (a_cons (e_vint rfl) a_nil)) (by rfl) (Nat.le_of_ble_eq_true rfl)
    refine al_cons (is := [.free, .free, .num one, .num two, .num 0]) ?_ (fun z => by cases z) (Nat.le_of_ble_eq_true rfl) ?_
    · exact n_lst (a_cons e_non (a_cons e_non (a_cons (e_vint rfl) (a_cons (e_vint rfl) (a_cons e_int a_nil))))) (by rfl) (Nat.le_of_ble_eq_true rfl)
    refine al_cons (is := [.free, .free, .wall, .num one, .num two]) ?_ (fun z => by cases z) (Nat.le_of_ble_eq_true rfl) ?_
    · exact n_lst (a_cons e_non (a_cons e_non (a_cons e_str (a_cons (e_vint rfl) (a_cons (e_vint rfl) a_nil))))) (by rfl) (Nat.le_of_ble_eq_true rfl)
    refine al_cons (is := [.wall, .free, .num one]) ?_ (fun z => by cases z) (Nat.le_of_ble_eq_true rfl) ?_
    · exact n_lst (a_cons e_str (a_cons e_non (a_cons (e_vint rfl) a_nil))) (by rfl) (Nat.le_of_ble_eq_true rfl)
    refine al_cons (is := [.num one, .num two, .num 3]) ?_ (fun z => by cases z) (Nat.le_of_ble_eq_true rfl) al_nil
    · exact n_lst (a_cons (e_vint rfl) (a_cons (e_vint rfl) (a_cons e_int a_nil))) (by rfl) (Nat.le_of_ble_eq_true rfl)
  refine s_gN ?_
  dsimp only
  have ok9 := ok7.same s79
  have h19 := s79.is h17
  with_reducible apply s_seq
  refine ⟨_, rfl, _, rfl, ?_⟩
  refine e_lists K (n := 3) ?_ (by decide) fun l2 lv2 H11 s911 _ e2 ll2 hl2 => ?_
  · refine al_cons (is := (List.replicate 9 [Item.free]).flatten ++ [.num one]) ?_ (fun z => by cases z) (Nat.le_of_ble_eq_true rfl) ?_
    · exact n_cat (n_rep (k := 9) (ts := [.non]) (n_lst (a_cons e_non a_nil) (by rfl) (Nat.le_of_ble_eq_true rfl)) (by decide) (by decide)) (n_lst (ts := [.int one]) (a_cons (e_vint rfl) a_nil) (by rfl) (Nat.le_of_ble_eq_true rfl)) (Nat.le_of_ble_eq_true rfl)
    refine al_cons (is := (List.replicate 12 [Item.free]).flatten ++ [.wall, .wall, .num one, .num two]) ?_ (fun z => by cases z) (Nat.le_of_ble_eq_true rfl) ?_
    · exact n_cat (n_rep (k := 12) (ts := [.non]) (n_lst (a_cons e_non a_nil) (by rfl) (Nat.le_of_ble_eq_true rfl)) (by decide) (by decide)) (n_lst (ts := [.str "#", .str "#", .int one, .int two]) (a_cons e_str (a_cons e_str (a_cons (e_vint rfl) (a_cons (e_vint rfl) a_nil)))) (by rfl) (Nat.le_of_ble_eq_true rfl)) (Nat.le_of_ble_eq_true rfl)
    refine al_cons (is := [.free, .wall]) ?_ (fun z => by cases z) (Nat.le_of_ble_eq_true rfl) al_nil
    · exact n_lst (a_cons e_non (a_cons e_str a_nil)) (by rfl) (Nat.le_of_ble_eq_true rfl)
  refine ⟨l, l2, lv, lv2, rfl, rfl, s911 _ _ e9, e2, by rw [ll, ll2]; decide, fun l3 hln3 => ?_⟩
  have s12 : Same H11 (upd H11 l3 (.lst (lv ++ lv2))) := same_new hln3
  have s912 : Same H9 (upd H11 l3 (.lst (lv ++ lv2))) := s911.trans s12
  refine ⟨a, b, l3, lv ++ lv2, rfl, ok9.same s912, .inl (.inl (.inl upd_same)), (fun z => by have := congrArg List.length z; rw [List.length_append, ll] at this; simp at this), by rw [List.length_append, ll, ll2]; decide, fun vi H13 hvi m13 ok13 => ?_⟩
  refine s_gN ?_
  dsimp only
  have lvi : LV H13 vi := by
    refine LV.sm m13 (ok9.same s912) ?_
    rcases List.mem_append.mp hvi with z | z
    · exact (hl9 vi z).same s912
    · exact (hl2 vi z).same s12
  have h113 : Is K H13 v1 (.im (.tup [.int (hh : Int), .int (ww : Int)])) := m13.isS (ok9.same s912) (s912.is h19)
  have m013 : Sm a H H13 := m07.trans (s79.sm.trans (s912.sm.trans m13))
  obtain ⟨qi, is, rfl, eqi, nei, leni⟩ := lvi
  clear s912 s12 s911 hl2 hl9 hvi
  -- the rows
  refine s_retI (b1_i (s_lcR K (j := (hh : Int)) ?_ (by omega) fun H14 s14 D hD => ?_))
  · exact a_cons (e_ix (ts := [.int (hh : Int), .int (ww : Int)]) (Ev.sq_im (e_var rfl h113)) e_int (by rfl)) a_nil
  have ok14 := ok13.same s14
  obtain ⟨nDa, nDb⟩ := ok14.apart hD
  have eq14 := s14 _ _ eqi
  have h114 := s14.is h113
  have nqa : qi ≠ a := fun z => by
    obtain ⟨kvs, ea⟩ := ok14.dk
    rw [z, ea] at eq14
    cases eq14
  rw [show ((hh : Int)).toNat = hh by omega]
  refine ⟨fun i H' => Sm a H14 H' ∧ StoreOk H' a b ∧ ∃ (acc : List V) (rows : List (List Item)), H' D = some (.lst acc) ∧ Ims K H' acc (rows.map fun r => T.tup (r.map Item.t)) ∧ rows.length = i ∧ ∀ r ∈ rows, r.length = ww, ?_, ?_, ?_⟩
  · exact ⟨(same_new hD).sm, ok14.upd nDa nDb, [], [], upd_same, .nil, rfl, fun r hr => absurd hr List.not_mem_nil⟩
  · rintro i H15 hi ⟨m15, ok15, acc, rows, e15, im15, l15, w15⟩
    refine ⟨rfl, ?_⟩
    have lacc : acc.length = i := by rw [im15.length, List.length_map, l15]
    refine b1_i (s_lcR K (j := (ww : Int)) ?_ (by omega) fun H16 s16 D2 hD2 => ?_)
    · exact a_cons (e_ix (ts := [.int (hh : Int), .int (ww : Int)]) (Ev.sq_im (e_var rfl (m15.isS ok14 h114))) e_int (by rfl)) a_nil
    have ok16 := ok15.same s16
    obtain ⟨n2a, n2b⟩ := ok16.apart hD2
    have nDD : D ≠ D2 := fun z => by rw [← z] at hD2; rw [s16 _ _ e15] at hD2; cases hD2
    have nq2 : qi ≠ D2 := fun z => by rw [← z] at hD2; rw [s16 _ _ (m15 qi _ nqa eq14)] at hD2; cases hD2
    rw [show ((ww : Int)).toNat = ww by omega]
    refine ⟨fun j H' => Sm a H16 H' ∧ StoreOk H' a b ∧ ∃ is' : List Item, H' D2 = some (.lst (is'.map Item.v)) ∧ is'.length = j, ?_, ?_, ?_⟩
    · exact ⟨(same_new hD2).sm, ok16.upd n2a n2b, [], upd_same, rfl⟩
    · rintro j H17 hj ⟨m17, ok17, is', e17, l17⟩
      refine ⟨rfl, ?_⟩
      have eq17 : H17 qi = some (.lst (is.map Item.v)) := m17 qi _ nqa (s16 _ _ (m15 qi _ nqa eq14))
      refine ⟨_, rfl, _, rfl, a, b, qi, is.map Item.v, rfl, ok17, .inl (.inl (.inl eq17)), (fun z => nei (List.map_eq_nil_iff.mp z)), by rw [List.length_map]; omega, fun w H18 hw m18 ok18 => ?_⟩
      obtain ⟨it, _, rfl⟩ := List.mem_map.mp hw
      have e18 := m18 D2 _ n2a e17
      refine ⟨is'.map Item.v, e18, lt_line (by rw [List.length_map]; omega), ?_, ok18.upd n2a n2b, is' ++ [it], by rw [upd_same, List.map_append]; rfl, by simp; omega⟩
      intro b' u nb hb'
      rw [upd_ne (ne_of_none hb' hD2)]
      exact m18 b' u nb (m17 b' u nb hb')
    · rintro H17 ⟨m17, ok17, is', e17, l17⟩
      refine ⟨D2, is'.map Item.v, rfl, .inl ⟨.inl (.inl e17), fun t ht => ?_⟩⟩
      have st : Same H17 (upd H17 t (.tup (is'.map Item.v))) := same_new ht
      have eD : H17 D = some (.lst acc) := m17 D _ nDa (s16 _ _ e15)
      have eD2 := st _ _ eD
      have kk : Keep H15 H17 := s16.keep.trans (m17.stayS (K := K) ok16).2
      have k9 : Keep (upd H17 t (.tup (is'.map Item.v))) (upd (upd H17 t (.tup (is'.map Item.v))) D (.lst (acc ++ [.ref t]))) := keep_lst eD2
      refine ⟨acc, eD2, lt_line (by omega), ?_, (ok17.same st).upd nDa nDb, acc ++ [.ref t], rows ++ [is'], upd_same, ?_, by simp; omega, fun r hr => ?_⟩
      · intro b' u nb hb'
        rw [upd_ne (ne_of_none hb' hD)]
        exact st _ _ (m17 b' u nb (s16 _ _ (m15 b' u nb hb')))
      · rw [List.map_append]
        refine (((im15.mono kk).mono st.keep).mono k9).snoc (Im.mono k9 (Im.new ht ?_))
        exact Ims.of_mem fun z _ => Item.im z
      · rcases List.mem_append.mp hr with z | z
        · exact w15 r z
        · rw [List.mem_singleton.mp z]
          exact l17
  · rintro H15 ⟨m15, ok15, acc, rows, e15, im15, l15, w15⟩
    refine ⟨D, acc, rfl, .inl ⟨.inl (.inl e15), fun t ht => ?_⟩⟩
    have st : Same H15 (upd H15 t (.tup acc)) := same_new ht
    obtain ⟨F, eF⟩ : ∃ F : Fl, F.rows = rows.map fun r => T.tup (r.map Item.t) := fl_of l15 w15 hh1 hw1
    refine q _ F _ (m013.trans (s14.sm.trans (m15.trans st.sm))) (ok15.same st) ?_
    rw [eF]
    exact Im.new ht im15
end
end TW

set_option Elab.async false
set_option linter.all false
set_option maxRecDepth 100000
set_option maxHeartbeats 4000000
namespace TW
open PySem PySem.Spec PyProof.Rows L2
local macro_rules | `(tactic| walk_at "ev") => `(tactic| repeat' (first
  | with_reducible exact e_int | with_reducible exact e_str | with_reducible exact e_bl | with_reducible exact e_non
  | exact e_vint rfl | exact e_vstr rfl | exact e_vbl rfl | exact e_vnon rfl | exact e_var rfl (by assumption)
  | exact e_sqv rfl (by assumption) | exact e_dkI rfl (by assumption) rfl
  | with_reducible apply e_call | with_reducible apply e_intc | with_reducible apply e_abs
  | with_reducible apply e_intop | with_reducible apply e_cmp | with_reducible apply e_intopC
  | with_reducible apply e_len | with_reducible apply e_pow | with_reducible apply e_min2 | with_reducible apply e_max2
  | with_reducible exact a_nil | with_reducible apply a_cons
  | with_reducible apply t_ofB | with_reducible apply t_of
  | (with_reducible apply mulR; omega) | (with_reducible apply mulL; omega) | (with_reducible show (_ < _); omega)))
section
variable {P : Program} {w : World} {K : PySem.W.Frag} {mg : Str → Option Value} {base : Heap} {CF : Addr}
theorem ite_c {c : Bool} {A B : Prop} (h1 : c = true → A) (h2 : c = false → B) : if c = true then A else B := by
  cases c with
  | true => exact iteT (h1 rfl)
  | false => exact iteF (h2 rfl)
theorem sc_law_drawn_word : FnScope ["store", "word"] ["store"] (defScope (top 91)) := ⟨rfl, rfl, rfl, by decide +kernel, rfl, by decide +kernel, by decide +kernel⟩
theorem ok_law_drawn_word {f : Addr} {fd : FuncData} (F : FunD K "_law_drawn_word" "_law_drawn_word" (defArgs (top 91)) (defBody (top 91)) (defScope (top 91)) [] [] f fd) (tx : Tx w K mg CF) (G_law_hit : Gf P w K mg base "_law_hit" 4 (sp_law_hit K mg CF)) (G_law_bad_order : Gf P w K mg base "_law_bad_order" 5 (sp_law_bad_order K mg CF)) (G_law_take : Gf P w K mg base "_law_take" 3 (sp_law_take K mg CF)) (G_law_pick : Gf P w K mg base "_law_pick" 4 (sp_law_pick K mg CF)) (G_law_counter : Gf P w K mg base "_law_counter" 1 (sp_law_counter K mg CF)) (G_law_word : Gf P w K mg base "_law_word" 6 (sp_law_word K mg CF)) : FnOk P w K mg base (L2.CX P w) 7 f fd ["store"] (sp_law_drawn_word K mg CF) := by
  refine F.ok sc_law_drawn_word (fun vs H Q E h => ?_) (fun cdv A outer s H vs Q E hr h => ?_)
  · first | (obtain ⟨_, rfl, _⟩ := h; rfl) | (obtain ⟨_, _, rfl, _⟩ := h; rfl) | (obtain ⟨_, _, _, rfl, _⟩ := h; rfl) | (obtain ⟨_, _, _, _, rfl, _⟩ := h; rfl) | (obtain ⟨_, _, _, _, _, rfl, _⟩ := h; rfl) | (obtain ⟨_, _, _, _, _, _, rfl, _⟩ := h; rfl) | (obtain ⟨_, _, _, _, _, _, _, rfl, _⟩ := h; rfl) | (obtain ⟨_, _, _, _, _, _, _, _, rfl, _⟩ := h; rfl) | exact spInit_len h rfl | exact spN_len h (by intro ds o hh; first | (obtain ⟨rfl, _⟩ := hh; rfl) | (obtain ⟨_, rfl, _⟩ := hh; rfl) | (obtain ⟨_, _, rfl, _⟩ := hh; rfl) | (obtain ⟨_, _, _, rfl, _⟩ := hh; rfl)) | exact spO_len h (by intro ds o hh; first | (obtain ⟨rfl, _⟩ := hh; rfl) | (obtain ⟨_, rfl, _⟩ := hh; rfl) | (obtain ⟨_, _, rfl, _⟩ := hh; rfl) | (obtain ⟨_, _, _, rfl, _⟩ := hh; rfl) | (obtain ⟨_, _, _, _, rfl, _⟩ := hh; rfl) | (obtain ⟨_, _, _, _, _, rfl, _⟩ := hh; rfl) | (obtain ⟨_, _, _, _, _, _, rfl, _⟩ := hh; rfl))
  refine ⟨_, (pss_cons (ps_asg (pe_g G_law_word (hr.mono (by decide)) (takes_of rfl rfl rfl rfl) (pa_cons (pv 0) (pa_cons pe_int pa_nil))) (pg_name (i := 1) sc_law_drawn_word.nd rfl (by first | exact Or.inl rfl | exact Or.inr rfl)))
    (pss_cons (ps_if (pt_val (pe_g G_law_hit (hr.mono (by decide)) (takes_of rfl rfl rfl rfl) (pa_cons (pv 0) (pa_cons pe_int pa_nil))))
    (pss_one (ps_asg (pe_op op_cat (pv 1) (pe_lst (pa_cons (pe_g G_law_counter (hr.mono (by decide)) (takes_of rfl rfl rfl rfl) (pa_cons (pe_g G_law_pick (hr.mono (by decide)) (takes_of rfl rfl rfl rfl) (pa_cons (pv 0) (pa_cons (pe_op op_cat (pv 1) (pe_lst (pa_cons pe_str pa_nil))) pa_nil))) pa_nil)) pa_nil))) (pg_name (i := 1) sc_law_drawn_word.nd rfl (by first | exact Or.inl rfl | exact Or.inr rfl))))
    pss_nil)
    (pss_cons (ps_if (PW.pt (pw_and (pt_cmpR op_gt (pe_len tx.bt (pv 1)) pe_int (nomark _)) (pw_and1 (pt_val (pe_g G_law_hit (hr.mono (by decide)) (takes_of rfl rfl rfl rfl) (pa_cons (pv 0) (pa_cons pe_int pa_nil)))))))
    (pss_one (ps_asg (pe_slice sl_list (pe_op op_rep (pv 1) pe_int) po_none (po_some (pe_g G_law_pick (hr.mono (by decide)) (takes_of rfl rfl rfl rfl) (pa_cons (pv 0) (pa_cons (pe_lst (pa_cons pe_int (pa_cons pe_int pa_nil))) pa_nil))))) (pg_name (i := 1) sc_law_drawn_word.nd rfl (by first | exact Or.inl rfl | exact Or.inr rfl))))
    pss_nil)
    (pss_cons (ps_if (pt_val (pe_g G_law_hit (hr.mono (by decide)) (takes_of rfl rfl rfl rfl) (pa_cons (pv 0) (pa_cons pe_int pa_nil))))
    (pss_one (ps_expr (pe_bm PySem.F.plainAttrs_list PySem.F.slot_list_insert PySem.F.type_list_insert mt_insert (pv 1) (pa_cons (pe_g G_law_take (hr.mono (by decide)) (takes_of rfl rfl rfl rfl) (pa_cons (pv 0) (pa_cons (pe_op op_add (pe_len tx.bt (pv 1)) pe_int) pa_nil))) (pa_cons (pe_g G_law_bad_order (hr.mono (by decide)) (takes_of rfl rfl rfl rfl) (pa_cons (pv 0) pa_nil)) pa_nil)))))
    pss_nil)
    (pss_one (ps_ret (pv 1))))))), ?_⟩
  try dsimp only [cxOf]
  obtain ⟨a, b, rfl, hok, q⟩ := h
  with_reducible apply s_seq
  refine ⟨_, rfl, a, b, _, rfl, hok, by decide, by decide, fun p os H1 hp m1 ok1 e1 l1 => ?_⟩
  refine s_gN ?_
  dsimp only
  obtain ⟨npa, npb⟩ := hok.apart hp
  refine s_cut (fun σ' H' => ∃ (p : Addr) (ws : List Ord), σ' = [some (.ref a), some (.ref p)] ∧ H p = none ∧ p ≠ a ∧ p ≠ b ∧ Sm a H H' ∧ StoreOk H' a b ∧ H' p = some (.lst (ws.map fun o => V.str o.str)) ∧ ws.length ≤ 6) ?_ fun k1 => ?_
  rotate_left
  · refine ⟨_, rfl, a, b, _, rfl, ok1, small_lit (by decide) (by decide), fun c H2 m2 ok2 => ⟨c, rfl, ?_⟩⟩
    have e2 := m2 p _ npa e1
    cases c with
    | false => exact iteF (s_next (k1 _ _ ⟨p, os, rfl, hp, npa, npb, m1.trans m2, ok2, e2, by omega⟩))
    | true =>
      refine iteT ?_
      refine ⟨_, rfl, _, rfl, _, rfl, Nat.le_of_ble_eq_true rfl, fun p2 hp2 => ⟨p, p2, _, _, rfl, rfl, (same_new hp2) _ _ e2, upd_same, by rw [List.length_map]; exact Nat.le_of_lt (small1000 (by show _ + 1 ≤ _; omega)), fun p3 hp3 => ?_⟩⟩
      have s3 := (same_new (o := HO.lst [V.str (Str.ofString "rul")]) hp2).trans (same_new (o := HO.lst (os.map (fun o => V.str o.str) ++ [V.str (Str.ofString "rul")])) hp3)
      refine ⟨a, b, p3, _, rfl, ok2.same s3, .inl (.inl (.inl upd_same)), (fun z => by cases List.append_eq_nil_iff.mp z with | intro _ z => cases z), by rw [List.length_append, List.length_map]; show _ + 1 ≤ _; omega, fun v H3 hv m3 ok3 => ?_⟩
      obtain ⟨o', rfl⟩ : ∃ o : Ord, v = .str o.str := by
        rcases List.mem_append.mp hv with z | z
        · obtain ⟨o, _, rfl⟩ := List.mem_map.mp z
          exact ⟨o, rfl⟩
        · have e : ∃ o ∈ orders, o.str = Str.ofString "rul" := by decide
          obtain ⟨o, _, eo⟩ := e
          exact ⟨o, by rw [List.mem_singleton.mp z, eo]⟩
      refine ⟨[.im (.str o'.str)], _, .cons (.str _) .nil, ⟨o', rfl, rfl⟩, fun v H4 s4 hv4 => ?_⟩
      rw [hv4.sv]
      refine ⟨Nat.le_of_ble_eq_true rfl, fun p4 hp4 => ?_⟩
      have e4 : H4 p = some (.lst (os.map fun o => V.str o.str)) := s4 _ _ (m3 p _ npa (s3 _ _ e2))
      refine ⟨p, p4, _, _, rfl, rfl, (same_new hp4) _ _ e4, upd_same, by rw [List.length_map]; exact Nat.le_of_lt (small1000 (by show _ + 1 ≤ _; omega)), fun p5 hp5 => ?_⟩
      refine s_gN ?_
      dsimp only
      have s5 := (same_new (o := HO.lst [V.str o'.opp.str]) hp4).trans (same_new (o := HO.lst (os.map (fun o => V.str o.str) ++ [V.str o'.opp.str])) hp5)
      have m05 : Sm a H _ := m1.trans (m2.trans (s3.sm.trans (m3.trans (s4.trans s5).sm)))
      have hp50 : H p5 = none := (m1.trans (m2.trans (s3.sm.trans (m3.trans (s4.trans (same_new (o := HO.lst [V.str o'.opp.str]) hp4)).sm)))).free (fun z => by
        obtain ⟨kvs, ek⟩ := (ok3.same (s4.trans (same_new (o := HO.lst [V.str o'.opp.str]) hp4))).dk
        rw [← z, hp5] at ek
        cases ek) hp5
      obtain ⟨n5a, n5b⟩ := hok.apart hp50
      exact (k1 _ _ ⟨p5, os ++ [o'.opp], rfl, hp50, n5a, n5b, m05, ok3.same (s4.trans s5), by rw [upd_same, List.map_append]; rfl, by simp; omega⟩)
  rintro σ' H4 ⟨p, ws, rfl, hp, npa, npb, m4, ok4, e4, l4⟩
  refine s_cut (fun σ' H' => ∃ (p : Addr) (ws : List Ord), σ' = [some (.ref a), some (.ref p)] ∧ H p = none ∧ p ≠ a ∧ p ≠ b ∧ Sm a H H' ∧ StoreOk H' a b ∧ H' p = some (.lst (ws.map fun o => V.str o.str)) ∧ ws.length ≤ 37) ?_ fun k2 => ?_
  rotate_left
  · refine ⟨_, rfl, p, _, rfl, .inl (.inl (.inl e4)), _, _, rfl, rfl, _, rfl, ite_c (fun hz => ?_) (fun _ => iteF (k2 _ _ ⟨p, ws, rfl, hp, npa, npb, m4, ok4, e4, by omega⟩))⟩
    refine ⟨_, rfl, a, b, _, rfl, ok4, small_lit (by decide) (by decide), fun c H5 m5 ok5 => ⟨c, rfl, ?_⟩⟩
    have e5 := m5 p _ npa e4
    refine ite_c (fun _ => ?_) (fun _ => k2 _ _ ⟨p, ws, rfl, hp, npa, npb, m4.trans m5, ok5, e5, by omega⟩)
    refine ⟨_, rfl, p, 37, _, rfl, rfl, e5, by decide, by decide, by rw [List.length_map]; exact Nat.le_of_lt (small1000 (by show _ * 37 ≤ _; omega)), fun p2 hp2 => ?_⟩
    refine ⟨_, rfl, Nat.le_of_ble_eq_true rfl, fun p3 hp3 => ?_⟩
    refine ⟨a, b, p3, _, rfl, (ok5.same (same_new hp2)).same (same_new hp3), .inl (.inl (.inl upd_same)), (fun z => by cases z), Nat.le_of_ble_eq_true rfl, fun v H6 hv m6 ok6 => ?_⟩
    obtain ⟨j, rfl, hj0, hj1⟩ : ∃ j : Nat, v = .int (j : Int) ∧ 36 ≤ j ∧ j ≤ 37 := by
      simp only [List.mem_cons, List.not_mem_nil, or_false] at hv
      rcases hv with z | z
      · exact ⟨36, z, by omega, by omega⟩
      · exact ⟨37, z, by omega, by omega⟩
    obtain ⟨n2a, n2b⟩ := ok5.apart hp2
    have e6 := m6 p2 _ n2a ((same_new hp3) _ _ upd_same)
    refine ⟨_, rfl, p2, _, rfl, .inl (.inl e6), fun p4 hp4 => ?_⟩
    refine s_gN ?_
    dsimp only
    have m06 : Sm a H H6 := m4.trans (m5.trans (((same_new hp2).trans (same_new hp3)).sm.trans m6))
    obtain ⟨n4a, n4b⟩ := ok6.apart hp4
    refine k2 _ _ ⟨p4, (List.replicate 37 ws).flatten.take j, rfl, m06.free n4a hp4, n4a, n4b, m06.trans (same_new hp4).sm, ok6.same (same_new hp4), ?_, by rw [List.length_take]; omega⟩
    rw [upd_same, List.map_take, List.map_flatten, List.map_replicate]
    unfold cutV
    rw [HT.sIx_none, HT.sIx_nat, List.drop_zero, Nat.sub_zero]
    refine congrArg some (congrArg HO.lst ?_)
    rw [show Int.toNat 37 = 37 from rfl, List.take_eq_take_iff]
    omega
  rintro σ' H5 ⟨p, ws, rfl, hp, npa, npb, m5, ok5, e5, l5⟩
  refine s_cut (fun σ' H' => ∃ (ws : List Str), σ' = [some (.ref a), some (.ref p)] ∧ Sm a H H' ∧ StoreOk H' a b ∧ H' p = some (.lst (ws.map V.str)) ∧ GoodWord ws) ?_ fun k3 => ?_
  rotate_left
  · refine ⟨_, rfl, a, b, _, rfl, ok5, small_lit (by decide) (by decide), fun c H6 m6 ok6 => ⟨c, rfl, ?_⟩⟩
    have e6 := m6 p _ npa e5
    cases c with
    | false => exact iteF (s_next (k3 _ _ ⟨ws.map Ord.str, rfl, m5.trans m6, ok6, by rw [e6, List.map_map]; rfl, by rw [List.length_map]; omega, fun x hx => .inl (by obtain ⟨o, _, rfl⟩ := List.mem_map.mp hx; exact ord_mem o)⟩))
    | true =>
      refine iteT ?_
      refine ⟨_, rfl, .inl ⟨rfl, _, .inl (.inl e6)⟩, ?_⟩
      refine ⟨_, rfl, _, rfl, p, _, rfl, .inl (.inl (.inl e6)), _, _, rfl, rfl, a, b, _, rfl, ok6, small_lit (by rw [List.length_map]; omega) (by rw [List.length_map]; omega), fun r H7 m7 ok7 r0 r1 => ?_⟩
      have hr2 : 0 ≤ r ∧ r ≤ ws.length := by
        rw [List.length_map] at r0 r1
        by_cases z : ((ws.length : Nat) : Int) + 1 < 2
        · have := r0 z
          omega
        · have := r1 (by omega)
          omega
      refine ⟨_, rfl, a, b, rfl, ok7, fun x H8 hx m8 ok8 => ?_⟩
      have e8 := m8 p _ npa (m7 p _ npa e6)
      refine ⟨p, _, r, .str x, rfl, rfl, e8, lt_line (by rw [List.length_map]; omega), by omega, by omega, ?_⟩
      refine k3 _ _ ⟨(ws.map Ord.str).take r.toNat ++ [x] ++ (ws.map Ord.str).drop r.toNat, rfl, ?_, ok8.upd npa npb, ?_, ?_⟩
      · intro b' u nb hb
        rw [upd_ne (ne_of_none hb hp)]
        exact (m5.trans (m6.trans (m7.trans m8))) b' u nb hb
      · rw [upd_same, List.map_append, List.map_append, List.map_take, List.map_drop, List.map_map]
        rfl
      · refine ⟨?_, fun y hy => ?_⟩
        · rw [List.length_append, List.length_append, List.length_take, List.length_drop, List.length_map, List.length_singleton]
          omega
        · have hmem : ∀ y ∈ ws.map Ord.str, y ∈ orderStrs := fun y hy => by
            obtain ⟨o, _, rfl⟩ := List.mem_map.mp hy
            exact ord_mem o
          rcases List.mem_append.mp hy with z | z
          · rcases List.mem_append.mp z with z | z
            · exact .inl (hmem y (List.mem_of_mem_take z))
            · rw [List.mem_singleton.mp z]
              exact .inr hx
          · exact .inl (hmem y (List.mem_of_mem_drop z))
  rintro σ' H7 ⟨ws, rfl, m7, ok7, e7, g7⟩
  exact s_retI ⟨_, rfl, q p ws H7 hp m7 ok7 e7 g7⟩
end
end TW

set_option Elab.async false
set_option linter.all false
set_option maxRecDepth 100000
set_option maxHeartbeats 4000000
namespace TW
open PySem PySem.Spec PyProof.Rows L2
local macro_rules | `(tactic| walk_at "ev") => `(tactic| repeat' (first
  | with_reducible exact e_int | with_reducible exact e_str | with_reducible exact e_bl | with_reducible exact e_non
  | exact e_vint rfl | exact e_vstr rfl | exact e_vbl rfl | exact e_vnon rfl | exact e_var rfl (by assumption)
  | exact e_sqv rfl (by assumption) | exact e_dkI rfl (by assumption) rfl
  | with_reducible apply e_call | with_reducible apply e_intc | with_reducible apply e_abs
  | with_reducible apply e_intop | with_reducible apply e_cmp | with_reducible apply e_intopC
  | with_reducible apply e_len | with_reducible apply e_pow | with_reducible apply e_min2 | with_reducible apply e_max2
  | with_reducible exact a_nil | with_reducible apply a_cons
  | with_reducible apply t_ofB | with_reducible apply t_of
  | (with_reducible apply mulR; omega) | (with_reducible apply mulL; omega) | (with_reducible show (_ < _); omega)))
section
variable {P : Program} {w : World} {K : PySem.W.Frag} {mg : Str → Option Value} {base : Heap} {CF : Addr}
theorem sc_law_same : FnScope ["actual", "expected", "k"] ["actual", "expected"] (defScope (top 64)) := ⟨rfl, rfl, rfl, by decide +kernel, rfl, by decide +kernel, by decide +kernel⟩
theorem ok_law_same {d : Nat} {f : Addr} {fd : FuncData} (F : FunD K "_law_same" "_law_same" (defArgs (top 64)) (defBody (top 64)) (defScope (top 64)) [] [] f fd) (tx : Tx w K mg CF) (G_law_same : Gf P w K mg base "_law_same" (2 + d) (sp_law_same d K mg CF)) (G_law_is_integer : Gf P w K mg base "_law_is_integer" 1 (sp_law_is_integer K mg CF)) : FnOk P w K mg base (L2.CX P w) (2 + d + 1) f fd ["actual", "expected"] (sp_law_same (d + 1) K mg CF) := by
  refine F.ok sc_law_same (fun vs H Q E h => ?_) (fun cdv A outer s H vs Q E hr h => ?_)
  · first | (obtain ⟨_, rfl, _⟩ := h; rfl) | (obtain ⟨_, _, rfl, _⟩ := h; rfl) | (obtain ⟨_, _, _, rfl, _⟩ := h; rfl) | (obtain ⟨_, _, _, _, rfl, _⟩ := h; rfl) | (obtain ⟨_, _, _, _, _, rfl, _⟩ := h; rfl) | (obtain ⟨_, _, _, _, _, _, rfl, _⟩ := h; rfl) | (obtain ⟨_, _, _, _, _, _, _, rfl, _⟩ := h; rfl) | (obtain ⟨_, _, _, _, _, _, _, _, rfl, _⟩ := h; rfl) | exact spInit_len h rfl | exact spN_len h (by intro ds o hh; first | (obtain ⟨rfl, _⟩ := hh; rfl) | (obtain ⟨_, rfl, _⟩ := hh; rfl) | (obtain ⟨_, _, rfl, _⟩ := hh; rfl) | (obtain ⟨_, _, _, rfl, _⟩ := hh; rfl)) | exact spO_len h (by intro ds o hh; first | (obtain ⟨rfl, _⟩ := hh; rfl) | (obtain ⟨_, rfl, _⟩ := hh; rfl) | (obtain ⟨_, _, rfl, _⟩ := hh; rfl) | (obtain ⟨_, _, _, rfl, _⟩ := hh; rfl) | (obtain ⟨_, _, _, _, rfl, _⟩ := hh; rfl) | (obtain ⟨_, _, _, _, _, rfl, _⟩ := hh; rfl) | (obtain ⟨_, _, _, _, _, _, rfl, _⟩ := hh; rfl))
  refine ⟨_, (pss_cons (ps_if (pt_cmp (pc_isN (pv 1)) rfl)
    (pss_one (ps_ret (pe_cmp (pc_isN (pv 0)) rfl)))
    pss_nil)
    (pss_cons (ps_if (pt_cmpR op_isA (pv 1) pe_bl (nomark _))
    (pss_one (ps_ret (pe_cmpR op_isA (pv 0) pe_bl (nomark _))))
    pss_nil)
    (pss_cons (ps_if (pt_cmpR op_isA (pv 1) pe_bl (nomark _))
    (pss_one (ps_ret (pe_cmpR op_isA (pv 0) pe_bl (nomark _))))
    pss_nil)
    (pss_cons (ps_if (pt_val (pe_isi_int tx.bt (pv 1)))
    (pss_one (ps_ret (pe_and (pe_g G_law_is_integer (hr.mono (by omega)) (takes_of rfl rfl rfl rfl) (pa_cons (pv 0) pa_nil)) (pe_one (pe_cmpR (op_eqD hr.units) (pv 0) (pv 1) (nomark _))))))
    pss_nil)
    (pss_cons (ps_if (pt_val (pe_isi_str tx.bt (pv 1)))
    (pss_one (ps_ret (pe_and (pe_isi_str tx.bt (pv 0)) (pe_one (pe_cmpR (op_eqD hr.units) (pv 0) (pv 1) (nomark _))))))
    pss_nil)
    (pss_cons (ps_if (PW.pt (pw_and (pt_val (pe_isi_tuple tx.bt (pv 1))) (pw_and1 (pt_not (pt_val (pe_isi_tuple tx.bt (pv 0)))))))
    (pss_one (ps_ret pe_bl))
    pss_nil)
    (pss_cons (ps_if (PW.pt (pw_and (pt_val (pe_isi_list tx.bt (pv 1))) (pw_and1 (pt_not (pt_val (pe_isi_list tx.bt (pv 0)))))))
    (pss_one (ps_ret pe_bl))
    pss_nil)
    (pss_cons (ps_if (pt_cmpR (op_neD hr.units) (pe_len tx.bt (pv 0)) (pe_len tx.bt (pv 1)) (nomark _))
    (pss_one (ps_ret pe_bl))
    pss_nil)
    (pss_cons (ps_for (passes_of rfl) rfl (pi_range1 rfl tx.bt.range (pa_cons (pe_len tx.bt (pv 1)) pa_nil)) (pg_name (i := 2) sc_law_same.nd rfl (by first | exact Or.inl rfl | exact Or.inr rfl))
    (pss_one (ps_if (pt_not (pt_val (pe_g G_law_same (hr.mono (by omega)) (takes_of rfl rfl rfl rfl) (pa_cons (pe_ix ix_seq (pv 0) (pv 2) (fun _ _ => rfl)) (pa_cons (pe_ix ix_seq (pv 1) (pv 2) (fun _ _ => rfl)) pa_nil)))))
    (pss_one (ps_ret pe_bl))
    pss_nil)))
    (pss_one (ps_ret pe_bl))))))))))), ?_⟩
  try dsimp only [cxOf]
  obtain ⟨ds, o, hi, ⟨t, rfl, hl, rfl⟩, q⟩ := h
  obtain ⟨v1, v2, rfl, h1, h2⟩ := hi.two_inv
  with_reducible apply s_seq
  refine s_if K (b := t.isN) (t_of (e_isN (e_var rfl h2) rfl)) (fun z H1 s1 => ?_) (fun z1 H1 s1 => s_next ?_)
  · exact s_ret K (ev_eq (e_isN (e_var rfl (s1.is h1)) rfl) (by rw [z])) fun v H' s' hv => q v H' (s1.trans s') hv
  with_reducible apply s_seq
  refine s_if K (b := t.isB true) (t_ofB (e_isA (e_var rfl (s1.is h2)) rfl)) (fun z H2 s2 => ?_) (fun z2 H2 s2 => s_next ?_)
  · exact s_ret K (ev_eq (e_isA (e_var rfl (s2.is (s1.is h1))) rfl) (by rw [z])) fun v H' s' hv => q v H' (s1.trans (s2.trans s')) hv
  with_reducible apply s_seq
  refine s_if K (b := t.isB false) (t_ofB (e_isA (e_var rfl (s2.is (s1.is h2))) rfl)) (fun z H3 s3 => ?_) (fun z3 H3 s3 => s_next ?_)
  · exact s_ret K (ev_eq (e_isA (e_var rfl (s3.is (s2.is (s1.is h1)))) rfl) (by rw [z])) fun v H' s' hv => q v H' (s1.trans (s2.trans (s3.trans s'))) hv
  have s03 := s1.trans (s2.trans s3)
  have h13 := s03.is h1
  have h23 := s03.is h2
  cases t with
  | non => cases z1
  | bl b =>
    cases b with
    | true => cases z2
    | false => cases z3
  | int n =>
    with_reducible apply s_seq
    refine s_if K (b := true) (t_ofB (e_isi (e_var rfl h23) kit_int_int)) (fun z H4 s4 => ?_) (fun z => by cases z)
    have g1 := s4.is h13
    have g2 := s4.is h23
    exact s_ret K (ev_eq (e_and (e_call (R := R_law_is_integer) (a_cons (e_var rfl g1) a_nil) ⟨.int n, rfl, rfl⟩) fun _ => e_eq (e_var rfl g1) (e_var rfl g2) (by rfl) (by rfl)) (by rw [(T.beq_iff (t := .int n) (u := .int n) (by rfl) (by rfl)).mpr rfl]; rfl)) fun v H' s' hv => q v H' (s03.trans (s4.trans s')) hv
  | str n =>
    with_reducible apply s_seq
    refine s_if K (b := false) (t_ofB (e_isi (e_var rfl h23) kit_str_int)) (fun z => by cases z) (fun z H4 s4 => s_next ?_)
    with_reducible apply s_seq
    refine s_if K (b := true) (t_ofB (e_isi (e_var rfl (s4.is h23)) kit_str_str)) (fun z H5 s5 => ?_) (fun z => by cases z)
    have g1 := s5.is (s4.is h13)
    have g2 := s5.is (s4.is h23)
    exact s_ret K (ev_eq (e_and (e_isi (e_var rfl g1) kit_str_str) fun _ => e_eq (e_var rfl g1) (e_var rfl g2) hl.1 hl.1) (by rw [(T.beq_iff (t := .str n) (u := .str n) hl.2 hl.2).mpr rfl]; rfl)) fun v H' s' hv => q v H' (s03.trans (s4.trans (s5.trans s'))) hv
  | tup ts =>
    with_reducible apply s_seq
    refine s_if K (b := false) (t_ofB (e_isi (e_var rfl h23) kit_tup_int)) (fun z => by cases z) (fun z H4 s4 => s_next ?_)
    with_reducible apply s_seq
    refine s_if K (b := false) (t_ofB (e_isi (e_var rfl (s4.is h23)) kit_tup_str)) (fun z => by cases z) (fun z H5 s5 => s_next ?_)
    have s05 := s03.trans (s4.trans s5)
    with_reducible apply s_seq
    refine s_if K (b := (true && !true)) (t_and (t_ofB (e_isi (e_var rfl (s05.is h2)) kit_tup_tup)) fun _ => t_not (t_ofB (e_isi (e_var rfl (s05.is h1)) kit_tup_tup))) (fun z => by cases z) (fun z H6 s6 => s_next ?_)
    have s06 := s05.trans s6
    with_reducible apply s_seq
    refine s_if K (b := (false && true)) (t_and (t_ofB (e_isi (e_var rfl (s06.is h2)) kit_tup_list)) fun z => by cases z) (fun z => by cases z) (fun z H7 s7 => s_next ?_)
    have s07 := s06.trans s7
    with_reducible apply s_seq
    refine s_if K (b := false) (t_of (ev_eq (e_ne (e_len (Ev.sq_im (e_var rfl (s07.is h1)))) (e_len (Ev.sq_im (e_var rfl (s07.is h2)))) (by rfl) (by rfl)) (by rw [(T.beq_iff (t := .int _) (u := .int _) (by rfl) (by rfl)).mpr rfl]; rfl))) (fun z => by cases z) (fun z H8 s8 => s_next ?_)
    have s08 := s07.trans s8
    with_reducible apply s_seq
    refine for_rng K (j := (ts.length : Int)) (a_cons (e_len (Ev.sq_im (e_var rfl (s08.is h2)))) a_nil) (by have := hl.1; omega) (fun i σ' H' => ∃ a2, σ' = [some v1, some v2, a2] ∧ Same H H') ?_ ?_ ?_
    · exact fun H9 s9 => ⟨none, rfl, s08.trans s9⟩
    · rintro i σ' H9 hi ⟨a2, rfl, s09⟩
      have hit : i < ts.length := by omega
      have hx : atI ts (i : Int) = some ts[i] := atI_of (by omega) (by rw [Int.toNat_natCast]; exact List.getElem?_eq_getElem hit)
      have hlow : Low d ts[i] := hl.2 _ (List.getElem_mem hit)
      refine s_if K (b := !true) (t_not (t_ofB (e_call (R := R_law_same d) (a_cons (e_ix (Ev.sq_im (e_var rfl (s09.is h1))) (e_vint rfl) hx) (a_cons (e_ix (Ev.sq_im (e_var rfl (s09.is h2))) (e_vint rfl) hx) a_nil)) ⟨_, rfl, hlow, rfl⟩))) (fun z => by cases z) (fun z H10 s10 => s_next ?_)
      exact ⟨_, rfl, s09.trans s10⟩
    · rintro σ' H9 ⟨a2, rfl, s09⟩
      exact s_ret K e_bl fun v H' s' hv => q v H' (s09.trans s') hv
end
end TW

set_option Elab.async false
set_option linter.all false
set_option maxRecDepth 100000
set_option maxHeartbeats 4000000
namespace TW
open PySem PySem.Spec PyProof.Rows L2
local macro_rules | `(tactic| walk_at "ev") => `(tactic| repeat' (first
  | with_reducible exact e_int | with_reducible exact e_str | with_reducible exact e_bl | with_reducible exact e_non
  | exact e_vint rfl | exact e_vstr rfl | exact e_vbl rfl | exact e_vnon rfl | exact e_var rfl (by assumption)
  | exact e_sqv rfl (by assumption) | exact e_dkI rfl (by assumption) rfl
  | with_reducible apply e_call | with_reducible apply e_intc | with_reducible apply e_abs
  | with_reducible apply e_intop | with_reducible apply e_cmp | with_reducible apply e_intopC
  | with_reducible apply e_len | with_reducible apply e_pow | with_reducible apply e_min2 | with_reducible apply e_max2
  | with_reducible exact a_nil | with_reducible apply a_cons
  | with_reducible apply t_ofB | with_reducible apply t_of
  | (with_reducible apply mulR; omega) | (with_reducible apply mulL; omega) | (with_reducible show (_ < _); omega)))
section
variable {P : Program} {w : World} {K : PySem.W.Frag} {mg : Str → Option Value} {base : Heap} {CF : Addr}
theorem sc_law_holds : FnScope ["actual", "due", "expected"] ["actual", "due", "expected"] (defScope (top 86)) := ⟨rfl, rfl, rfl, by decide +kernel, rfl, by decide +kernel, by decide +kernel⟩
theorem ok_law_holds {f : Addr} {fd : FuncData} (F : FunD K "_law_holds" "_law_holds" (defArgs (top 86)) (defBody (top 86)) (defScope (top 86)) [] [] f fd) (tx : Tx w K mg CF) (G_law_same : Gf P w K mg base "_law_same" 6 (sp_law_same 4 K mg CF)) : FnOk P w K mg base (L2.CX P w) 7 f fd ["actual", "due", "expected"] (sp_law_holds K mg CF) := by
  refine F.ok sc_law_holds (fun vs H Q E h => ?_) (fun cdv A outer s H vs Q E hr h => ?_)
  · first | (obtain ⟨_, rfl, _⟩ := h; rfl) | (obtain ⟨_, _, rfl, _⟩ := h; rfl) | (obtain ⟨_, _, _, rfl, _⟩ := h; rfl) | (obtain ⟨_, _, _, _, rfl, _⟩ := h; rfl) | (obtain ⟨_, _, _, _, _, rfl, _⟩ := h; rfl) | (obtain ⟨_, _, _, _, _, _, rfl, _⟩ := h; rfl) | (obtain ⟨_, _, _, _, _, _, _, rfl, _⟩ := h; rfl) | (obtain ⟨_, _, _, _, _, _, _, _, rfl, _⟩ := h; rfl) | exact spInit_len h rfl | exact spN_len h (by intro ds o hh; first | (obtain ⟨rfl, _⟩ := hh; rfl) | (obtain ⟨_, rfl, _⟩ := hh; rfl) | (obtain ⟨_, _, rfl, _⟩ := hh; rfl) | (obtain ⟨_, _, _, rfl, _⟩ := hh; rfl)) | exact spO_len h (by intro ds o hh; first | (obtain ⟨rfl, _⟩ := hh; rfl) | (obtain ⟨_, rfl, _⟩ := hh; rfl) | (obtain ⟨_, _, rfl, _⟩ := hh; rfl) | (obtain ⟨_, _, _, rfl, _⟩ := hh; rfl) | (obtain ⟨_, _, _, _, rfl, _⟩ := hh; rfl) | (obtain ⟨_, _, _, _, _, rfl, _⟩ := hh; rfl) | (obtain ⟨_, _, _, _, _, _, rfl, _⟩ := hh; rfl))
  refine ⟨_, (pss_cons (ps_if (pt_cmp (pc_isN (pv 1)) rfl)
    (pss_one (ps_ret (pe_and (pe_cmpR (op_eqD hr.units) (pe_ix ix_seq (pv 0) pe_int (fun _ _ => rfl)) pe_str (nomark _)) (pe_one (pe_g G_law_same (hr.mono (by decide)) (takes_of rfl rfl rfl rfl) (pa_cons (pe_ix ix_seq (pv 0) pe_int (fun _ _ => rfl)) (pa_cons (pv 2) pa_nil)))))))
    pss_nil)
    (pss_one (ps_ret (pe_and (pe_cmpR (op_eqD hr.units) (pe_ix ix_seq (pv 0) pe_int (fun _ _ => rfl)) pe_str (nomark _)) (pe_one (pe_g G_law_same (hr.mono (by decide)) (takes_of rfl rfl rfl rfl) (pa_cons (pe_ix ix_seq (pv 0) pe_int (fun _ _ => rfl)) (pa_cons (pv 1) pa_nil)))))))), ?_⟩
  try dsimp only [cxOf]
  obtain ⟨ds, o, hi, ⟨p, d, e, rfl, ⟨t, hl, hc⟩, rfl⟩, q⟩ := h
  obtain ⟨v1, v2, v3, rfl, h1, h2, h3⟩ := hi.three_inv
  with_reducible apply s_seq
  rcases hc with ⟨rfl, rfl, rfl⟩ | ⟨hn, rfl, rfl⟩
  · refine s_if K (b := true) (t_of (e_isN (e_var rfl h2) rfl)) (fun _ H1 s1 => ?_) (fun z => by cases z)
    have g1 := s1.is h1
    have g3 := s1.is h3
    exact s_ret K (ev_eq (e_and (e_eq (e_ix (Ev.sq_im (e_var rfl g1)) e_int (by rfl)) e_str (by decide +kernel) (by decide +kernel)) fun _ => e_call (R := R_law_same 4) (a_cons (e_ix (Ev.sq_im (e_var rfl g1)) e_int (by rfl)) (a_cons (e_var rfl g3) a_nil)) ⟨_, rfl, hl, rfl⟩) (by rw [(T.beq_iff (t := .str "told") (u := .str "told") (by rfl) (by rfl)).mpr rfl]; rfl)) fun v H' s' hv => q v H' (s1.trans s') hv
  · refine s_if K (b := false) (t_of (e_isN (e_var rfl h2) hn.symm)) (fun z => by cases z) (fun _ H1 s1 => s_next ?_)
    have g1 := s1.is h1
    have g2 := s1.is h2
    exact s_ret K (ev_eq (e_and (e_eq (e_ix (Ev.sq_im (e_var rfl g1)) e_int (by rfl)) e_str (by decide +kernel) (by decide +kernel)) fun _ => e_call (R := R_law_same 4) (a_cons (e_ix (Ev.sq_im (e_var rfl g1)) e_int (by rfl)) (a_cons (e_var rfl g2) a_nil)) ⟨_, rfl, hl, rfl⟩) (by rw [(T.beq_iff (t := .str "refused") (u := .str "refused") (by rfl) (by rfl)).mpr rfl]; rfl)) fun v H' s' hv => q v H' (s1.trans s') hv
end
end TW

set_option Elab.async false
set_option linter.all false
set_option maxRecDepth 100000
set_option maxHeartbeats 4000000
namespace TW
open PySem PySem.Spec PyProof.Rows L2
local macro_rules | `(tactic| walk_at "ev") => `(tactic| repeat' (first
  | with_reducible exact e_int | with_reducible exact e_str | with_reducible exact e_bl | with_reducible exact e_non
  | exact e_vint rfl | exact e_vstr rfl | exact e_vbl rfl | exact e_vnon rfl | exact e_var rfl (by assumption)
  | exact e_sqv rfl (by assumption) | exact e_dkI rfl (by assumption) rfl
  | with_reducible apply e_call | with_reducible apply e_intc | with_reducible apply e_abs
  | with_reducible apply e_intop | with_reducible apply e_cmp | with_reducible apply e_intopC
  | with_reducible apply e_len | with_reducible apply e_pow | with_reducible apply e_min2 | with_reducible apply e_max2
  | with_reducible exact a_nil | with_reducible apply a_cons
  | with_reducible apply t_ofB | with_reducible apply t_of
  | (with_reducible apply mulR; omega) | (with_reducible apply mulL; omega) | (with_reducible show (_ < _); omega)))
section
variable {P : Program} {w : World} {K : PySem.W.Frag} {mg : Str → Option Value} {base : Heap} {CF : Addr}
theorem sc_law_word_due : FnScope ["mask", "word", "one", "row"] ["mask", "word"] (defScope (top 89)) := ⟨rfl, rfl, rfl, by decide +kernel, rfl, by decide +kernel, by decide +kernel⟩
theorem ok_law_word_due {f : Addr} {fd : FuncData} (F : FunD K "_law_word_due" "_law_word_due" (defArgs (top 89)) (defBody (top 89)) (defScope (top 89)) [] [] f fd) (tx : Tx w K mg CF) (G_law_is_ahead : Gf P w K mg base "_law_is_ahead" 2 (sp_law_is_ahead K mg CF)) (G_law_orders : Gf P w K mg base "_law_orders" 1 (sp_law_orders K mg CF)) : FnOk P w K mg base (L2.CX P w) 3 f fd ["mask", "word"] (sp_law_word_due K mg CF) := by
  refine F.ok sc_law_word_due (fun vs H Q E h => ?_) (fun cdv A outer s H vs Q E hr h => ?_)
  · first | (obtain ⟨_, rfl, _⟩ := h; rfl) | (obtain ⟨_, _, rfl, _⟩ := h; rfl) | (obtain ⟨_, _, _, rfl, _⟩ := h; rfl) | (obtain ⟨_, _, _, _, rfl, _⟩ := h; rfl) | (obtain ⟨_, _, _, _, _, rfl, _⟩ := h; rfl) | (obtain ⟨_, _, _, _, _, _, rfl, _⟩ := h; rfl) | (obtain ⟨_, _, _, _, _, _, _, rfl, _⟩ := h; rfl) | (obtain ⟨_, _, _, _, _, _, _, _, rfl, _⟩ := h; rfl) | exact spInit_len h rfl | exact spN_len h (by intro ds o hh; first | (obtain ⟨rfl, _⟩ := hh; rfl) | (obtain ⟨_, rfl, _⟩ := hh; rfl) | (obtain ⟨_, _, rfl, _⟩ := hh; rfl) | (obtain ⟨_, _, _, rfl, _⟩ := hh; rfl)) | exact spO_len h (by intro ds o hh; first | (obtain ⟨rfl, _⟩ := hh; rfl) | (obtain ⟨_, rfl, _⟩ := hh; rfl) | (obtain ⟨_, _, rfl, _⟩ := hh; rfl) | (obtain ⟨_, _, _, rfl, _⟩ := hh; rfl) | (obtain ⟨_, _, _, _, rfl, _⟩ := hh; rfl) | (obtain ⟨_, _, _, _, _, rfl, _⟩ := hh; rfl) | (obtain ⟨_, _, _, _, _, _, rfl, _⟩ := hh; rfl))
  refine ⟨_, (pss_cons (ps_for (passes_of rfl) rfl (pi_seq (pv 1)) (pg_name (i := 2) sc_law_word_due.nd rfl (by first | exact Or.inl rfl | exact Or.inr rfl))
    (pss_one (ps_if (pt_cmpR op_notIn_seq (pv 2) (pe_g0 G_law_orders (hr.mono (by decide)) passL) (by rfl))
    (pss_one (ps_ret (pe_tup (pa_cons pe_str (pa_cons (pv 2) pa_nil)))))
    pss_nil)))
    (pss_cons (ps_if (pt_cmpR (op_eqD hr.units) (pe_len tx.bt (pv 1)) pe_int (nomark _))
    (pss_one (ps_ret (pe_tup (pa_cons pe_str (pa_cons pe_str pa_nil)))))
    pss_nil)
    (pss_cons (ps_if (pt_cmpR op_gt (pe_len tx.bt (pv 1)) pe_int (nomark _))
    (pss_one (ps_ret (pe_tup (pa_cons pe_str (pa_cons pe_str (pa_cons pe_int pa_nil))))))
    pss_nil)
    (pss_cons (ps_for (passes_of rfl) rfl (pi_seq (pv 0)) (pg_name (i := 3) sc_law_word_due.nd rfl (by first | exact Or.inl rfl | exact Or.inr rfl))
    (pss_one (ps_if (pt_cmpR (op_eqD hr.units) (pe_len tx.bt (pe_lc (te := (tC (V.int 1))) (tt := (tB (tCallS (sp_law_is_ahead K mg CF) (WE (fun _ _ _ _ => False)) (tCons (tVar 2) (tCons (tTup (tCons (tOp (rIx K) (tVar 3) (tC (V.int 0))) (tCons (tOp (rIx K) (tVar 3) (tC (V.int 1))) tNil))) tNil))))) (own := [("one", 2)]) (g := (gName 2)) rfl sc_law_word_due.nd (pi_seq (pv 1)) (blkOk_by (own := [("one", 2)]) (N := ["mask", "word", "one", "row"]) (sc := defScope (top 89)) (by decide +kernel)) (fun _ _ _ _ _ => (pg_name (i := 2) sc_law_word_due.nd rfl (by first | exact Or.inl rfl | exact Or.inr rfl))) (fun _ _ _ _ _ => (pts_one (pt_val (pe_g G_law_is_ahead (hr.mono (by decide)) takes0 (pa_cons (pv 2) (pa_cons (pe_tup (pa_cons (pe_ix ix_seq (pv 3) pe_int (fun _ _ => rfl)) (pa_cons (pe_ix ix_seq (pv 3) pe_int (fun _ _ => rfl)) pa_nil))) pa_nil)))))) (fun _ _ _ _ _ => pe_int))) pe_int (nomark _))
    (pss_one (ps_ret (pe_tup (pa_cons pe_str (pa_cons pe_str pa_nil)))))
    pss_nil)))
    (pss_one (ps_ret pe_non)))))), ?_⟩
  try dsimp only [cxOf]
  obtain ⟨ds, o, hi, ⟨m, ws, rfl, hm, hl, rfl⟩, q⟩ := h
  obtain ⟨v1, v2, rfl, h1, h2⟩ := hi.two_inv
  with_reducible apply s_seq
  refine for_it0 (enc := T.str) (xs := ws) (H0 := H) K (i0_var rfl h2) (Same.refl H) (fun i σ' H' => ∃ a2, σ' = [some v1, some v2, a2, none] ∧ Same H H' ∧ ∀ x ∈ ws.take i, x ∈ orderStrs) ?_ ?_ ?_ ?_
  · exact fun H1 s1 => ⟨none, rfl, s1, fun x h => by simp at h⟩
  · rintro i σ' H' hi ⟨_, _, s, _⟩
    exact s.stay
  · rintro i x v σ' H1 H2 hx ⟨a2, rfl, s1, hw⟩ s2 im
    rw [im.str_inv]
    refine s_gN ?_
    have s12 := s1.trans s2
    refine s_if K (b := if true then !decide (x ∈ orderStrs) else decide (x ∈ orderStrs)) (t_of (e_inS (neg := true) (xs := orderStrs) (e_vstr rfl) (Ev.sq_im (e_call (R := R_law_orders) a_nil ⟨rfl, rfl⟩)))) (fun z H3 s3 => ?_) (fun z H3 s3 => s_next ?_)
    · have hx0 : x ∉ orderStrs := by simpa using z
      have e2 : dueT m ws = .tup [.str "BadOrder", .str x] := by
        have z : ws.find? (fun x => !decide (x ∈ orderStrs)) = some x := by
          rw [List.find?_eq_some_iff_getElem]
          obtain ⟨hlt, he⟩ := List.getElem?_eq_some_iff.mp hx
          refine ⟨by simpa using hx0, i, hlt, he, fun j hj => ?_⟩
          have : ws[j] ∈ ws.take i := by
            rw [List.mem_iff_getElem]
            exact ⟨j, by rw [List.length_take]; omega, by rw [List.getElem_take]⟩
          simpa using hw _ this
        unfold dueT
        rw [z]
      rw [e2] at q
      exact s_ret K (e_tup (ts := [.str "BadOrder", .str x]) (a_cons e_str (a_cons (e_vstr rfl) a_nil)) (by rfl) (Nat.le_of_ble_eq_true rfl)) fun v H' s' hv => q v H' (s12.trans (s3.trans s')) hv
    · have hx1 : x ∈ orderStrs := by simpa using z
      refine ⟨_, rfl, s12.trans s3, fun y hy => ?_⟩
      rw [List.take_add_one, hx] at hy
      rcases List.mem_append.mp hy with z | z
      · exact hw y z
      · have : y = x := by simpa using z
        rw [this]
        exact hx1
  · rintro σ' H1 ⟨a2, rfl, s1, hw⟩
    rw [List.take_length] at hw
    have e2 : dueT m ws = if ws.length = 0 then .tup [.str "Empty", .str "word"] else if 36 < ws.length then .tup [.str "TooMany", .str "word", .int 36] else
        if m.any fun m => !(orders.any fun a => decide (a.str ∈ ws) && a.fwd m) then .tup [.str "NotYes", .str "word"] else .non := by
      have z : ws.find? (fun x => !decide (x ∈ orderStrs)) = none := by
        rw [List.find?_eq_none]
        intro x hx
        simpa using hw x hx
      unfold dueT
      rw [z]
    rw [e2] at q
    with_reducible apply s_seq
    refine s_if K (b := decide (ws.length = 0)) (t_of (ev_eq (e_eq (e_len (e_var rfl (s1.is h2))) e_int (by rfl) (by rfl)) ?_)) (fun hb H2 s2 => ?_) (fun hb H2 s2 => s_next ?_)
    · rw [List.length_map]
      congr 2
      rw [Bool.eq_iff_iff, T.beq_iff (by rfl) (by rfl)]
      simp
    · have hn := of_decide_eq_true hb
      rw [if_pos hn] at q
      exact s_ret K (e_tup (ts := [.str "Empty", .str "word"]) (a_cons e_str (a_cons e_str a_nil)) (by rfl) (by decide)) fun v H' s' hv => q v H' (s1.trans (s2.trans s')) hv
    have n0 := of_decide_eq_false hb
    rw [if_neg n0] at q
    have s02 := s1.trans s2
    with_reducible apply s_seq
    refine s_if K (b := decide (36 < ((ws.map T.str).length : Int))) (t_of (e_cmp (f := fun i j => decide (j < i)) (e_len (e_var rfl (s02.is h2))) e_int)) (fun hb H3 s3 => ?_) (fun hb H3 s3 => s_next ?_)
    · have hn := of_decide_eq_true hb
      rw [List.length_map] at hn
      rw [if_pos (by omega)] at q
      exact s_ret K (e_tup (ts := [.str "TooMany", .str "word", .int 36]) (a_cons e_str (a_cons e_str (a_cons e_int a_nil))) (by rfl) (by decide)) fun v H' s' hv => q v H' (s02.trans (s3.trans s')) hv
    have n36 := of_decide_eq_false hb
    rw [List.length_map] at n36
    rw [if_neg (by omega)] at q
    have s03 := s02.trans s3
    obtain ⟨os, rfl⟩ := strs_ords hw
    have e3 : (if m.any (fun m => !(orders.any fun a => decide (a.str ∈ os.map Ord.str) && a.fwd m)) then T.tup [.str "NotYes", .str "word"] else .non) = if m.any (fun m => !(os.any fun a => a.fwd m)) then T.tup [.str "NotYes", .str "word"] else .non := by
      have z : (fun m : Move => !(orders.any fun a => decide (a.str ∈ os.map Ord.str) && a.fwd m)) = fun m => !(os.any fun a => a.fwd m) := by
        funext m
        rw [ords_any]
      rw [z]
    rw [e3] at q
    have hos : ∀ {H' : Hp}, Same H H' → Is K H' v2 (.sq (os.map fun a => T.str a.str)) := fun s => by
      have z := s.is h2
      rw [List.map_map] at z
      exact z
    with_reducible apply s_seq
    refine for_it (enc := moveT) (xs := m) K (i_seq (Ev.sq_im (e_var rfl (s03.is h1)))) fun H4 s4 => ?_
    refine ⟨fun i σ' H' => ∃ a2 a3, σ' = [some v1, some v2, a2, a3] ∧ Same H4 H' ∧ ∀ x ∈ m.take i, (os.any fun a => a.fwd x) = true, ⟨a2, none, rfl, Same.refl _, fun x h => by simp at h⟩, ?_, ?_, ?_⟩
    · rintro i σ' H' hi ⟨_, _, _, s, _⟩
      exact s.stay
    · rintro i x v σ' H5 H6 hx ⟨b2, b3, rfl, s5, hf⟩ s6 im
      refine s_gi ?_
      have s06 := s03.trans (s4.trans (s5.trans s6))
      have hxv : Is K H6 v (.im (moveT x)) := im
      refine s_if K (b := decide ((os.filter fun a => a.fwd x).length = 0)) (t_of (ev_eq (e_eq (e_len (n_gen (enc := fun a : Ord => T.str a.str) (xs := os) (p := fun a => a.fwd x) (f := fun _ => T.int 1) (i_seq (e_var rfl (hos s06))) (by rw [List.length_map] at hl; omega) fun j a w H7 ha s7 im2 => ?_).ev.sq_ls) e_int (by rfl) (by rfl)) ?_)) (fun hb H7 s7 => ?_) (fun hb H7 s7 => s_next ?_)
      · rw [im2.str_inv]
        refine ⟨_, fun k z => z, rfl, t_of (e_call (d := .im (.bl (a.fwd x))) (a_cons (e_vstr rfl) (a_cons (e_tup (ts := [.int x.1, .int x.2.1]) (a_cons (e_ix (Ev.sq_im (e_var rfl (s7.is hxv))) e_int (by rfl)) (a_cons (e_ix (Ev.sq_im (e_var rfl (s7.is hxv))) e_int (by rfl)) a_nil)) (by rfl) (Nat.le_of_ble_eq_true rfl)) a_nil)) ⟨a, (x.1, x.2.1), rfl, rfl⟩), fun _ => e_int⟩
      · rw [List.length_map]
        congr 2
        rw [Bool.eq_iff_iff, T.beq_iff (by rfl) (by rfl)]
        simp
      · have hn := List.length_eq_zero_iff.mp (of_decide_eq_true hb)
        have e4 : (m.any fun m => !(os.any fun a => a.fwd m)) = true := by
          rw [List.any_eq_true]
          refine ⟨x, List.mem_of_getElem? hx, ?_⟩
          have z : (os.any fun a => a.fwd x) = false := by
            rw [List.any_eq_false]
            intro a ha
            exact List.filter_eq_nil_iff.mp hn a ha
          rw [z]
          rfl
        rw [e4, if_pos rfl] at q
        exact s_ret K (e_tup (ts := [.str "NotYes", .str "word"]) (a_cons e_str (a_cons e_str a_nil)) (by rfl) (by decide)) fun v H' s' hv => q v H' (s06.trans (s7.trans s')) hv
      · refine ⟨_, _, rfl, s5.trans (s6.trans s7), fun y hy => ?_⟩
        rw [List.take_add_one, hx] at hy
        rcases List.mem_append.mp hy with z | z
        · exact hf y z
        · have : y = x := by simpa using z
          rw [this]
          cases z2 : os.any fun a => a.fwd x with
          | true => rfl
          | false =>
            have : os.filter (fun a => a.fwd x) = [] := List.filter_eq_nil_iff.mpr fun a ha => by
              have := List.any_eq_false.mp z2 a ha
              exact this
            rw [this] at hb
            cases hb
    · rintro σ' H5 ⟨b2, b3, rfl, s5, hf⟩
      rw [List.take_length] at hf
      have e4 : (m.any fun m => !(os.any fun a => a.fwd m)) = false := by
        rw [List.any_eq_false]
        intro x hx
        rw [hf x hx]
        simp
      rw [e4, if_neg Bool.false_ne_true] at q
      exact s_ret K e_non fun v H' s' hv => q v H' (s03.trans (s4.trans (s5.trans s'))) hv
end
end TW

set_option Elab.async false
set_option linter.all false
set_option maxRecDepth 100000
set_option maxHeartbeats 4000000
namespace TW
open PySem PySem.Spec PyProof.Rows L2
local macro_rules | `(tactic| walk_at "ev") => `(tactic| repeat' (first
  | with_reducible exact e_int | with_reducible exact e_str | with_reducible exact e_bl | with_reducible exact e_non
  | exact e_vint rfl | exact e_vstr rfl | exact e_vbl rfl | exact e_vnon rfl | exact e_var rfl (by assumption)
  | exact e_sqv rfl (by assumption) | exact e_dkI rfl (by assumption) rfl
  | with_reducible apply e_call | with_reducible apply e_intc | with_reducible apply e_abs
  | with_reducible apply e_intop | with_reducible apply e_cmp | with_reducible apply e_intopC
  | with_reducible apply e_len | with_reducible apply e_pow | with_reducible apply e_min2 | with_reducible apply e_max2
  | with_reducible exact a_nil | with_reducible apply a_cons
  | with_reducible apply t_ofB | with_reducible apply t_of
  | (with_reducible apply mulR; omega) | (with_reducible apply mulL; omega) | (with_reducible show (_ < _); omega)))
section
variable {P : Program} {w : World} {K : PySem.W.Frag} {mg : Str → Option Value} {base : Heap} {CF : Addr}
theorem sc_law_asked : FnScope ["what_is", "floor", "mask", "thing", "e", "kinds"] ["what_is", "floor", "mask", "thing"] (defScope (top 85)) := ⟨rfl, rfl, rfl, by decide +kernel, rfl, by decide +kernel, by decide +kernel⟩
theorem ok_law_asked {f : Addr} {fd : FuncData} (F : FunD K "_law_asked" "_law_asked" (defArgs (top 85)) (defBody (top 85)) (defScope (top 85)) [] [] f fd) (tx : Tx w K mg CF) (G_settle_by : Gf P w K mg base "settle_by" 9 (sp_settle_by K mg CF)) (G_settle : Gk P w K mg base "settle" 9 2 (sp_settle K mg CF)) {met : List (Str × List Str)} (ET : ExcT K mg met) (hmet : metL ⊆ met) : FnOk P w K mg base (L2.CX P w) 10 f fd ["what_is", "floor", "mask", "thing"] (sp_law_asked K mg CF) := by
  refine F.ok sc_law_asked (fun vs H Q E h => ?_) (fun cdv A outer s H vs Q E hr h => ?_)
  · first | (obtain ⟨_, rfl, _⟩ := h; rfl) | (obtain ⟨_, _, rfl, _⟩ := h; rfl) | (obtain ⟨_, _, _, rfl, _⟩ := h; rfl) | (obtain ⟨_, _, _, _, rfl, _⟩ := h; rfl) | (obtain ⟨_, _, _, _, _, rfl, _⟩ := h; rfl) | (obtain ⟨_, _, _, _, _, _, rfl, _⟩ := h; rfl) | (obtain ⟨_, _, _, _, _, _, _, rfl, _⟩ := h; rfl) | (obtain ⟨_, _, _, _, _, _, _, _, rfl, _⟩ := h; rfl) | exact spInit_len h rfl | exact spN_len h (by intro ds o hh; first | (obtain ⟨rfl, _⟩ := hh; rfl) | (obtain ⟨_, rfl, _⟩ := hh; rfl) | (obtain ⟨_, _, rfl, _⟩ := hh; rfl) | (obtain ⟨_, _, _, rfl, _⟩ := hh; rfl)) | exact spO_len h (by intro ds o hh; first | (obtain ⟨rfl, _⟩ := hh; rfl) | (obtain ⟨_, rfl, _⟩ := hh; rfl) | (obtain ⟨_, _, rfl, _⟩ := hh; rfl) | (obtain ⟨_, _, _, rfl, _⟩ := hh; rfl) | (obtain ⟨_, _, _, _, rfl, _⟩ := hh; rfl) | (obtain ⟨_, _, _, _, _, rfl, _⟩ := hh; rfl) | (obtain ⟨_, _, _, _, _, _, rfl, _⟩ := hh; rfl))
  obtain ⟨R, hR, hRx⟩ := ET.ref
  refine ⟨_, (pss_cons (ps_try_as (i := 4) (Wout := fun _ _ _ _ => False) rfl rfl sc_law_asked.nd rfl rfl ⟨rfl, by decide, Or.inl hR⟩ takes0
    (fun W pn xe tk2 po => (pss_cons (ps_if (pt_cmpR (op_eqDK (K := K) rfl hr.units) (pv 0) pe_str (nomark _))
    (pss_one (ps_ret (pe_tup (pa_cons pe_str (pa_cons (pe_gk G_settle (hr.mono (by decide)) tk2 (pa_cons (pv 1) (pa_cons (pv 2) pa_nil)) (pk_cons (pv 3) pk_nil)) pa_nil)))))
    pss_nil)
    (pss_one (ps_ret (pe_tup (pa_cons pe_str (pa_cons (pe_g G_settle_by (hr.mono (by decide)) tk2 (pa_cons (pv 1) (pa_cons (pv 2) (pa_cons (pv 3) pa_nil)))) pa_nil)))))))
    (fun a oe cls d pn hz hf => (pss_cons (ps_asg (pe_lst (pa_cons (pe_isEC tx.bt (ET.cls "BadText" (by decide)) hz hf (pv 4)) (pa_cons (pe_isEC tx.bt (ET.cls "Malformed" (by decide)) hz hf (pv 4)) (pa_cons (pe_isEC tx.bt (ET.cls "BadOrder" (by decide)) hz hf (pv 4)) (pa_cons (pe_isEC tx.bt (ET.cls "Unknown" (by decide)) hz hf (pv 4)) pa_nil))))) (pg_name (i := 5) sc_law_asked.nd rfl (by first | exact Or.inl rfl | exact Or.inr rfl)))
    (pss_cons (ps_asg (pe_op op_cat (pv 5) (pe_lst (pa_cons (pe_isEC tx.bt (ET.cls "Empty" (by decide)) hz hf (pv 4)) (pa_cons (pe_isEC tx.bt (ET.cls "BadSize" (by decide)) hz hf (pv 4)) (pa_cons (pe_isEC tx.bt (ET.cls "BadCell" (by decide)) hz hf (pv 4)) (pa_cons (pe_isEC tx.bt (ET.cls "BadMove" (by decide)) hz hf (pv 4)) pa_nil)))))) (pg_name (i := 5) sc_law_asked.nd rfl (by first | exact Or.inl rfl | exact Or.inr rfl)))
    (pss_cons (ps_asg (pe_op op_cat (pv 5) (pe_lst (pa_cons (pe_isEC tx.bt (ET.cls "BadPrice" (by decide)) hz hf (pv 4)) (pa_cons (pe_isEC tx.bt (ET.cls "Doubled" (by decide)) hz hf (pv 4)) (pa_cons (pe_isEC tx.bt (ET.cls "BadWalk" (by decide)) hz hf (pv 4)) (pa_cons (pe_isEC tx.bt (ET.cls "Free" (by decide)) hz hf (pv 4)) pa_nil)))))) (pg_name (i := 5) sc_law_asked.nd rfl (by first | exact Or.inl rfl | exact Or.inr rfl)))
    (pss_cons (ps_asg (pe_op op_cat (pv 5) (pe_lst (pa_cons (pe_isEC tx.bt (ET.cls "TooMany" (by decide)) hz hf (pv 4)) (pa_cons (pe_isEC tx.bt (ET.cls "NotFan" (by decide)) hz hf (pv 4)) (pa_cons (pe_isEC tx.bt (ET.cls "NotYes" (by decide)) hz hf (pv 4)) (pa_cons (pe_isEC tx.bt (ET.cls "Stuck" (by decide)) hz hf (pv 4)) pa_nil)))))) (pg_name (i := 5) sc_law_asked.nd rfl (by first | exact Or.inl rfl | exact Or.inr rfl)))
    (pss_cons (ps_if (PW.pt (pw_or (pt_cmpR (op_neDK (K := K) rfl hr.units) (pe_countK (K := K) rfl (pv 5) (pa_cons pe_bl pa_nil)) pe_int (nomark _)) (pw_or1 (pt_not (pt_val (pe_isVE tx.bt hz hf (pv 4)))))))
    (pss_one (ps_ret (pe_tup (pa_cons pe_str (pa_cons (pe_tup (pa_cons pe_str pa_nil)) pa_nil)))))
    pss_nil)
    (pss_cons (ps_if (pt_val (pe_isEC tx.bt (ET.cls "BadOrder" (by decide)) hz hf (pv 4)))
    (pss_one (ps_ret (pe_tup (pa_cons pe_str (pa_cons (pe_tup (pa_cons pe_str (pa_cons (pe_xc hz hf (pv 4)) pa_nil))) pa_nil)))))
    pss_nil)
    (pss_cons (ps_if (pt_val (pe_isEC tx.bt (ET.cls "Empty" (by decide)) hz hf (pv 4)))
    (pss_one (ps_ret (pe_tup (pa_cons pe_str (pa_cons (pe_tup (pa_cons pe_str (pa_cons (pe_xc hz hf (pv 4)) pa_nil))) pa_nil)))))
    pss_nil)
    (pss_cons (ps_if (pt_val (pe_isEC tx.bt (ET.cls "TooMany" (by decide)) hz hf (pv 4)))
    (pss_one (ps_ret (pe_tup (pa_cons pe_str (pa_cons (pe_tup (pa_cons pe_str (pa_cons (pe_xc hz hf (pv 4)) (pa_cons (pe_xc hz hf (pv 4)) pa_nil)))) pa_nil)))))
    pss_nil)
    (pss_one (ps_if (pt_val (pe_isEC tx.bt (ET.cls "NotYes" (by decide)) hz hf (pv 4)))
    (pss_one (ps_ret (pe_tup (pa_cons pe_str (pa_cons (pe_tup (pa_cons pe_str (pa_cons (pe_xc hz hf (pv 4)) pa_nil))) pa_nil)))))
    pss_nil))))))))))))
    (pss_one (ps_ret (pe_tup (pa_cons pe_str (pa_cons (pe_tup (pa_cons pe_str pa_nil)) pa_nil)))))), ?_⟩
  try dsimp only [cxOf]
  obtain ⟨ds, o, hi, ⟨s0, d1, d2, d3, o', rfl, hs, ho⟩, q⟩ := h
  obtain ⟨v0, v1, v2, v3, rfl, h0, h1, h2, h3⟩ := hi.four_inv
  rw [h0.sv]
  with_reducible apply s_seq
  refine ask_body (d1 := d1) (d2 := d2) (d3 := d3) (o' := o') h1 h2 h3 hs ?_
  rcases ho with ⟨t, rfl, rfl⟩ | ⟨x, fs, t, rfl, hr, rfl⟩
  · exact .inl ⟨t, rfl, q⟩
  refine .inr ⟨x, fs, rfl, fun C dd ws H1 hm s1 hdd hh him => ?_⟩
  obtain ⟨fl, hfl⟩ := hr.met
  have hx : (x, fl) ∈ met := hmet hfl
  refine ⟨true, hRx _ hx C hm, fun _ a ha => ?_, fun z => by cases z⟩
  dsimp only
  have is_ : ∀ {H' : Hp} {σ : L2.St} {y : Str}, H' dd = some (.xd ((fs.map (·.1)).zip ws)) → σ[4]? = some (some (.ref a)) → y ∈ excN → Ev K (tCB (rIsEC K a (.ref C) (some dd)) (tCons (tVar 4) (tCons (tGC mg y) tNil))) σ H' (.im (.bl (decide (x = y)))) := fun hh' hσ hy => e_isEC ET hx hy hσ rfl hm rfl hh'
  have k0 : List.map (fun y => decide (x = y)) excN = [decide (x = "BadText"), decide (x = "Malformed"), decide (x = "BadOrder"), decide (x = "Unknown")] ++ [decide (x = "Empty"), decide (x = "BadSize"), decide (x = "BadCell"), decide (x = "BadMove")] ++ [decide (x = "BadPrice"), decide (x = "Doubled"), decide (x = "BadWalk"), decide (x = "Free")] ++ [decide (x = "TooMany"), decide (x = "NotFan"), decide (x = "NotYes"), decide (x = "Stuck")] := rfl
  have one := one_kind x (List.mem_map.mpr ⟨_, hfl, rfl⟩)
  rw [k0] at one
  with_reducible apply s_seq
  refine s_setN K (n_lst (ts := [.bl (decide (x = "BadText")), .bl (decide (x = "Malformed")), .bl (decide (x = "BadOrder")), .bl (decide (x = "Unknown"))]) (a_cons (is_ (y := "BadText") hh rfl (by decide)) (a_cons (is_ (y := "Malformed") hh rfl (by decide)) (a_cons (is_ (y := "BadOrder") hh rfl (by decide)) (a_cons (is_ (y := "Unknown") hh rfl (by decide)) a_nil)))) (by rfl) (Nat.le_of_ble_eq_true rfl)) fun p2 w2 H2 _ s2 e2 i2 => ?_
  have hh2 := s2 _ _ hh
  with_reducible apply s_seq
  refine s_setN K (n_catV rfl e2 i2 (n_lst (ts := [.bl (decide (x = "Empty")), .bl (decide (x = "BadSize")), .bl (decide (x = "BadCell")), .bl (decide (x = "BadMove"))]) (a_cons (is_ (y := "Empty") hh2 rfl (by decide)) (a_cons (is_ (y := "BadSize") hh2 rfl (by decide)) (a_cons (is_ (y := "BadCell") hh2 rfl (by decide)) (a_cons (is_ (y := "BadMove") hh2 rfl (by decide)) a_nil)))) (by rfl) (Nat.le_of_ble_eq_true rfl)) (Nat.le_of_ble_eq_true rfl)) fun p3 w3 H3 _ s3 e3 i3 => ?_
  have hh3 := s3 _ _ hh2
  with_reducible apply s_seq
  refine s_setN K (n_catV rfl e3 i3 (n_lst (ts := [.bl (decide (x = "BadPrice")), .bl (decide (x = "Doubled")), .bl (decide (x = "BadWalk")), .bl (decide (x = "Free"))]) (a_cons (is_ (y := "BadPrice") hh3 rfl (by decide)) (a_cons (is_ (y := "Doubled") hh3 rfl (by decide)) (a_cons (is_ (y := "BadWalk") hh3 rfl (by decide)) (a_cons (is_ (y := "Free") hh3 rfl (by decide)) a_nil)))) (by rfl) (Nat.le_of_ble_eq_true rfl)) (Nat.le_of_ble_eq_true rfl)) fun p4 w4 H4 _ s4 e4 i4 => ?_
  have hh4 := s4 _ _ hh3
  with_reducible apply s_seq
  refine s_setN K (n_catV rfl e4 i4 (n_lst (ts := [.bl (decide (x = "TooMany")), .bl (decide (x = "NotFan")), .bl (decide (x = "NotYes")), .bl (decide (x = "Stuck"))]) (a_cons (is_ (y := "TooMany") hh4 rfl (by decide)) (a_cons (is_ (y := "NotFan") hh4 rfl (by decide)) (a_cons (is_ (y := "NotYes") hh4 rfl (by decide)) (a_cons (is_ (y := "Stuck") hh4 rfl (by decide)) a_nil)))) (by rfl) (Nat.le_of_ble_eq_true rfl)) (Nat.le_of_ble_eq_true rfl)) fun p5 w5 H5 _ s5 e5 i5 => ?_
  have hh5 := s5 _ _ hh4
  have ew := ims_bls (bs := [decide (x = "BadText"), decide (x = "Malformed"), decide (x = "BadOrder"), decide (x = "Unknown")] ++ [decide (x = "Empty"), decide (x = "BadSize"), decide (x = "BadCell"), decide (x = "BadMove")] ++ [decide (x = "BadPrice"), decide (x = "Doubled"), decide (x = "BadWalk"), decide (x = "Free")] ++ [decide (x = "TooMany"), decide (x = "NotFan"), decide (x = "NotYes"), decide (x = "Stuck")]) i5
  rw [ew] at e5
  have s05 := s1.trans (s2.trans (s3.trans (s4.trans s5)))
  with_reducible apply s_seq
  refine s_if K (b := false) (t_eq (t_or (b := false) (t_of (ev_eq (e_ne (e_count rfl e5) e_int (by rfl) (by rfl)) ?_)) fun _ => t_not (b := true) (t_ofB (e_isVE ET hx rfl rfl hm rfl hh5))) (by rfl)) (fun z => by cases z) (fun _ H6 s6 => s_next ?_)
  · rw [one, (T.beq_iff (t := .int ((1 : Nat) : Int)) (u := .int 1) (by rfl) (by rfl)).mpr rfl]
    rfl
  have hh6 := s6 _ _ hh5
  have s15 := s2.trans (s3.trans (s4.trans s5))
  have him6 := L2.Same.ims (s15.trans s6) him
  have tr : ∀ {H7 : Hp}, Same H6 H7 → Same H H7 := fun s7 => s05.trans (s6.trans s7)
  rcases hr.cases with ⟨rfl, u, rfl, rfl⟩ | ⟨rfl, u, rfl, rfl⟩ | ⟨rfl, l, u, rfl, rfl⟩ | ⟨rfl, u, rfl, rfl⟩
  · have hx2 : (("BadOrder" : Str), (["order"] : List Str)) ∈ met := hmet (by simp [metL])
    obtain ⟨vu, rfl, hu⟩ := Ims.one_inv him6
    with_reducible apply s_seq
    refine s_if K (b := true) (t_eq (t_ofB (is_ (y := "BadOrder") hh6 rfl (by decide))) (by decide)) (fun _ H7 s7 => ?_) (fun z => by cases z)
    have hh7 := s7 _ _ hh6
    exact s_ret K (e_tup (ts := [.str "refused", .tup [.str "BadOrder", u]]) (a_cons e_str (a_cons (e_tup (ts := [.str "BadOrder", u]) (a_cons e_str (a_cons (e_xf (f := "order") ET hx2 rfl rfl hm rfl hh7 (by simp) rfl (L2.Same.is s7 (d := .im u) hu)) a_nil)) (by rfl) (Nat.le_of_ble_eq_true rfl)) a_nil)) (by rfl) (Nat.le_of_ble_eq_true rfl)) fun v H' s' hv => q v H' ((tr s7).trans s') hv
  · have hx2 : (("Empty" : Str), (["what"] : List Str)) ∈ met := hmet (by simp [metL])
    obtain ⟨vu, rfl, hu⟩ := Ims.one_inv him6
    with_reducible apply s_seq
    refine s_if K (b := false) (t_eq (t_ofB (is_ (y := "BadOrder") hh6 rfl (by decide))) (by decide)) (fun z => by cases z) (fun _ H7 s7 => s_next ?_)
    have hh7 := s7 _ _ hh6
    with_reducible apply s_seq
    refine s_if K (b := true) (t_eq (t_ofB (is_ (y := "Empty") hh7 rfl (by decide))) (by decide)) (fun _ H8 s8 => ?_) (fun z => by cases z)
    have hh8 := s8 _ _ hh7
    exact s_ret K (e_tup (ts := [.str "refused", .tup [.str "Empty", u]]) (a_cons e_str (a_cons (e_tup (ts := [.str "Empty", u]) (a_cons e_str (a_cons (e_xf (f := "what") ET hx2 rfl rfl hm rfl hh8 (by simp) rfl (L2.Same.is (s7.trans s8) (d := .im u) hu)) a_nil)) (by rfl) (Nat.le_of_ble_eq_true rfl)) a_nil)) (by rfl) (Nat.le_of_ble_eq_true rfl)) fun v H' s' hv => q v H' ((tr (s7.trans s8)).trans s') hv
  · have hx2 : (("TooMany" : Str), (["what", "limit"] : List Str)) ∈ met := hmet (by simp [metL])
    obtain ⟨vl, vu, rfl, hl, hu⟩ := Ims.two_inv him6
    with_reducible apply s_seq
    refine s_if K (b := false) (t_eq (t_ofB (is_ (y := "BadOrder") hh6 rfl (by decide))) (by decide)) (fun z => by cases z) (fun _ H7 s7 => s_next ?_)
    have hh7 := s7 _ _ hh6
    with_reducible apply s_seq
    refine s_if K (b := false) (t_eq (t_ofB (is_ (y := "Empty") hh7 rfl (by decide))) (by decide)) (fun z => by cases z) (fun _ H8 s8 => s_next ?_)
    have hh8 := s8 _ _ hh7
    with_reducible apply s_seq
    refine s_if K (b := true) (t_eq (t_ofB (is_ (y := "TooMany") hh8 rfl (by decide))) (by decide)) (fun _ H9 s9 => ?_) (fun z => by cases z)
    have hh9 := s9 _ _ hh8
    exact s_ret K (e_tup (ts := [.str "refused", .tup [.str "TooMany", u, l]]) (a_cons e_str (a_cons (e_tup (ts := [.str "TooMany", u, l]) (a_cons e_str (a_cons (e_xf (f := "what") ET hx2 rfl rfl hm rfl hh9 (by simp) rfl (L2.Same.is ((s7.trans s8).trans s9) (d := .im u) hu)) (a_cons (e_xf (f := "limit") ET hx2 rfl rfl hm rfl hh9 (by simp) rfl (L2.Same.is ((s7.trans s8).trans s9) (d := .im l) hl)) a_nil))) (by rfl) (Nat.le_of_ble_eq_true rfl)) a_nil)) (by rfl) (Nat.le_of_ble_eq_true rfl)) fun v H' s' hv => q v H' ((tr ((s7.trans s8).trans s9)).trans s') hv
  · have hx2 : (("NotYes" : Str), (["what"] : List Str)) ∈ met := hmet (by simp [metL])
    obtain ⟨vu, rfl, hu⟩ := Ims.one_inv him6
    with_reducible apply s_seq
    refine s_if K (b := false) (t_eq (t_ofB (is_ (y := "BadOrder") hh6 rfl (by decide))) (by decide)) (fun z => by cases z) (fun _ H7 s7 => s_next ?_)
    have hh7 := s7 _ _ hh6
    with_reducible apply s_seq
    refine s_if K (b := false) (t_eq (t_ofB (is_ (y := "Empty") hh7 rfl (by decide))) (by decide)) (fun z => by cases z) (fun _ H8 s8 => s_next ?_)
    have hh8 := s8 _ _ hh7
    with_reducible apply s_seq
    refine s_if K (b := false) (t_eq (t_ofB (is_ (y := "TooMany") hh8 rfl (by decide))) (by decide)) (fun z => by cases z) (fun _ H9 s9 => s_next ?_)
    have hh9 := s9 _ _ hh8
    refine s_if K (b := true) (t_eq (t_ofB (is_ (y := "NotYes") hh9 rfl (by decide))) (by decide)) (fun _ H10 s10 => ?_) (fun z => by cases z)
    have hh10 := s10 _ _ hh9
    exact s_ret K (e_tup (ts := [.str "refused", .tup [.str "NotYes", u]]) (a_cons e_str (a_cons (e_tup (ts := [.str "NotYes", u]) (a_cons e_str (a_cons (e_xf (f := "what") ET hx2 rfl rfl hm rfl hh10 (by simp) rfl (L2.Same.is (((s7.trans s8).trans s9).trans s10) (d := .im u) hu)) a_nil)) (by rfl) (Nat.le_of_ble_eq_true rfl)) a_nil)) (by rfl) (Nat.le_of_ble_eq_true rfl)) fun v H' s' hv => q v H' ((tr (((s7.trans s8).trans s9).trans s10)).trans s') hv
end
end TW

set_option Elab.async false
set_option linter.all false
set_option maxRecDepth 100000
set_option maxHeartbeats 4000000
namespace TW
open PySem PySem.Spec PyProof.Rows L2
/-! ### what settle tells, as a tree -/
section
variable {K : PySem.W.Frag} {mg : Str → Option Value} {σ : L2.St} {H : Hp} {args : TA} {CF : Addr} {F : Fl} {m : List Move} {a : Ord}
/-- Floor(rows) -/
theorem e_mk (h : EvA K args σ H [.im (.tup F.rows)]) : Ev K (tMake CF (sp_Floor_init K mg CF) [] E0 args) σ H (F.d CF) := fun H1 s Q q => h H1 s _ fun vs H2 s2 hv => by
  obtain ⟨v, rfl, hv1⟩ := hv.one_inv
  intro x dx hx hdx ne
  have n1 : (upd H2 dx (.own x)) x = none := by rw [upd_ne (Ne.symm ne)]; exact hx
  have s3 : Same H2 (upd (upd H2 dx (.own x)) x (.ins CF dx [])) := (same_new hdx).trans (same_new n1)
  refine ⟨x, dx, v, F, rfl, upd_same, s3.is hv1, fun H' sm hi => ⟨rfl, q _ H' (fun b o e => ?_) hi⟩⟩
  have e2 := s2 _ _ e
  exact sm b o (ne_of_none e2 hx) (s3 _ _ e2)
theorem low_atom {t : T} {d : Nat} (h : t.okd 5 = true ∧ t.pure = true) (hn : ∀ ts, t ≠ .tup ts) : Low (d + 1) t := by
  cases t with
  | tup ts => exact absurd rfl (hn ts)
  | non => exact h
  | bl b => exact h
  | int i => exact h
  | str x => exact h
theorem low_int {i : Int} {d : Nat} : Low (d + 1) (.int i) := ⟨rfl, rfl⟩
theorem low_str {x : Str} {d : Nat} (h : PyData.strOk x = true) : Low (d + 1) (.str x) := ⟨h, rfl⟩
theorem low_o {o : Option Int} {d : Nat} : Low (d + 1) (oT o) := by
  cases o with
  | none => exact ⟨rfl, rfl⟩
  | some i => exact ⟨rfl, rfl⟩
theorem low_mat {h w d : Nat} {f : Cell → T} (hh : h ≤ 1000) (hw : w ≤ 1000) (hf : ∀ c, Low (d + 1) (f c)) : Low (d + 3) (matT h w f) := by
  refine ⟨?_, fun x hx => ?_⟩
  · unfold rowsL; simpa using hh
  · obtain ⟨y, _, rfl⟩ := List.mem_map.mp hx
    refine ⟨?_, fun z hz => ?_⟩
    · unfold rowL; simpa using hw
    · obtain ⟨k, _, rfl⟩ := List.mem_map.mp hz
      exact hf _
theorem low_grid {g : Grid} {d : Nat} : Low (d + 3) (F.gridT g) := low_mat (Nat.le_trans F.hm (by decide)) (Nat.le_trans F.wm (by decide)) fun c => low_o
theorem low_rows {d : Nat} : Low (d + 3) (.tup F.rows) := low_mat (h := F.h) (w := F.w) (f := fun c => (F.it c).t) (Nat.le_trans F.hm (by decide)) (Nat.le_trans F.wm (by decide)) fun c => by
  cases F.it c with
  | wall => exact ⟨by decide +kernel, rfl⟩
  | free => exact ⟨rfl, rfl⟩
  | num i => exact ⟨rfl, rfl⟩
theorem low_settle {n : Nat} (h : n ≤ 1000) : Low 4 (settleT F m a n) := by
  refine ⟨Nat.le_of_ble_eq_true rfl, fun x hx => ?_⟩
  simp only [List.mem_cons, List.not_mem_nil, or_false] at hx
  rcases hx with rfl | rfl | rfl
  · exact low_grid (d := 0)
  · exact low_int
  · refine ⟨?_, fun x hx => ?_⟩
    · unfold Fl.chL; simpa using h
    · obtain ⟨i, _, rfl⟩ := List.mem_map.mp hx
      exact low_int
theorem low_by {g : Grid} {n : Int} : Low 4 (.tup [F.gridT g, .int n]) := by
  refine ⟨Nat.le_of_ble_eq_true rfl, fun x hx => ?_⟩
  simp only [List.mem_cons, List.not_mem_nil, or_false] at hx
  rcases hx with rfl | rfl
  · exact low_grid (d := 0)
  · exact low_int
/-- the law's counts -/
def cntL (F : Fl) (r : Nat → Grid) (k : Nat) : List Int := if k = 0 then [0] else F.chL r k
theorem cntL_len {r : Nat → Grid} {k : Nat} : (cntL F r k).length = max 1 k := by
  unfold cntL
  split
  · rename_i h; subst h; rfl
  · unfold Fl.chL; simp; omega
theorem settle_due (hz : ∀ q ∈ m, ¬ (q.1 = 0 ∧ q.2.1 = 0)) (hp : ∀ q ∈ m, 0 ≤ q.2.2) {k : Nat} (h1 : k ≤ 196) (h2 : F.run m (altO a) k = F.dist m) (h3 : ∀ j, j < k → F.run m (altO a) j ≠ F.dist m) (h4 : ∀ j, k ≤ j → F.run m (altO a) j = F.dist m) (h5 : ∀ j, 2 ≤ j → j ≤ k → F.nch (F.run m (altO a) (j - 1)) (F.run m (altO a) j) ≠ 0) (hl : m.length ≤ 1000) :
    R_law_asked CF [.im (.str "settle"), F.d CF, .im (maskT m), .im (.str a.str)] (.ok (.im (.tup [.str "told", .tup [F.gridT (F.dist m), .int ((cntL F (F.run m (altO a)) k).length + 1), .tup ((cntL F (F.run m (altO a)) k ++ [0]).map T.int)]]))) ∧
    Low 4 (.tup [F.gridT (F.dist m), .int ((cntL F (F.run m (altO a)) k).length + 1), .tup ((cntL F (F.run m (altO a)) k ++ [0]).map T.int)]) := by
  have e : (.tup [F.gridT (F.dist m), .int ((cntL F (F.run m (altO a)) k).length + 1), .tup ((cntL F (F.run m (altO a)) k ++ [0]).map T.int)] : T) = settleT F m a (max 1 k + 1) := by
    have z : ∀ j, k ≤ j → F.nch (F.run m (altO a) j) (F.run m (altO a) (j + 1)) = 0 := fun j hj => (nch_zero (ms := m) run_sound run_sound).mpr (by rw [h4 j hj, h4 (j + 1) (by omega)])
    unfold settleT
    rw [h4 (max 1 k + 1) (by omega), cntL_len]
    have e2 : cntL F (F.run m (altO a)) k ++ [0] = F.chL (F.run m (altO a)) (max 1 k + 1) := by
      rw [chL_succ, z (max 1 k) (by omega)]
      congr 1
      unfold cntL
      split
      · rename_i h
        subst h
        show [0] = F.chL _ (0 + 1)
        rw [chL_succ, z 0 (by omega)]
        rfl
      · rename_i h
        rw [show max 1 k = k by omega]
    rw [e2]
    rfl
  rw [e]
  refine ⟨⟨"settle", F.d CF, .im (maskT m), .im (.str a.str), .ok (.im (settleT F m a (max 1 k + 1))), rfl, .inl ⟨rfl, F, m, a.str, rfl, hl, .inr ⟨a, max 1 k + 1, rfl, by omega, by omega, ?_, ?_, rfl⟩⟩, .inl ⟨_, rfl, rfl⟩⟩, low_settle (by omega)⟩
  · rw [Nat.add_sub_cancel]
    exact (nch_zero (ms := m) run_sound run_sound).mpr (by rw [h4 (max 1 k) (by omega), h4 (max 1 k + 1) (by omega)])
  · intro j hj hk
    exact h5 j hj (by omega)
end
end TW

set_option Elab.async false
set_option linter.all false
set_option maxRecDepth 100000
set_option maxHeartbeats 4000000
namespace TW
open PySem PySem.Spec PyProof.Rows L2
local macro_rules | `(tactic| walk_at "ev") => `(tactic| repeat' (first
  | with_reducible exact e_int | with_reducible exact e_str | with_reducible exact e_bl | with_reducible exact e_non
  | exact e_vint rfl | exact e_vstr rfl | exact e_vbl rfl | exact e_vnon rfl | exact e_var rfl (by assumption)
  | exact e_sqv rfl (by assumption) | exact e_dkI rfl (by assumption) rfl
  | with_reducible apply e_call | with_reducible apply e_intc | with_reducible apply e_abs
  | with_reducible apply e_intop | with_reducible apply e_cmp | with_reducible apply e_intopC
  | with_reducible apply e_len | with_reducible apply e_pow | with_reducible apply e_min2 | with_reducible apply e_max2
  | with_reducible exact a_nil | with_reducible apply a_cons
  | with_reducible apply t_ofB | with_reducible apply t_of
  | (with_reducible apply mulR; omega) | (with_reducible apply mulL; omega) | (with_reducible show (_ < _); omega)))
section
variable {P : Program} {w : World} {K : PySem.W.Frag} {mg : Str → Option Value} {base : Heap} {CF : Addr}
theorem sc_law_settle_holds : FnScope ["rows", "mask", "order", "grid", "word", "numbers", "stages", "k", "counts", "expected"] ["rows", "mask", "order", "grid"] (defScope (top 88)) := ⟨rfl, rfl, rfl, by decide +kernel, rfl, by decide +kernel, by decide +kernel⟩
theorem ok_law_settle_holds {f : Addr} {fd : FuncData} (F : FunD K "_law_settle_holds" "_law_settle_holds" (defArgs (top 88)) (defBody (top 88)) (defScope (top 88)) [] [] f fd) (tx : Tx w K mg CF) (G_law_holds : Gf P w K mg base "_law_holds" 7 (sp_law_holds K mg CF)) (G_law_asked : Gf P w K mg base "_law_asked" 10 (sp_law_asked K mg CF)) (M_Floor : Mkf P w K mg base CF "Floor" 5 (sp_Floor_init K mg CF)) (G_law_changed : Gf P w K mg base "_law_changed" 1 (sp_law_changed K mg CF)) (G_law_sweep : Gf P w K mg base "_law_sweep" 4 (sp_law_sweep K mg CF)) (G_law_start_grid : Gf P w K mg base "_law_start_grid" 1 (sp_law_start_grid K mg CF)) (G_law_counter : Gf P w K mg base "_law_counter" 1 (sp_law_counter K mg CF)) : FnOk P w K mg base (L2.CX P w) 11 f fd ["rows", "mask", "order", "grid"] (sp_law_settle_holds K mg CF) := by
  refine F.ok sc_law_settle_holds (fun vs H Q E h => ?_) (fun cdv A outer s H vs Q E hr h => ?_)
  · first | (obtain ⟨_, rfl, _⟩ := h; rfl) | (obtain ⟨_, _, rfl, _⟩ := h; rfl) | (obtain ⟨_, _, _, rfl, _⟩ := h; rfl) | (obtain ⟨_, _, _, _, rfl, _⟩ := h; rfl) | (obtain ⟨_, _, _, _, _, rfl, _⟩ := h; rfl) | (obtain ⟨_, _, _, _, _, _, rfl, _⟩ := h; rfl) | (obtain ⟨_, _, _, _, _, _, _, rfl, _⟩ := h; rfl) | (obtain ⟨_, _, _, _, _, _, _, _, rfl, _⟩ := h; rfl) | exact spInit_len h rfl | exact spN_len h (by intro ds o hh; first | (obtain ⟨rfl, _⟩ := hh; rfl) | (obtain ⟨_, rfl, _⟩ := hh; rfl) | (obtain ⟨_, _, rfl, _⟩ := hh; rfl) | (obtain ⟨_, _, _, rfl, _⟩ := hh; rfl)) | exact spO_len h (by intro ds o hh; first | (obtain ⟨rfl, _⟩ := hh; rfl) | (obtain ⟨_, rfl, _⟩ := hh; rfl) | (obtain ⟨_, _, rfl, _⟩ := hh; rfl) | (obtain ⟨_, _, _, rfl, _⟩ := hh; rfl) | (obtain ⟨_, _, _, _, rfl, _⟩ := hh; rfl) | (obtain ⟨_, _, _, _, _, rfl, _⟩ := hh; rfl) | (obtain ⟨_, _, _, _, _, _, rfl, _⟩ := hh; rfl))
  refine ⟨_, (pss_cons (ps_asg (pe_lst (pa_cons (pv 2) (pa_cons (pe_g G_law_counter (hr.mono (by decide)) (takes_of rfl rfl rfl rfl) (pa_cons (pv 2) pa_nil)) pa_nil))) (pg_name (i := 4) sc_law_settle_holds.nd rfl (by first | exact Or.inl rfl | exact Or.inr rfl)))
    (pss_cons (ps_asg (pe_g G_law_start_grid (hr.mono (by decide)) (takes_of rfl rfl rfl rfl) (pa_cons (pv 0) pa_nil)) (pg_name (i := 5) sc_law_settle_holds.nd rfl (by first | exact Or.inl rfl | exact Or.inr rfl)))
    (pss_cons (ps_asg (pe_lst (pa_cons (pv 5) pa_nil)) (pg_name (i := 6) sc_law_settle_holds.nd rfl (by first | exact Or.inl rfl | exact Or.inr rfl)))
    (pss_cons (ps_for (passes_of rfl) rfl (pi_range1 rfl tx.bt.range (pa_cons pe_int pa_nil)) (pg_name (i := 7) sc_law_settle_holds.nd rfl (by first | exact Or.inl rfl | exact Or.inr rfl))
    (pss_cons (ps_if (pt_cmpR (op_eqD hr.units) (pv 5) (pv 3) (nomark _))
    (pss_one ps_break)
    pss_nil)
    (pss_cons (ps_asg (pe_g G_law_sweep (hr.mono (by decide)) (takes_of rfl rfl rfl rfl) (pa_cons (pv 0) (pa_cons (pv 1) (pa_cons (pe_ix ix_seq (pv 4) (pe_op op_mod (pe_intc tx.bt (pv 7)) pe_int) (fun _ _ => rfl)) (pa_cons (pv 5) pa_nil))))) (pg_name (i := 5) sc_law_settle_holds.nd rfl (by first | exact Or.inl rfl | exact Or.inr rfl)))
    (pss_one (ps_expr (pe_bm PySem.F.plainAttrs_list PySem.F.slot_list_append PySem.F.type_list_append mt_append (pv 6) (pa_cons (pv 5) pa_nil)))))))
    (pss_cons (ps_if (pt_cmpR (op_neD hr.units) (pv 5) (pv 3) (nomark _))
    (pss_one (ps_ret pe_bl))
    pss_nil)
    (pss_cons (ps_setLc (i := 8) (te := (tCallS (sp_law_changed K mg CF) (WE (fun _ _ _ _ => False)) (tCons (tOp (rIx K) (tVar 6) (tVar 7)) (tCons (tOp (rIx K) (tVar 6) (tOp (rI0 fun i j => .int (i + j)) (tVar 7) (tC (V.int 1)))) tNil)))) (own := [("k", 7)]) (g := (gName 7)) (tt := tYes) rfl sc_law_settle_holds.nd rfl rfl rfl (pi_range1 rfl tx.bt.range (pa_cons (pe_op op_sub (pe_len tx.bt (pv 6)) pe_int) pa_nil)) (blkOk_by (own := [("k", 7)]) (N := ["rows", "mask", "order", "grid", "word", "numbers", "stages", "k", "counts", "expected"]) (sc := defScope (top 88)) (by decide +kernel)) (fun _ _ _ _ _ => (pg_name (i := 7) sc_law_settle_holds.nd rfl (by first | exact Or.inl rfl | exact Or.inr rfl))) (fun _ _ _ _ _ => pts_nil) (fun _ _ _ _ _ => (pe_g G_law_changed (hr.mono (by decide)) takes0 (pa_cons (pe_ix ix_seq (pv 6) (pv 7) (fun _ _ => rfl)) (pa_cons (pe_ix ix_seq (pv 6) (pe_op op_add (pv 7) pe_int) (fun _ _ => rfl)) pa_nil)))))
    (pss_cons (ps_if (pt_cmpR (op_eqD hr.units) (pe_len tx.bt (pv 8)) pe_int (nomark _))
    (pss_one (ps_asg (pe_lst (pa_cons pe_int pa_nil)) (pg_name (i := 8) sc_law_settle_holds.nd rfl (by first | exact Or.inl rfl | exact Or.inr rfl))))
    pss_nil)
    (pss_cons (ps_asg (pe_tup (pa_cons (pv 3) (pa_cons (pe_op op_add (pe_len tx.bt (pv 8)) pe_int) (pa_cons (pe_tuple tx.bt (pe_op op_cat (pv 8) (pe_lst (pa_cons pe_int pa_nil)))) pa_nil)))) (pg_name (i := 9) sc_law_settle_holds.nd rfl (by first | exact Or.inl rfl | exact Or.inr rfl)))
    (pss_one (ps_ret (pe_g G_law_holds (hr.mono (by decide)) (takes_of rfl rfl rfl rfl) (pa_cons (pe_g G_law_asked (hr.mono (by decide)) (takes_of rfl rfl rfl rfl) (pa_cons pe_str (pa_cons (pe_mk (j := 0) M_Floor (hr.mono (by decide)) (pa_cons (pv 0) pa_nil)) (pa_cons (pv 1) (pa_cons (pv 2) pa_nil))))) (pa_cons pe_non (pa_cons (pv 9) pa_nil)))))))))))))), ?_⟩
  try dsimp only [cxOf]
  obtain ⟨ds, o, hi, ⟨F, m, a, rfl, hm, rfl⟩, q⟩ := h
  obtain ⟨v0, v1, v2, v3, rfl, h0, h1, h2, h3⟩ := hi.four_inv
  rw [h2.sv]
  have hl := hm.len
  have hz := hm.nz
  have hp := hm.pos
  obtain ⟨k, k196, hK, hlt, hfix, hne⟩ := settle_math (F := F) hz hp a
  obtain ⟨hdue, hlow⟩ := settle_due (CF := CF) hz hp k196 hK hlt hfix hne (by omega)
  with_reducible apply s_seq
  refine s_setN K (n_lst (ts := [.str a.str, .str a.opp.str]) (a_cons (e_vstr rfl) (a_cons (e_call (d := .im (.str a.opp.str)) (a_cons (e_vstr rfl) a_nil) ⟨a, rfl, rfl⟩) a_nil)) (by rfl) (Nat.le_of_ble_eq_true rfl)) fun pw vw H1 _ s1 e1 i1 => ?_
  have hw : Is K H1 (.ref pw) (.ls [.str a.str, .str a.opp.str]) := ⟨pw, vw, rfl, .inl (.inl e1), i1⟩
  with_reducible apply s_seq
  refine s_set K (e_call (d := .im (F.gridT F.start)) (a_cons (e_var rfl (s1.is h0)) a_nil) ⟨F, rfl, rfl⟩) fun v5 H2 s2 h5 => ?_
  have s02 := s1.trans s2
  with_reducible apply s_seq
  refine s_setN K (n_lst (ts := [F.gridT F.start]) (a_cons (e_var rfl h5) a_nil) (by rfl) (Nat.le_of_ble_eq_true rfl)) fun p6 w6 H3 n6 s3 e3 i3 => ?_
  with_reducible apply s_seq
  refine for_brk (fun σ' H' => ∃ v5' a7 w, σ' = [some v0, some v1, some (.str a.str), some v3, some (.ref pw), some v5', some (.ref p6), a7, none, none] ∧ Same H2 H' ∧ Is K H' v5' (.im (F.gridT (F.dist m))) ∧ H' p6 = some (.lst w) ∧ Ims K H' w ((List.range (k + 1)).map fun j => F.gridT (F.run m (altO a) j))) ?_ fun hd => ?_
  rotate_left
  · refine for_rng K (j := 200) (a_cons e_int a_nil) (by decide) (fun i σ' H' => ∃ v5' a7 w, σ' = [some v0, some v1, some (.str a.str), some v3, some (.ref pw), some v5', some (.ref p6), a7, none, none] ∧ Same H2 H' ∧ Is K H' v5' (.im (F.gridT (F.run m (altO a) i))) ∧ H' p6 = some (.lst w) ∧ Ims K H' w ((List.range (i + 1)).map fun j => F.gridT (F.run m (altO a) j)) ∧ i ≤ k) ?_ ?_ ?_
    · exact fun H' s => ⟨v5, none, w6, rfl, s3.trans s, s.is (s3.is h5), s _ _ e3, L2.Same.ims s i3, Nat.zero_le _⟩
    · rintro i σ' H' hi2 ⟨v5', a7, w, rfl, s4, h5', e4, i4, hik⟩
      have hit : i < 200 := hi2
      with_reducible apply s_seq
      refine s_if K (b := F.same (F.run m (altO a) i) (F.dist m)) (t_of (e_eqG (e_var rfl h5') (e_var rfl (s4.is (s02.is h3))))) (fun hb H5 s5 => ?_) (fun hb H5 s5 => s_next ?_)
      · have e := (same_eq (ms := m) run_sound (dist_math hp).1).mp hb
        have ei : i = k := by
          rcases Nat.lt_or_ge i k with c | c
          · exact absurd e (hlt i c)
          · omega
        subst ei
        refine s_break (hd _ _ ⟨v5', _, w, rfl, s4.trans s5, ?_, s5 _ _ e4, L2.Same.ims s5 i4⟩)
        rw [← e]
        exact s5.is h5'
      · have hik2 : i < k := by
          rcases Nat.lt_or_ge i k with c | c
          · exact c
          · rw [hfix i c, (same_eq (ms := m) (dist_math hp).1 (dist_math hp).1).mpr rfl] at hb
            cases hb
        have s05 := s4.trans s5
        have hword : atI ([.str a.str, .str a.opp.str] : List T) ((i : Int) % 2) = some (.str (altO a i).str) := by
          unfold altO
          by_cases c : i % 2 = 0
          · rw [if_pos c, show ((i : Int) % 2) = 0 by omega]
            rfl
          · rw [if_neg c, show ((i : Int) % 2) = 1 by omega]
            rfl
        with_reducible apply s_seq
        refine s_set K (e_call (d := .im (F.gridT (F.run m (altO a) (i + 1)))) (a_cons (e_var rfl (s05.is (s02.is h0))) (a_cons (e_var rfl (s05.is (s02.is h1))) (a_cons (e_ix (e_var rfl (Ls.sq (s05.is (s2.is hw)))) (e_intopC (e_intc (e_vint rfl)) e_int (by decide)) hword) (a_cons (e_var rfl (s5.is h5')) a_nil)))) ⟨F, m, altO a i, _, rfl, by omega, rfl⟩) fun v6 H6 s6 h6 => ?_
        have e6 := s6 _ _ (s5 _ _ e4)
        have i6 := L2.Same.ims (s5.trans s6) i4
        have lw : w.length = i + 1 := by rw [i6.length, List.length_map, List.length_range]
        refine s_app K rfl e6 (by omega) (e_var rfl h6) fun v7 H7 s7 h7 => ?_
        have e7 := s7 _ _ e6
        have k7 : Keep H7 (upd H7 p6 (.lst (w ++ [v7]))) := keep_lst e7
        refine ⟨v6, _, w ++ [v7], rfl, same_mut (s05.trans (s6.trans s7)) n6, Im.mono k7 (s7.is h6), upd_same, ?_, hik2⟩
        rw [List.range_succ, List.map_append]
        exact ((L2.Same.ims s7 i6).mono k7).snoc (Im.mono k7 h7)
    · rintro σ' H' ⟨v5', a7, w, rfl, s4, h5', e4, i4, hik⟩
      have : (200 : Int).toNat = 200 := rfl
      omega
  · rintro σ' H4 ⟨v5', a7, w, rfl, s4, h5', e4, i4⟩
    have s04 := s02.trans s4
    with_reducible apply s_seq
    refine s_if K (b := !F.same (F.dist m) (F.dist m)) (t_of (e_neG (e_var rfl h5') (e_var rfl (s04.is h3)))) (fun hb => ?_) (fun hb H5 s5 => s_next ?_)
    · rw [(same_eq (ms := m) (dist_math hp).1 (dist_math hp).1).mpr rfl] at hb
      cases hb
    have hst : ∀ {H' : Hp}, Same H4 H' → Is K H' (.ref p6) (.sq ((List.range (k + 1)).map fun j => F.gridT (F.run m (altO a) j))) := fun s => Ls.sq ⟨p6, w, rfl, .inl (.inl (s _ _ e4)), L2.Same.ims s i4⟩
    have hat : ∀ j : Nat, j ≤ k → atI ((List.range (k + 1)).map fun j => F.gridT (F.run m (altO a) j)) (j : Int) = some (F.gridT (F.run m (altO a) j)) := fun j hj => by
      refine atI_of (by omega) ?_
      rw [Int.toNat_natCast, List.getElem?_map, List.getElem?_range (by omega)]
      rfl
    with_reducible apply s_seq
    refine s_setN K (n_genA (enc := fun j : Nat => T.int (j : Int)) (xs := List.range k) (f := fun j : Nat => T.int ((F.nch (F.run m (altO a) j) (F.run m (altO a) (j + 1)) : Nat) : Int)) (ei_eq (i_rng1 (j := (k : Int)) (a_cons (ev_eq (e_intop (f := fun i j => i - j) (e_len (e_var rfl (hst s5))) e_int) (by rw [List.length_map, List.length_range]; congr 2; omega)) a_nil) (by omega)) (by rw [Int.toNat_natCast])) (by rw [List.length_range]; omega) fun j b x H6 hj s6 im => ?_) fun p8 w8 H6 n8 s6 e6 i6 => ?_
    · obtain ⟨hjl, hje⟩ := List.getElem?_eq_some_iff.mp hj
      rw [List.length_range] at hjl
      rw [List.getElem_range] at hje
      subst hje
      rw [im.int_inv]
      refine ⟨_, fun k z => z, rfl, e_call (R := R_law_changed) (a_cons (e_ix (e_var rfl (hst (s5.trans s6))) (e_vint rfl) (hat j (by omega))) (a_cons (e_ix (e_var rfl (hst (s5.trans s6))) (e_intop (f := fun i j => i + j) (e_vint rfl) e_int) (hat (j + 1) (by omega))) a_nil)) ⟨F, _, _, rfl, rfl⟩⟩
    have s06 := s04.trans (s5.trans s6)
    have i6' : Ims K H6 w8 ((F.chL (F.run m (altO a)) k).map T.int) := by
      unfold Fl.chL
      rw [List.map_map]
      exact i6
    have l8 : (F.chL (F.run m (altO a)) k).length = k := by unfold Fl.chL; simp
    have h8 : Is K H6 (.ref p8) (.sq ((F.chL (F.run m (altO a)) k).map T.int)) := Ls.sq ⟨p8, w8, rfl, .inl (.inl e6), i6'⟩
    refine s_cut (fun σ' H' => ∃ b7 q8 u8, σ' = [some v0, some v1, some (.str a.str), some v3, some (.ref pw), some v5', some (.ref p6), b7, some (.ref q8), none] ∧ Same H H' ∧ H' q8 = some (.lst u8) ∧ Ims K H' u8 ((cntL F (F.run m (altO a)) k).map T.int)) ?_ fun hd => ?_
    rotate_left
    · refine s_if K (b := decide (k = 0)) (t_of (ev_eq (e_eq (e_len (e_var rfl h8)) e_int (by rfl) (by rfl)) ?_)) (fun hb H7 s7 => ?_) (fun hb H7 s7 => s_next ?_)
      · rw [List.length_map, l8]
        congr 2
        rw [Bool.eq_iff_iff, T.beq_iff (by rfl) (by rfl)]
        simp
      · have k0 := of_decide_eq_true hb
        refine s_setN K (n_lst (ts := [.int 0]) (a_cons e_int a_nil) (by rfl) (Nat.le_of_ble_eq_true rfl)) fun q8 u8 H8 _ s8 e8 i8 => ?_
        refine hd _ _ ⟨_, q8, u8, rfl, s06.trans (s7.trans s8), e8, ?_⟩
        unfold cntL
        rw [if_pos k0]
        exact i8
      · have k0 := of_decide_eq_false hb
        refine hd _ _ ⟨_, p8, w8, rfl, s06.trans s7, s7 _ _ e6, ?_⟩
        unfold cntL
        rw [if_neg k0]
        exact L2.Same.ims s7 i6'
    · rintro σ' H7 ⟨b7, q8, u8, rfl, s07, e8, i8⟩
      have hq8 : Is K H7 (.ref q8) (.sq ((cntL F (F.run m (altO a)) k).map T.int)) := Ls.sq ⟨q8, u8, rfl, .inl (.inl e8), i8⟩
      have lc : (cntL F (F.run m (altO a)) k).length ≤ 200 := by rw [cntL_len]; omega
      have ec : D.im (.tup ((cntL F (F.run m (altO a)) k).map T.int ++ [.int 0])) = D.im (.tup ((cntL F (F.run m (altO a)) k ++ [0]).map T.int)) := by
        rw [List.map_append]
        rfl
      with_reducible apply s_seq
      refine s_set K (e_tup (ts := [F.gridT (F.dist m), .int ((cntL F (F.run m (altO a)) k).length + 1), .tup ((cntL F (F.run m (altO a)) k ++ [0]).map T.int)]) (a_cons (e_var rfl (s07.is h3)) (a_cons (ev_eq (e_intop (f := fun i j => i + j) (e_len (e_var rfl hq8)) e_int) (by rw [List.length_map])) (a_cons (ev_eq (e_tuple (n_catV rfl e8 i8 (n_lst (ts := [.int 0]) (a_cons e_int a_nil) (by rfl) (Nat.le_of_ble_eq_true rfl)) (by rw [List.length_map]; simp; omega)).ev.sq_ls) ec) a_nil))) (by rfl) (Nat.le_of_ble_eq_true rfl)) fun v9 H8 s8 h9 => ?_
      have s08 := s07.trans s8
      exact s_ret K (e_call (R := R_law_holds) (a_cons (e_call (R := R_law_asked CF) (a_cons e_str (a_cons (e_mk (F := F) (a_cons (e_var rfl (s08.is h0)) a_nil)) (a_cons (e_var rfl (s08.is h1)) (a_cons (e_vstr rfl) a_nil)))) hdue) (a_cons e_non (a_cons (e_var rfl h9) a_nil))) ⟨_, _, _, rfl, ⟨_, hlow, .inl ⟨rfl, rfl, rfl⟩⟩, rfl⟩) fun v H' s' hv => q v H' (s08.trans s') hv
end
end TW

set_option Elab.async false
set_option linter.all false
set_option maxRecDepth 100000
set_option maxHeartbeats 4000000
namespace TW
open PySem PySem.Spec PyProof.Rows L2
/-! ### what is due to a word -/
section
variable {K : PySem.W.Frag} {mg : Str → Option Value} {σ : L2.St} {H : Hp} {ta tb : TE} {CF : Addr} {F : Fl} {m : List Move} {a : Ord} {ts : List T}
theorem Ims.strs : ∀ (xs : List Str), Ims K H (xs.map V.str) (xs.map T.str)
  | [] => .nil
  | n :: r => .cons (.str n) (Ims.strs r)
/-- two lists of the same trees -/
theorem e_eqLs (ha : Ev K ta σ H (.ls ts)) (hb : Ev K tb σ H (.ls ts)) (h : T.okds ts 4 = true) : Ev K (tOp (rEqD K) ta tb) σ H (.im (.bl true)) :=
  e_op ha hb fun x y H1 hx hy Q q => by
    obtain ⟨p, vs, rfl, sp, ip⟩ := hx
    obtain ⟨p2, vs2, rfl, sp2, ip2⟩ := hy
    have hl := T.lays_of ts 4 h
    have sh : SeqAt.shaped (.list (T.ds ts)) = true := by
      unfold SeqAt.shaped
      rw [show (PyData.list (T.ds ts)).canLay0 = PyData.canLayAll0 (T.ds ts) from by simp [PyData.canLay0], hl.1, Bool.true_and]
      exact decide_eq_true (by
        have : (PyData.list (T.ds ts)).depth = PyData.depthAll (T.ds ts) + 1 := by simp [PyData.depth, Nat.add_comm]
        omega)
    refine ⟨.list (T.ds ts), .list (T.ds ts), .lst sp (Ims.dp ip), .lst sp2 (Ims.dp ip2), sh, sh, ?_⟩
    have cl : (PyData.list (T.ds ts)).canLay0 = true := by
      rw [show (PyData.list (T.ds ts)).canLay0 = PyData.canLayAll0 (T.ds ts) from by simp [PyData.canLay0]]
      exact hl.1
    rw [SeqAt.eqv_refl]
    · exact q _ _ (Same.refl _) (Im.bl _)
    · exact cl
theorem okds_strs : ∀ {ws : List Str} {n : Nat}, (∀ x ∈ ws, PyData.strOk x = true) → T.okds (ws.map T.str) n = true
  | [], n, _ => rfl
  | x :: r, n, h => by
    show (T.okd (.str x) n && T.okds (r.map T.str) n) = true
    rw [okds_strs fun y hy => h y (List.mem_cons_of_mem _ hy), Bool.and_true]
    show PyData.strOk x = true
    exact h x List.mem_cons_self
theorem low_two {x y : Str} (hx : PyData.strOk x = true) (hy : PyData.strOk y = true) : Low 4 (.tup [.str x, .str y]) := by
  refine ⟨Nat.le_of_ble_eq_true rfl, fun z hz => ?_⟩
  simp only [List.mem_cons, List.not_mem_nil, or_false] at hz
  rcases hz with rfl | rfl
  · exact low_str hx
  · exact low_str hy
theorem due_cases {ws : List Str} (hl : m.length ≤ 1000) (hw : ws.length ≤ 1000) (hs : ∀ x ∈ ws, PyData.strOk x = true) : (dueT m ws = .non ∧ ∃ os : List Ord, ws = os.map Ord.str ∧ os ≠ [] ∧ os.length ≤ 36 ∧ ∀ q ∈ m, ∃ a ∈ os, a.fwd q = true) ∨
    ((dueT m ws).isN = false ∧ Low 4 (dueT m ws) ∧ R_law_asked CF [.im (.str "by"), F.d CF, .im (maskT m), .sq (ws.map T.str)] (.ok (.im (.tup [.str "refused", dueT m ws])))) := by
  cases e : ws.find? fun x => !decide (x ∈ orderStrs) with
  | some x =>
    have ed : dueT m ws = .tup [.str "BadOrder", .str x] := by unfold dueT; rw [e]
    have en : needW ws = .ex "BadOrder" [("order", .str x)] := by unfold needW; rw [e]
    refine .inr ?_
    rw [ed]
    refine ⟨rfl, low_two (by decide +kernel) (hs x (List.mem_of_find?_eq_some e)), "by", F.d CF, .im (maskT m), .sq (ws.map T.str), _, rfl, .inr ⟨rfl, F, m, ws, rfl, hl, hw, .inl ⟨_, _, en, rfl⟩⟩, .inr ⟨_, _, _, rfl, .bo _, rfl⟩⟩
  | none =>
    have hall : ∀ x ∈ ws, x ∈ orderStrs := fun x hx => by simpa using List.find?_eq_none.mp e x hx
    obtain ⟨os, rfl⟩ := strs_ords hall
    have ed : dueT m (os.map Ord.str) = if (os.map Ord.str).length = 0 then .tup [.str "Empty", .str "word"] else if 36 < (os.map Ord.str).length then .tup [.str "TooMany", .str "word", .int 36] else
        if m.any fun m => !(orders.any fun a => decide (a.str ∈ os.map Ord.str) && a.fwd m) then .tup [.str "NotYes", .str "word"] else .non := by
      unfold dueT
      rw [e]
    have en : needW (os.map Ord.str) = if 36 < (os.map Ord.str).length then .ex "TooMany" [("limit", .int 36), ("what", .str "word")] else .ok (.im .non) := by
      unfold needW
      rw [e]
    rw [List.length_map] at ed en
    by_cases h0 : os.length = 0
    · rw [if_pos h0] at ed
      rw [if_neg (by omega)] at en
      have eo := List.length_eq_zero_iff.mp h0
      subst eo
      refine .inr ?_
      rw [ed]
      exact ⟨rfl, low_two (by decide +kernel) (by decide +kernel), "by", F.d CF, .im (maskT m), .sq _, _, rfl, .inr ⟨rfl, F, m, _, rfl, hl, hw, .inr (.inl ⟨en, rfl, rfl⟩)⟩, .inr ⟨_, _, _, rfl, .em _, rfl⟩⟩
    · rw [if_neg h0] at ed
      by_cases h36 : 36 < os.length
      · rw [if_pos h36] at ed en
        refine .inr ?_
        rw [ed]
        refine ⟨rfl, ?_, "by", F.d CF, .im (maskT m), .sq _, _, rfl, .inr ⟨rfl, F, m, _, rfl, hl, hw, .inl ⟨_, _, en, rfl⟩⟩, .inr ⟨_, _, _, rfl, .tm _ _, rfl⟩⟩
        refine ⟨Nat.le_of_ble_eq_true rfl, fun z hz => ?_⟩
        simp only [List.mem_cons, List.not_mem_nil, or_false] at hz
        rcases hz with rfl | rfl | rfl
        · exact low_str (by decide +kernel)
        · exact low_str (by decide +kernel)
        · exact low_int
      · rw [if_neg h36] at ed en
        have hne : os ≠ [] := fun z => h0 (by rw [z]; rfl)
        have ez : (fun m : Move => !(orders.any fun a => decide (a.str ∈ os.map Ord.str) && a.fwd m)) = fun m => !(os.any fun a => a.fwd m) := by
          funext m
          rw [ords_any]
        rw [ez] at ed
        cases ea : m.any fun m => !(os.any fun a => a.fwd m) with
        | true =>
          rw [ea, if_pos rfl] at ed
          obtain ⟨q, hq, hqf⟩ := List.any_eq_true.mp ea
          refine .inr ?_
          rw [ed]
          refine ⟨rfl, low_two (by decide +kernel) (by decide +kernel), "by", F.d CF, .im (maskT m), .sq _, _, rfl, .inr ⟨rfl, F, m, _, rfl, hl, hw, .inr (.inr ⟨os, rfl, hne, by omega, .inl ⟨q, hq, fun a ha => ?_, rfl⟩⟩)⟩, .inr ⟨_, _, _, rfl, .ny _, rfl⟩⟩
          cases z : a.fwd q with
          | false => rfl
          | true =>
            have : (os.any fun a => a.fwd q) = true := List.any_eq_true.mpr ⟨a, ha, z⟩
            rw [this] at hqf
            cases hqf
        | false =>
          rw [ea, if_neg Bool.false_ne_true] at ed
          refine .inl ⟨ed, os, rfl, hne, by omega, fun q hq => ?_⟩
          have := List.any_eq_false.mp ea q hq
          have z : (os.any fun a => a.fwd q) = true := by
            cases y : os.any fun a => a.fwd q with
            | true => rfl
            | false => rw [y] at this; exact absurd rfl this
          exact List.any_eq_true.mp z
theorem by_due {os : List Ord} {n : Nat} (hl : m.length ≤ 1000) (ho : os ≠ []) (h36 : os.length ≤ 36) (hf : ∀ q ∈ m, ∃ a ∈ os, a.fwd q = true) (hn : n ≤ 8000) (h1 : F.idle (F.run m (wordO os)) n = os.length) (h2 : ∀ k, k < n → F.idle (F.run m (wordO os)) k < os.length) (hD : F.run m (wordO os) n = F.dist m) :
    R_law_asked CF [.im (.str "by"), F.d CF, .im (maskT m), .sq ((os.map Ord.str).map T.str)] (.ok (.im (.tup [.str "told", .tup [F.gridT (F.dist m), .int n]]))) := by
  refine ⟨"by", F.d CF, .im (maskT m), .sq _, .ok (.im (.tup [F.gridT (F.dist m), .int n])), rfl, .inr ⟨rfl, F, m, _, rfl, hl, by rw [List.length_map]; omega, .inr (.inr ⟨os, rfl, ho, h36, .inr ⟨hf, n, by omega, h1, h2, ?_⟩⟩)⟩, .inl ⟨_, rfl, rfl⟩⟩
  rw [hD]
end
end TW

set_option Elab.async false
set_option linter.all false
set_option maxRecDepth 100000
set_option maxHeartbeats 4000000
namespace TW
open PySem PySem.Spec PyProof.Rows L2
local macro_rules | `(tactic| walk_at "ev") => `(tactic| repeat' (first
  | with_reducible exact e_int | with_reducible exact e_str | with_reducible exact e_bl | with_reducible exact e_non
  | exact e_vint rfl | exact e_vstr rfl | exact e_vbl rfl | exact e_vnon rfl | exact e_var rfl (by assumption)
  | exact e_sqv rfl (by assumption) | exact e_dkI rfl (by assumption) rfl
  | with_reducible apply e_call | with_reducible apply e_intc | with_reducible apply e_abs
  | with_reducible apply e_intop | with_reducible apply e_cmp | with_reducible apply e_intopC
  | with_reducible apply e_len | with_reducible apply e_pow | with_reducible apply e_min2 | with_reducible apply e_max2
  | with_reducible exact a_nil | with_reducible apply a_cons
  | with_reducible apply t_ofB | with_reducible apply t_of
  | (with_reducible apply mulR; omega) | (with_reducible apply mulL; omega) | (with_reducible show (_ < _); omega)))
section
variable {P : Program} {w : World} {K : PySem.W.Frag} {mg : Str → Option Value} {base : Heap} {CF : Addr}
theorem sc_law_settle_by_holds : FnScope ["store", "rows", "mask", "word", "grid", "due", "numbers", "idle", "count", "k", "fresh", "floor", "handed", "good"] ["store", "rows", "mask", "word", "grid"] (defScope (top 90)) := ⟨rfl, rfl, rfl, by decide +kernel, rfl, by decide +kernel, by decide +kernel⟩
theorem ok_law_settle_by_holds {f : Addr} {fd : FuncData} (F : FunD K "_law_settle_by_holds" "_law_settle_by_holds" (defArgs (top 90)) (defBody (top 90)) (defScope (top 90)) [] [] f fd) (tx : Tx w K mg CF) (G_law_same : Gf P w K mg base "_law_same" 6 (sp_law_same 4 K mg CF)) (G_law_holds : Gf P w K mg base "_law_holds" 7 (sp_law_holds K mg CF)) (G_law_asked : Gf P w K mg base "_law_asked" 10 (sp_law_asked K mg CF)) (G_law_sequence : Gf P w K mg base "_law_sequence" 5 (sp_law_sequence K mg CF)) (M_Floor : Mkf P w K mg base CF "Floor" 5 (sp_Floor_init K mg CF)) (G_law_sweep : Gf P w K mg base "_law_sweep" 4 (sp_law_sweep K mg CF)) (G_law_start_grid : Gf P w K mg base "_law_start_grid" 1 (sp_law_start_grid K mg CF)) (G_law_word_due : Gf P w K mg base "_law_word_due" 3 (sp_law_word_due K mg CF)) : FnOk P w K mg base (L2.CX P w) 11 f fd ["store", "rows", "mask", "word", "grid"] (sp_law_settle_by_holds K mg CF) := by
  refine F.ok sc_law_settle_by_holds (fun vs H Q E h => ?_) (fun cdv A outer s H vs Q E hr h => ?_)
  · first | (obtain ⟨_, rfl, _⟩ := h; rfl) | (obtain ⟨_, _, rfl, _⟩ := h; rfl) | (obtain ⟨_, _, _, rfl, _⟩ := h; rfl) | (obtain ⟨_, _, _, _, rfl, _⟩ := h; rfl) | (obtain ⟨_, _, _, _, _, rfl, _⟩ := h; rfl) | (obtain ⟨_, _, _, _, _, _, rfl, _⟩ := h; rfl) | (obtain ⟨_, _, _, _, _, _, _, rfl, _⟩ := h; rfl) | (obtain ⟨_, _, _, _, _, _, _, _, rfl, _⟩ := h; rfl) | (obtain ⟨_, _, _, _, _, _, _, _, _, rfl, _⟩ := h; rfl) | (obtain ⟨_, _, _, _, _, _, _, _, _, _, rfl, _⟩ := h; rfl) | exact spInit_len h rfl | exact spN_len h (by intro ds o hh; first | (obtain ⟨rfl, _⟩ := hh; rfl) | (obtain ⟨_, rfl, _⟩ := hh; rfl) | (obtain ⟨_, _, rfl, _⟩ := hh; rfl) | (obtain ⟨_, _, _, rfl, _⟩ := hh; rfl)) | exact spO_len h (by intro ds o hh; first | (obtain ⟨rfl, _⟩ := hh; rfl) | (obtain ⟨_, rfl, _⟩ := hh; rfl) | (obtain ⟨_, _, rfl, _⟩ := hh; rfl) | (obtain ⟨_, _, _, rfl, _⟩ := hh; rfl) | (obtain ⟨_, _, _, _, rfl, _⟩ := hh; rfl) | (obtain ⟨_, _, _, _, _, rfl, _⟩ := hh; rfl) | (obtain ⟨_, _, _, _, _, _, rfl, _⟩ := hh; rfl))
  refine ⟨_, (pss_cons (ps_asg (pe_g G_law_word_due (hr.mono (by decide)) (takes_of rfl rfl rfl rfl) (pa_cons (pv 2) (pa_cons (pv 3) pa_nil))) (pg_name (i := 5) sc_law_settle_by_holds.nd rfl (by first | exact Or.inl rfl | exact Or.inr rfl)))
    (pss_cons (ps_asg (pe_g G_law_start_grid (hr.mono (by decide)) (takes_of rfl rfl rfl rfl) (pa_cons (pv 1) pa_nil)) (pg_name (i := 6) sc_law_settle_by_holds.nd rfl (by first | exact Or.inl rfl | exact Or.inr rfl)))
    (pss_cons (ps_asg pe_int (pg_name (i := 7) sc_law_settle_by_holds.nd rfl (by first | exact Or.inl rfl | exact Or.inr rfl)))
    (pss_cons (ps_asg pe_int (pg_name (i := 8) sc_law_settle_by_holds.nd rfl (by first | exact Or.inl rfl | exact Or.inr rfl)))
    (pss_cons (ps_if (pt_cmp (pc_isN (pv 5)) rfl)
    (pss_cons (ps_for (passes_of rfl) rfl (pi_range1 rfl tx.bt.range (pa_cons pe_int pa_nil)) (pg_name (i := 9) sc_law_settle_by_holds.nd rfl (by first | exact Or.inl rfl | exact Or.inr rfl))
    (pss_cons (ps_if (pt_cmpR (op_eqD hr.units) (pv 7) (pe_len tx.bt (pv 3)) (nomark _))
    (pss_one ps_break)
    pss_nil)
    (pss_cons (ps_asg (pe_g G_law_sweep (hr.mono (by decide)) (takes_of rfl rfl rfl rfl) (pa_cons (pv 1) (pa_cons (pv 2) (pa_cons (pe_ix ix_seq (pv 3) (pe_op op_mod (pe_intc tx.bt (pv 9)) (pe_len tx.bt (pv 3))) (fun _ _ => rfl)) (pa_cons (pv 6) pa_nil))))) (pg_name (i := 10) sc_law_settle_by_holds.nd rfl (by first | exact Or.inl rfl | exact Or.inr rfl)))
    (pss_cons (ps_asg (pe_op op_add (pv 7) pe_int) (pg_name (i := 7) sc_law_settle_by_holds.nd rfl (by first | exact Or.inl rfl | exact Or.inr rfl)))
    (pss_cons (ps_if (pt_cmpR (op_neD hr.units) (pv 10) (pv 6) (nomark _))
    (pss_one (ps_asg pe_int (pg_name (i := 7) sc_law_settle_by_holds.nd rfl (by first | exact Or.inl rfl | exact Or.inr rfl))))
    pss_nil)
    (pss_cons (ps_asg (pv 10) (pg_name (i := 6) sc_law_settle_by_holds.nd rfl (by first | exact Or.inl rfl | exact Or.inr rfl)))
    (pss_one (ps_asg (pe_op op_add (pv 8) pe_int) (pg_name (i := 8) sc_law_settle_by_holds.nd rfl (by first | exact Or.inl rfl | exact Or.inr rfl))))))))))
    (pss_one (ps_if (pt_cmpR (op_neD hr.units) (pv 6) (pv 4) (nomark _))
    (pss_one (ps_ret pe_bl))
    pss_nil)))
    pss_nil)
    (pss_cons (ps_asg (pe_mk (j := 0) M_Floor (hr.mono (by decide)) (pa_cons (pv 1) pa_nil)) (pg_name (i := 11) sc_law_settle_by_holds.nd rfl (by first | exact Or.inl rfl | exact Or.inr rfl)))
    (pss_cons (ps_asg (pe_g G_law_sequence (hr.mono (by decide)) (takes_of rfl rfl rfl rfl) (pa_cons (pv 0) (pa_cons (pv 3) pa_nil))) (pg_name (i := 12) sc_law_settle_by_holds.nd rfl (by first | exact Or.inl rfl | exact Or.inr rfl)))
    (pss_cons (ps_asg (pe_g G_law_holds (hr.mono (by decide)) (takes_of rfl rfl rfl rfl) (pa_cons (pe_g G_law_asked (hr.mono (by decide)) (takes_of rfl rfl rfl rfl) (pa_cons pe_str (pa_cons (pv 11) (pa_cons (pv 2) (pa_cons (pv 12) pa_nil))))) (pa_cons (pv 5) (pa_cons (pe_tup (pa_cons (pv 4) (pa_cons (pv 8) pa_nil))) pa_nil)))) (pg_name (i := 13) sc_law_settle_by_holds.nd rfl (by first | exact Or.inl rfl | exact Or.inr rfl)))
    (pss_one (ps_ret (pe_and (pv 13) (pe_and (pe_cmpR (op_eqD hr.units) (pe_list tx.bt (pv 12)) (pv 3) (nomark _)) (pe_one (pe_g G_law_same (hr.mono (by decide)) (takes_of rfl rfl rfl rfl) (pa_cons (pe_fld (pv 11) rfl) (pa_cons (pv 1) pa_nil)))))))))))))))), ?_⟩
  try dsimp only [cxOf]
  obtain ⟨a, b, p, v1, v2, v4, F, m, ws, rfl, hok, h1, h2, hp, h4, hm, hwl, hstr, q⟩ := h
  have hl := hm.len
  have hz := hm.nz
  have hpos := hm.pos
  obtain ⟨kvs, ek⟩ := hok.dk
  have npa : p ≠ a := ne_of hp ek (by intro z; cases z)
  have h3 : Is K H (.ref p) (.ls (ws.map T.str)) := ⟨p, _, rfl, .inl (.inl hp), Ims.strs ws⟩
  with_reducible apply s_seq
  refine s_set K (e_call (d := .im (dueT m ws)) (a_cons (e_var rfl h2) (a_cons (e_var rfl (show Is K H (.ref p) (.sq (ws.map T.str)) from Ls.sq h3)) a_nil)) ⟨m, ws, rfl, by omega, hwl, rfl⟩) fun v5 H1 s1 h5 => ?_
  with_reducible apply s_seq
  refine s_set K (e_call (d := .im (F.gridT F.start)) (a_cons (e_var rfl (s1.is h1)) a_nil) ⟨F, rfl, rfl⟩) fun v6 H2 s2 h6 => ?_
  with_reducible apply s_seq
  refine s_setI K e_int fun H3 s3 => ?_
  with_reducible apply s_seq
  refine s_setI K e_int fun H4 s4 => ?_
  have s04 := s1.trans (s2.trans (s3.trans s4))
  refine s_cut (fun σ' H' => ∃ (v6 : V) (a7 : Option V) (n : Nat) (a9 a10 : Option V), σ' = [some (.ref a), some v1, some v2, some (.ref p), some v4, some v5, some v6, a7, some (.int (n : Int)), a9, a10, none, none, none] ∧ Same H H' ∧ Is K H' v5 (.im (dueT m ws)) ∧
    ∃ t, R_law_asked CF [.im (.str "by"), F.d CF, .im (maskT m), .sq (ws.map T.str)] (.ok (.im t)) ∧ R_law_holds [.im t, .im (dueT m ws), .im (.tup [F.gridT (F.dist m), .int (n : Int)])] (.ok (.im (.bl true)))) ?_ fun hd => ?_
  rotate_left
  · rcases due_cases (CF := CF) (F := F) (m := m) (by omega) hwl hstr with ⟨ed, os, rfl, ho, h36, hf⟩ | ⟨ed, hlow, hask⟩
    rotate_left
    · refine s_if K (b := false) (t_of (ev_eq (e_isN (e_var rfl ((s2.trans (s3.trans s4)).is h5)) rfl) (by rw [ed]))) (fun z => by cases z) (fun _ H5 s5 => s_next ?_)
      exact hd _ _ ⟨v6, _, 0, _, _, rfl, s04.trans s5, (s2.trans (s3.trans (s4.trans s5))).is h5, _, hask, _, _, _, rfl, ⟨_, hlow, .inr ⟨ed, rfl, rfl⟩⟩, rfl⟩
    obtain ⟨n, n8, hn1, hn2, hD⟩ := word_math (F := F) hpos ho h36 hf
    have hlos : 0 < os.length := List.length_pos_iff.mpr ho
    refine s_if K (b := true) (t_of (ev_eq (e_isN (e_var rfl ((s2.trans (s3.trans s4)).is h5)) rfl) (by rw [ed]; rfl))) (fun _ H5 s5 => ?_) (fun z => by cases z)
    have s05 := s04.trans s5
    have h55 := (s2.trans (s3.trans (s4.trans s5))).is h5
    have h3q : ∀ {H' : Hp}, Same H H' → Is K H' (.ref p) (.sq ((os.map Ord.str).map T.str)) := fun s => s.is (d := .sq _) (Ls.sq h3)
    with_reducible apply s_seq
    refine for_brk (fun σ' H' => ∃ v6 a9 a10, σ' = [some (.ref a), some v1, some v2, some (.ref p), some v4, some v5, some v6, some (.int (os.length : Int)), some (.int (n : Int)), a9, a10, none, none, none] ∧ Same H5 H' ∧ Is K H' v6 (.im (F.gridT (F.dist m)))) ?_ fun hd2 => ?_
    rotate_left
    · refine for_rng K (j := 9000) (a_cons e_int a_nil) (by decide) (fun i σ' H' => ∃ v6 a9 a10, σ' = [some (.ref a), some v1, some v2, some (.ref p), some v4, some v5, some v6, some (.int (F.idle (F.run m (wordO os)) i : Nat)), some (.int (i : Int)), a9, a10, none, none, none] ∧ Same H5 H' ∧ Is K H' v6 (.im (F.gridT (F.run m (wordO os) i))) ∧ i ≤ n) ?_ ?_ ?_
      · exact fun H' s => ⟨v6, _, _, rfl, s, (s3.trans (s4.trans (s5.trans s))).is h6, Nat.zero_le _⟩
      · rintro k σ' H6 hk ⟨v7, a9, a10, rfl, s6, h7, hkn⟩
        have s06 := s05.trans s6
        with_reducible apply s_seq
        refine s_if K (b := decide (F.idle (F.run m (wordO os)) k = os.length)) (t_of (ev_eq (e_eq (e_vint rfl) (e_len (e_var rfl (h3q s06))) (by rfl) (by rfl)) ?_)) (fun hb H7 s7 => ?_) (fun hb H7 s7 => s_next ?_)
        · rw [List.length_map, List.length_map]
          congr 2
          rw [Bool.eq_iff_iff, T.beq_iff (by rfl) (by rfl)]
          simp
          omega
        · have hb := of_decide_eq_true hb
          have kn : k = n := by
            rcases Nat.lt_or_ge k n with c | c
            · have := hn2 k c
              omega
            · omega
          subst kn
          refine s_break (hd2 _ _ ⟨v7, some (.int (k : Int)), a10, ?_, s6.trans s7, ?_⟩)
          · rw [hb]
            rfl
          · rw [← hD]
            exact s7.is h7
        · have hb := of_decide_eq_false hb
          have kn : k < n := by
            rcases Nat.lt_or_ge k n with c | c
            · exact c
            · have e : k = n := by omega
              rw [e] at hb
              exact absurd hn1 hb
          have s07 := s06.trans s7
          have ex : atI ((os.map Ord.str).map T.str) ((k : Int) % ((((os.map Ord.str).map T.str).length : Nat) : Int)) = some (.str (wordO os k).str) := by
            rw [List.length_map, List.length_map]
            have hmm := Nat.mod_lt k hlos
            have e : (k : Int) % (os.length : Int) = ((k % os.length : Nat) : Int) := by omega
            rw [e]
            refine atI_nat ?_
            rw [List.getElem?_map, List.getElem?_map, List.getElem?_eq_getElem hmm]
            unfold wordO
            rw [List.getD_eq_getElem?_getD, List.getElem?_eq_getElem hmm]
            rfl
          have hlen : 0 < ((((os.map Ord.str).map T.str).length : Nat) : Int) := by
            rw [List.length_map, List.length_map]
            omega
          with_reducible apply s_seq
          refine s_set K (e_call (d := .im (F.gridT (F.run m (wordO os) (k + 1)))) (a_cons (e_var rfl (s07.is h1)) (a_cons (e_var rfl (s07.is h2)) (a_cons (e_ix (e_var rfl (h3q s07)) (e_intopC (e_intc (e_vint rfl)) (e_len (e_var rfl (h3q s07))) hlen) ex) (a_cons (e_var rfl (s7.is h7)) a_nil)))) ⟨F, m, wordO os k, _, rfl, by omega, rfl⟩) fun v8 H8 s8 h8 => ?_
          with_reducible apply s_seq
          refine s_setI K (e_intop (f := fun i j => i + j) (e_vint rfl) e_int) fun H9 s9 => ?_
          have s79 := s7.trans (s8.trans s9)
          refine s_cut (fun σ' H' => ∃ v6, σ' = [some (.ref a), some v1, some v2, some (.ref p), some v4, some v5, some v6, some (.int (F.idle (F.run m (wordO os)) (k + 1) : Nat)), some (.int (k : Int)), some (.int (k : Int)), some v8, none, none, none] ∧ Same H9 H') ?_ fun hd3 => ?_
          rotate_left
          · refine s_if K (b := !F.same (F.run m (wordO os) (k + 1)) (F.run m (wordO os) k)) (t_of (e_neG (e_var rfl (s9.is h8)) (e_var rfl (s79.is h7)))) (fun hb2 H10 s10 => ?_) (fun hb2 H10 s10 => s_next ?_)
            · have e : F.same (F.run m (wordO os) (k + 1)) (F.run m (wordO os) k) = false := by
                cases z : F.same (F.run m (wordO os) (k + 1)) (F.run m (wordO os) k) with
                | false => rfl
                | true => rw [z] at hb2; cases hb2
              refine s_setI K e_int fun H11 s11 => hd3 _ _ ⟨v7, ?_, s10.trans s11⟩
              have e2 : F.idle (F.run m (wordO os)) (k + 1) = 0 := by
                unfold Fl.idle
                rw [e]
                rfl
              rw [e2]
              rfl
            · have e : F.same (F.run m (wordO os) (k + 1)) (F.run m (wordO os) k) = true := by
                cases z : F.same (F.run m (wordO os) (k + 1)) (F.run m (wordO os) k) with
                | true => rfl
                | false => rw [z] at hb2; cases hb2
              refine hd3 _ _ ⟨v7, ?_, s10⟩
              have e2 : F.idle (F.run m (wordO os)) (k + 1) = F.idle (F.run m (wordO os)) k + 1 := by
                rw [Fl.idle, e]
                rfl
              rw [e2]
              rfl
          · rintro σ' H10 ⟨v9, rfl, s10⟩
            with_reducible apply s_seq
            refine s_set K (e_var rfl ((s9.trans s10).is h8)) fun v11 H11 s11 h11 => ?_
            refine s_setI K (e_intop (f := fun i j => i + j) (e_vint rfl) e_int) fun H12 s12 => ?_
            exact ⟨v11, _, _, rfl, s6.trans (s79.trans (s10.trans (s11.trans s12))), s12.is h11, kn⟩
      · rintro σ' H' ⟨v7, a9, a10, rfl, s6, h7, hkn⟩
        have : (9000 : Int).toNat = 9000 := rfl
        omega
    · rintro σ' H6 ⟨v7, a9, a10, rfl, s6, h7⟩
      refine s_if K (b := !F.same (F.dist m) (F.dist m)) (t_of (e_neG (e_var rfl h7) (e_var rfl ((s05.trans s6).is h4)))) (fun hb => ?_) (fun hb H7 s7 => s_next ?_)
      · rw [(same_eq (ms := m) (dist_math hpos).1 (dist_math hpos).1).mpr rfl] at hb
        cases hb
      · exact hd _ _ ⟨v7, _, n, _, _, rfl, s05.trans (s6.trans s7), (s6.trans s7).is h55, _, by_due (by omega) ho h36 hf n8 hn1 hn2 hD, _, _, _, rfl, ⟨_, low_by, .inl ⟨rfl, ed, rfl⟩⟩, rfl⟩
  · rintro σ' H5 ⟨v7, a7, n, a9, a10, rfl, s5, h55, t, hask, hhold⟩
    with_reducible apply s_seq
    refine s_set K (e_mk (F := F) (a_cons (e_var rfl (s5.is h1)) a_nil)) fun v11 H6 s6 h11 => ?_
    have s06 := s5.trans s6
    with_reducible apply s_seq
    refine ⟨_, rfl, _, rfl, a, b, p, _, rfl, hok.same s06, .inl (.inl (.inl (s06 _ _ hp))), fun q12 H7 m7 ok7 hq12 => ?_⟩
    refine s_gN ?_
    dsimp only
    have ok6 := hok.same s06
    have h12 : Is K H7 (.ref q12) (.sq (ws.map T.str)) := ⟨q12, _, rfl, hq12, Ims.strs ws⟩
    have g1 := m7.isS ok6 (s06.is h1)
    have g2 := m7.isS ok6 (s06.is h2)
    have g4 := m7.isS ok6 (s06.is h4)
    have g5 := m7.isS ok6 (s6.is h55)
    have g11 := m7.isS ok6 h11
    have gp : H7 p = some (.lst (ws.map V.str)) := m7 p _ npa (s06 _ _ hp)
    with_reducible apply s_seq
    refine s_setB K (e_call (R := R_law_holds) (a_cons (e_call (R := R_law_asked CF) (a_cons e_str (a_cons (e_var rfl g11) (a_cons (e_var rfl g2) (a_cons (e_var rfl h12) a_nil)))) hask) (a_cons (e_var rfl g5) (a_cons (e_tup (ts := [F.gridT (F.dist m), .int (n : Int)]) (a_cons (e_var rfl g4) (a_cons (e_vint rfl) a_nil)) (by rfl) (Nat.le_of_ble_eq_true rfl)) a_nil))) hhold) fun H8 s8 => ?_
    exact s_ret K (ev_eq (e_and (e_vbl rfl) fun _ => e_and (e_eqLs (n_list (e_var rfl (s8.is h12))).ev (e_var rfl (⟨p, _, rfl, .inl (.inl (s8 _ _ gp)), Ims.strs ws⟩ : Ls K H8 (.ref p) (ws.map T.str))) (okds_strs hstr)) fun _ => e_call (R := R_law_same 4) (a_cons (e_rows tx.fl (e_var rfl (s8.is g11))) (a_cons (e_var rfl (s8.is g1)) a_nil)) ⟨_, rfl, low_rows (d := 1), rfl⟩) (by rfl)) fun v H' s' hv => by
      rw [hv.bv]
      exact q H' (s06.sm.trans (m7.trans (s8.trans s').sm)) (ok7.same (s8.trans s'))
end
end TW

set_option Elab.async false
set_option linter.all false
set_option maxRecDepth 100000
set_option maxHeartbeats 4000000
namespace TW
open PySem PySem.Spec PyProof.Rows L2
local macro_rules | `(tactic| walk_at "ev") => `(tactic| repeat' (first
  | with_reducible exact e_int | with_reducible exact e_str | with_reducible exact e_bl | with_reducible exact e_non
  | exact e_vint rfl | exact e_vstr rfl | exact e_vbl rfl | exact e_vnon rfl | exact e_var rfl (by assumption)
  | exact e_sqv rfl (by assumption) | exact e_dkI rfl (by assumption) rfl
  | with_reducible apply e_call | with_reducible apply e_intc | with_reducible apply e_abs
  | with_reducible apply e_intop | with_reducible apply e_cmp | with_reducible apply e_intopC
  | with_reducible apply e_len | with_reducible apply e_pow | with_reducible apply e_min2 | with_reducible apply e_max2
  | with_reducible exact a_nil | with_reducible apply a_cons
  | with_reducible apply t_ofB | with_reducible apply t_of
  | (with_reducible apply mulR; omega) | (with_reducible apply mulL; omega) | (with_reducible show (_ < _); omega)))
section
variable {P : Program} {w : World} {K : PySem.W.Frag} {mg : Str → Option Value} {base : Heap} {CF : Addr}
def Fl.one (F : Fl) : Fl := ⟨1, F.w, F.it, by decide, F.w1, by decide, F.wm⟩
theorem one_rows {F : Fl} : (Fl.one F).rows = F.rows.take 1 := by
  have h1 := F.h1
  unfold Fl.rows rowsL Fl.one
  rw [← List.map_take, List.take_range, Nat.min_eq_left h1]
theorem one_whole {F : Fl} (h : F.h = 1) : (Fl.one F).rows = F.rows := by
  rw [one_rows]
  unfold Fl.rows rowsL
  rw [h]
  rfl
theorem sc_law : FnScope ["script", "store", "rows", "mask", "order", "word", "less", "grid", "bad"] ["script"] (defScope (top 94)) := ⟨rfl, rfl, rfl, by decide +kernel, rfl, by decide +kernel, by decide +kernel⟩
theorem ok_law {f : Addr} {fd : FuncData} (F : FunD K "law" "law" (defArgs (top 94)) (defBody (top 94)) (defScope (top 94)) [] [] f fd) (tx : Tx w K mg CF) (G_law_settle_by_holds : Gf P w K mg base "_law_settle_by_holds" 11 (sp_law_settle_by_holds K mg CF)) (G_law_counter : Gf P w K mg base "_law_counter" 1 (sp_law_counter K mg CF)) (G_law_holds : Gf P w K mg base "_law_holds" 7 (sp_law_holds K mg CF)) (G_law_asked : Gf P w K mg base "_law_asked" 10 (sp_law_asked K mg CF)) (M_Floor : Mkf P w K mg base CF "Floor" 5 (sp_Floor_init K mg CF)) (G_law_bad_order : Gf P w K mg base "_law_bad_order" 5 (sp_law_bad_order K mg CF)) (G_law_settle_holds : Gf P w K mg base "_law_settle_holds" 11 (sp_law_settle_holds K mg CF)) (G_law_distances : Gf P w K mg base "_law_distances" 3 (sp_law_distances K mg CF)) (G_law_drawn_word : Gf P w K mg base "_law_drawn_word" 7 (sp_law_drawn_word K mg CF)) (G_law_order : Gf P w K mg base "_law_order" 5 (sp_law_order K mg CF)) (G_law_drawn_mask : Gf P w K mg base "_law_drawn_mask" 7 (sp_law_drawn_mask K mg CF)) (G_law_drawn_floor : Gf P w K mg base "_law_drawn_floor" 5 (sp_law_drawn_floor K mg CF)) (G_law_store : Gf P w K mg base "_law_store" 1 (sp_law_store K mg CF)) : FnOk P w K mg base (L2.CX P w) 12 f fd ["script"] (sp_law K mg CF) := by
  refine F.ok sc_law (fun vs H Q E h => ?_) (fun cdv A outer s H vs Q E hr h => ?_)
  · first | (obtain ⟨_, rfl, _⟩ := h; rfl) | (obtain ⟨_, _, rfl, _⟩ := h; rfl) | (obtain ⟨_, _, _, rfl, _⟩ := h; rfl) | (obtain ⟨_, _, _, _, rfl, _⟩ := h; rfl) | (obtain ⟨_, _, _, _, _, rfl, _⟩ := h; rfl) | (obtain ⟨_, _, _, _, _, _, rfl, _⟩ := h; rfl) | (obtain ⟨_, _, _, _, _, _, _, rfl, _⟩ := h; rfl) | (obtain ⟨_, _, _, _, _, _, _, _, rfl, _⟩ := h; rfl) | (obtain ⟨_, _, _, _, _, _, _, _, _, rfl, _⟩ := h; rfl) | (obtain ⟨_, _, _, _, _, _, _, _, _, _, rfl, _⟩ := h; rfl) | exact spInit_len h rfl | exact spN_len h (by intro ds o hh; first | (obtain ⟨rfl, _⟩ := hh; rfl) | (obtain ⟨_, rfl, _⟩ := hh; rfl) | (obtain ⟨_, _, rfl, _⟩ := hh; rfl) | (obtain ⟨_, _, _, rfl, _⟩ := hh; rfl)) | exact spO_len h (by intro ds o hh; first | (obtain ⟨rfl, _⟩ := hh; rfl) | (obtain ⟨_, rfl, _⟩ := hh; rfl) | (obtain ⟨_, _, rfl, _⟩ := hh; rfl) | (obtain ⟨_, _, _, rfl, _⟩ := hh; rfl) | (obtain ⟨_, _, _, _, rfl, _⟩ := hh; rfl) | (obtain ⟨_, _, _, _, _, rfl, _⟩ := hh; rfl) | (obtain ⟨_, _, _, _, _, _, rfl, _⟩ := hh; rfl))
  refine ⟨_, (pss_cons (ps_asg (pe_g G_law_store (hr.mono (by decide)) (takes_of rfl rfl rfl rfl) (pa_cons (pv 0) pa_nil)) (pg_name (i := 1) sc_law.nd rfl (by first | exact Or.inl rfl | exact Or.inr rfl)))
    (pss_cons (ps_asg (pe_g G_law_drawn_floor (hr.mono (by decide)) (takes_of rfl rfl rfl rfl) (pa_cons (pv 1) pa_nil)) (pg_name (i := 2) sc_law.nd rfl (by first | exact Or.inl rfl | exact Or.inr rfl)))
    (pss_cons (ps_asg (pe_g G_law_drawn_mask (hr.mono (by decide)) (takes_of rfl rfl rfl rfl) (pa_cons (pv 1) (pa_cons pe_int pa_nil))) (pg_name (i := 3) sc_law.nd rfl (by first | exact Or.inl rfl | exact Or.inr rfl)))
    (pss_cons (ps_asg (pe_g G_law_order (hr.mono (by decide)) (takes_of rfl rfl rfl rfl) (pa_cons (pv 1) pa_nil)) (pg_name (i := 4) sc_law.nd rfl (by first | exact Or.inl rfl | exact Or.inr rfl)))
    (pss_cons (ps_asg (pe_g G_law_drawn_word (hr.mono (by decide)) (takes_of rfl rfl rfl rfl) (pa_cons (pv 1) pa_nil)) (pg_name (i := 5) sc_law.nd rfl (by first | exact Or.inl rfl | exact Or.inr rfl)))
    (pss_cons (ps_asg (pe_slice sl_tupA (pv 2) po_none (po_some pe_int)) (pg_name (i := 6) sc_law.nd rfl (by first | exact Or.inl rfl | exact Or.inr rfl)))
    (pss_cons (ps_asg (pe_g G_law_distances (hr.mono (by decide)) (takes_of rfl rfl rfl rfl) (pa_cons (pv 2) (pa_cons (pv 3) pa_nil))) (pg_name (i := 7) sc_law.nd rfl (by first | exact Or.inl rfl | exact Or.inr rfl)))
    (pss_cons (ps_if (pt_not (pt_val (pe_g G_law_settle_holds (hr.mono (by decide)) (takes_of rfl rfl rfl rfl) (pa_cons (pv 2) (pa_cons (pv 3) (pa_cons (pv 4) (pa_cons (pv 7) pa_nil)))))))
    (pss_one (ps_ret pe_bl))
    pss_nil)
    (pss_cons (ps_if (pt_not (pt_val (pe_g G_law_settle_by_holds (hr.mono (by decide)) (takes_of rfl rfl rfl rfl) (pa_cons (pv 1) (pa_cons (pv 2) (pa_cons (pv 3) (pa_cons (pv 5) (pa_cons (pv 7) pa_nil))))))))
    (pss_one (ps_ret pe_bl))
    pss_nil)
    (pss_cons (ps_if (pt_not (pt_val (pe_g G_law_settle_holds (hr.mono (by decide)) (takes_of rfl rfl rfl rfl) (pa_cons (pv 6) (pa_cons (pv 3) (pa_cons (pv 4) (pa_cons (pe_g G_law_distances (hr.mono (by decide)) (takes_of rfl rfl rfl rfl) (pa_cons (pv 6) (pa_cons (pv 3) pa_nil))) pa_nil)))))))
    (pss_one (ps_ret pe_bl))
    pss_nil)
    (pss_cons (ps_asg (pe_g G_law_bad_order (hr.mono (by decide)) (takes_of rfl rfl rfl rfl) (pa_cons (pv 1) pa_nil)) (pg_name (i := 8) sc_law.nd rfl (by first | exact Or.inl rfl | exact Or.inr rfl)))
    (pss_cons (ps_if (pt_not (pt_val (pe_g G_law_holds (hr.mono (by decide)) (takes_of rfl rfl rfl rfl) (pa_cons (pe_g G_law_asked (hr.mono (by decide)) (takes_of rfl rfl rfl rfl) (pa_cons pe_str (pa_cons (pe_mk (j := 0) M_Floor (hr.mono (by decide)) (pa_cons (pv 2) pa_nil)) (pa_cons (pv 3) (pa_cons (pv 8) pa_nil))))) (pa_cons (pe_tup (pa_cons pe_str (pa_cons (pv 8) pa_nil))) (pa_cons pe_non pa_nil))))))
    (pss_one (ps_ret pe_bl))
    pss_nil)
    (pss_one (ps_ret (pe_g G_law_settle_by_holds (hr.mono (by decide)) (takes_of rfl rfl rfl rfl) (pa_cons (pv 1) (pa_cons (pv 2) (pa_cons (pv 3) (pa_cons (pe_lst (pa_cons (pv 4) (pa_cons (pe_g G_law_counter (hr.mono (by decide)) (takes_of rfl rfl rfl rfl) (pa_cons (pv 4) pa_nil)) pa_nil))) (pa_cons (pv 7) pa_nil)))))))))))))))))))), ?_⟩
  try dsimp only [cxOf]
  obtain ⟨p, ns, rfl, hp, q⟩ := h
  have okS : ∀ x ∈ orderStrs ++ badStrs, PyData.strOk x = true := by decide +kernel
  have bads : ∀ x ∈ badStrs, x ∉ orderStrs := by decide +kernel
  have sbo : PyData.strOk "BadOrder" = true := by decide +kernel
  with_reducible apply s_seq
  refine ⟨_, rfl, p, ns, rfl, hp, fun a b H1 s1 na nb ok1 => ?_⟩
  refine s_gN ?_
  dsimp only
  with_reducible apply s_seq
  refine ⟨_, rfl, a, b, rfl, ok1, fun v2 F H2 m2 ok2 h2 => ?_⟩
  refine s_gN ?_
  dsimp only
  with_reducible apply s_seq
  refine ⟨_, rfl, a, b, rfl, ok2, fun v3 ms H3 m3 ok3 h3 g3 => ?_⟩
  refine s_gN ?_
  dsimp only
  with_reducible apply s_seq
  refine ⟨_, rfl, a, b, rfl, ok3, fun o H4 m4 ok4 => ?_⟩
  refine s_gN ?_
  dsimp only
  with_reducible apply s_seq
  refine ⟨_, rfl, a, b, rfl, ok4, fun p5 ws H5 n5 m5 ok5 e5 g5 => ?_⟩
  refine s_gN ?_
  dsimp only
  have hl := g3.len
  have m05 : Sm a H1 H5 := m2.trans (m3.trans (m4.trans m5))
  have h25 : Is K H5 v2 (.im (.tup F.rows)) := m5.isS ok4 (m4.isS ok3 (m3.isS ok2 h2))
  have h35 : Is K H5 v3 (.im (maskT ms)) := m5.isS ok4 (m4.isS ok3 h3)
  obtain ⟨g51, g52⟩ := g5
  have wsOk : ∀ x ∈ ws, PyData.strOk x = true := fun x hx => okS x (List.mem_append.mpr (g52 x hx))
  clear m2 m3 m4 m5 ok2 ok3 ok4 h2 h3
  refine s_cut (fun σ' H' => ∃ v6, σ' = [some (.ref p), some (.ref a), some v2, some v3, some (.str o.str), some (.ref p5), some v6, none, none] ∧ Same H5 H' ∧ Is K H' v6 (.im (.tup (Fl.one F).rows))) ?_ fun hd => ?_
  rotate_left
  · obtain ⟨a2, xs, rfl, hq, hi⟩ := Im.tup_inv (show Im K H5 v2 (.tup F.rows) from h25)
    have len : xs.length = F.h := by rw [hi.length]; unfold Fl.rows rowsL; simp
    have hh := F.h1
    refine ⟨_, rfl, 1, rfl, a2, xs, rfl, hq, fun hw => ?_, fun hw p6 hp6 => ?_⟩
    · have e1 := hw.2
      rw [show (1 : Int) = ((1 : Nat) : Int) from rfl, HT.sIx_nat] at e1
      refine s_gN (hd _ _ ⟨.ref a2, rfl, Same.refl _, ?_⟩)
      rw [one_whole (by omega)]
      exact h25
    · refine s_gN (hd _ _ ⟨.ref p6, rfl, same_new hp6, ?_⟩)
      have ec : cutV xs none (some 1) = xs.take 1 := by
        unfold cutV
        rw [HT.sIx_none, show (1 : Int) = ((1 : Nat) : Int) from rfl, HT.sIx_nat, List.drop_zero, Nat.min_eq_left (by omega)]
      rw [ec, one_rows]
      exact Im.new hp6 (hi.take 1)
  rintro σ' H6 ⟨v6, rfl, s6, h6⟩
  have h26 := s6.is h25
  have h36 := s6.is h35
  have e6 := s6 _ _ e5
  have ok6 := ok5.same s6
  with_reducible apply s_seq
  refine s_set K (e_call (d := .im (F.gridT (F.dist ms))) (a_cons (e_var rfl h26) (a_cons (e_var rfl h36) a_nil)) ⟨F, ms, rfl, by omega, rfl⟩) fun v7 H7 s7 h7 => ?_
  with_reducible apply s_seq
  refine s_if K (b := !true) (t_not (t_ofB (e_call (R := R_law_settle_holds CF) (a_cons (e_var rfl (s7.is h26)) (a_cons (e_var rfl (s7.is h36)) (a_cons (e_vstr rfl) (a_cons (e_var rfl h7) a_nil)))) ⟨F, ms, o, rfl, g3, rfl⟩))) (fun z => by cases z) (fun _ H8 s8 => s_next ?_)
  have s68 := s7.trans s8
  with_reducible apply s_seq
  refine ⟨_, rfl, _, rfl, _, rfl, _, rfl, _, rfl, a, b, p5, v2, v3, v7, F, ms, ws, rfl, ok6.same s68, s68.is h26, s68.is h36, s68 _ _ e6, s8.is h7, g3, by omega, wsOk, fun H9 m9 ok9 => ⟨true, rfl, iteF (s_next ?_)⟩⟩
  have ok8 := ok6.same s68
  have h29 := m9.isS ok8 (s68.is h26)
  have h39 := m9.isS ok8 (s68.is h36)
  have h69 := m9.isS ok8 (s68.is h6)
  have h79 := m9.isS ok8 (s8.is h7)
  have m09 : Sm a H1 H9 := m05.trans ((s6.trans s68).sm.trans m9)
  with_reducible apply s_seq
  refine s_if K (b := !true) (t_not (t_ofB (e_call (R := R_law_settle_holds CF) (a_cons (e_var rfl h69) (a_cons (e_var rfl h39) (a_cons (e_vstr rfl) (a_cons (e_call (d := .im ((Fl.one F).gridT ((Fl.one F).dist ms))) (a_cons (e_var rfl h69) (a_cons (e_var rfl h39) a_nil)) ⟨Fl.one F, ms, rfl, by omega, rfl⟩) a_nil)))) ⟨Fl.one F, ms, o, rfl, g3, rfl⟩))) (fun z => by cases z) (fun _ H10 s10 => s_next ?_)
  with_reducible apply s_seq
  refine ⟨_, rfl, a, b, rfl, ok9.same s10, fun x H11 hx m11 ok11 => ?_⟩
  refine s_gN ?_
  dsimp only
  have ok10 := ok9.same s10
  have h211 := m11.isS ok10 (s10.is h29)
  have h311 := m11.isS ok10 (s10.is h39)
  have h711 := m11.isS ok10 (s10.is h79)
  have m011 : Sm a H1 H11 := m09.trans (s10.sm.trans m11)
  have xOk : PyData.strOk x = true := okS x (List.mem_append.mpr (.inr hx))
  with_reducible apply s_seq
  refine s_if K (b := !true) (t_not (t_ofB (e_call (R := R_law_holds) (a_cons (e_call (R := R_law_asked CF) (d := .im (.tup [.str "refused", .tup [.str "BadOrder", .str x]])) (a_cons e_str (a_cons (e_mk (F := F) (a_cons (e_var rfl h211) a_nil)) (a_cons (e_var rfl h311) (a_cons (e_vstr rfl) a_nil)))) ⟨"settle", F.d CF, .im (maskT ms), .im (.str x), .ex "BadOrder" [("order", .str x)], rfl, .inl ⟨rfl, F, ms, x, rfl, by omega, .inl ⟨bads x hx, rfl⟩⟩, .inr ⟨_, _, _, rfl, .bo _, rfl⟩⟩)
    (a_cons (e_tup (ts := [.str "BadOrder", .str x]) (a_cons e_str (a_cons (e_vstr rfl) a_nil)) (by rfl) (Nat.le_of_ble_eq_true rfl)) (a_cons e_non a_nil))) ⟨_, _, _, rfl, ⟨_, low_two sbo xOk, .inr ⟨rfl, rfl, rfl⟩⟩, rfl⟩))) (fun z => by cases z) (fun _ H12 s12 => s_next ?_)
  refine ⟨_, rfl, _, rfl, _, rfl, (n_lst (ts := [.str o.str, .str o.opp.str]) (a_cons (e_vstr rfl) (a_cons (e_call (d := .im (.str o.opp.str)) (a_cons (e_vstr rfl) a_nil) ⟨o, rfl, rfl⟩) a_nil)) (by rfl) (Nat.le_of_ble_eq_true rfl)) H12 (Same.refl _) _ fun pl wl H13 _ s13 el il => ?_⟩
  have ew := ims_strs (xs := [o.str, o.opp.str]) il
  rw [ew] at el
  have s23 := s12.trans s13
  refine ⟨_, rfl, a, b, pl, v2, v3, v7, F, ms, [o.str, o.opp.str], rfl, ok11.same s23, s23.is h211, s23.is h311, el, s23.is h711, g3, Nat.le_of_ble_eq_true rfl, fun y hy => ?_, fun H14 m14 ok14 => ?_⟩
  · simp only [List.mem_cons, List.not_mem_nil, or_false] at hy
    rcases hy with rfl | rfl
    · exact okS _ (List.mem_append.mpr (.inl (ord_mem o)))
    · exact okS _ (List.mem_append.mpr (.inl (ord_mem o.opp)))
  · refine q H14 fun c u e => ?_
    have nc : c ≠ a := fun z => by rw [z, na] at e; cases e
    exact (m011.trans (s23.sm.trans m14)) c u nc (s1 _ _ e)
end
end TW

set_option Elab.async false
set_option linter.all false
set_option maxRecDepth 100000
set_option maxHeartbeats 0
namespace TW
open PySem PySem.Spec PyProof.Rows L2
theorem facts {P : Program} {w : World} {K : PySem.W.Frag} {h : Heap} {mg : Str → Option Value} {f : Addr} (X : K.In h) (G : h.Ns mainGlobals mg) (hfa : mg ("law" : Str) = some (.ref f)) (c : hkS faL fnL metL w K) :
    ∃ fd : FuncData, (∀ (s : Shared) (v : Value), BindsTo s fd ⟨[v], []⟩ [("script", v)]) ∧ ∀ base : Heap, K.In base → base.Ns mainGlobals mg → FnOk P w K mg base (L2.CX P w) 12 f fd ["script"] (sp_law K mg (He.ga K "Floor")) := by
  have cf := c.f
  have m_Refused := He.glo_ok X G (cf.fact 1 (f := .glo "Refused") rfl)
  have m_BadText := He.glo_ok X G (cf.fact 2 (f := .glo "BadText") rfl)
  have m_Malformed := He.glo_ok X G (cf.fact 3 (f := .glo "Malformed") rfl)
  have m_BadOrder := He.glo_ok X G (cf.fact 4 (f := .glo "BadOrder") rfl)
  have m_Unknown := He.glo_ok X G (cf.fact 5 (f := .glo "Unknown") rfl)
  have m_Empty := He.glo_ok X G (cf.fact 6 (f := .glo "Empty") rfl)
  have m_BadSize := He.glo_ok X G (cf.fact 7 (f := .glo "BadSize") rfl)
  have m_BadCell := He.glo_ok X G (cf.fact 8 (f := .glo "BadCell") rfl)
  have m_BadMove := He.glo_ok X G (cf.fact 9 (f := .glo "BadMove") rfl)
  have m_BadPrice := He.glo_ok X G (cf.fact 10 (f := .glo "BadPrice") rfl)
  have m_Doubled := He.glo_ok X G (cf.fact 11 (f := .glo "Doubled") rfl)
  have m_BadWalk := He.glo_ok X G (cf.fact 12 (f := .glo "BadWalk") rfl)
  have m_Free := He.glo_ok X G (cf.fact 13 (f := .glo "Free") rfl)
  have m_TooMany := He.glo_ok X G (cf.fact 14 (f := .glo "TooMany") rfl)
  have m_NotFan := He.glo_ok X G (cf.fact 15 (f := .glo "NotFan") rfl)
  have m_NotYes := He.glo_ok X G (cf.fact 16 (f := .glo "NotYes") rfl)
  have m_Stuck := He.glo_ok X G (cf.fact 17 (f := .glo "Stuck") rfl)
  have m_moves_of := He.glo_ok X G (cf.fact 18 (f := .glo "moves_of") rfl)
  have m_MOST_SIDE := He.int_ok X G (cf.fact 19 (f := .int "MOST_SIDE" 14) rfl)
  have m_WALL_floors := He.str_ok X G (cf.fact 20 (f := .str "WALL_floors" "#") rfl)
  have m_check_size := He.glo_ok X G (cf.fact 21 (f := .glo "check_size") rfl)
  have m_check_rows := He.glo_ok X G (cf.fact 22 (f := .glo "check_rows") rfl)
  have m_Floor := He.glo_ok X G (cf.fact 24 (f := .glo "Floor") rfl)
  have m_ORDERS := He.glo_ok X G (cf.fact 25 (f := .glo "ORDERS") rfl)
  have m_OTHER_LETTERS := He.glo_ok X G (cf.fact 26 (f := .glo "OTHER_LETTERS") rfl)
  have m_check_order := He.glo_ok X G (cf.fact 27 (f := .glo "check_order") rfl)
  have m_is_by_rows := He.glo_ok X G (cf.fact 28 (f := .glo "is_by_rows") rfl)
  have m_signs_of := He.glo_ok X G (cf.fact 29 (f := .glo "signs_of") rfl)
  have m_order_key := He.glo_ok X G (cf.fact 30 (f := .glo "order_key") rfl)
  have m_is_forward := He.glo_ok X G (cf.fact 31 (f := .glo "is_forward") rfl)
  have m_opposite := He.glo_ok X G (cf.fact 32 (f := .glo "opposite") rfl)
  have m_forward_part := He.glo_ok X G (cf.fact 33 (f := .glo "forward_part") rfl)
  have m_indexes_by := He.glo_ok X G (cf.fact 34 (f := .glo "indexes_by") rfl)
  have m_cells_in := He.glo_ok X G (cf.fact 35 (f := .glo "cells_in") rfl)
  have m_WALL_sweeps := He.str_ok X G (cf.fact 36 (f := .str "WALL_sweeps" "#") rfl)
  have m_start_grid := He.glo_ok X G (cf.fact 37 (f := .glo "start_grid") rfl)
  have m_least_item := He.glo_ok X G (cf.fact 38 (f := .glo "least_item") rfl)
  have m_settled_by := He.glo_ok X G (cf.fact 39 (f := .glo "settled_by") rfl)
  have m_sweep_once := He.glo_ok X G (cf.fact 40 (f := .glo "sweep_once") rfl)
  have m_changed_cells := He.glo_ok X G (cf.fact 41 (f := .glo "changed_cells") rfl)
  have m_MOST_WORD := He.int_ok X G (cf.fact 42 (f := .int "MOST_WORD" 36) rfl)
  have m_need_order := He.glo_ok X G (cf.fact 43 (f := .glo "need_order") rfl)
  have m_need_word := He.glo_ok X G (cf.fact 44 (f := .glo "need_word") rfl)
  have m_settle := He.glo_ok X G (cf.fact 45 (f := .glo "settle") rfl)
  have m_settle_by := He.glo_ok X G (cf.fact 46 (f := .glo "settle_by") rfl)
  have m__law_store := He.glo_ok X G (cf.fact 47 (f := .glo "_law_store") rfl)
  have m__law_mix := He.glo_ok X G (cf.fact 48 (f := .glo "_law_mix") rfl)
  have m__law_mixed := He.glo_ok X G (cf.fact 49 (f := .glo "_law_mixed") rfl)
  have m__law_take := He.glo_ok X G (cf.fact 50 (f := .glo "_law_take") rfl)
  have m__law_hit := He.glo_ok X G (cf.fact 51 (f := .glo "_law_hit") rfl)
  have m__law_pick := He.glo_ok X G (cf.fact 52 (f := .glo "_law_pick") rfl)
  have m__law_span := He.glo_ok X G (cf.fact 53 (f := .glo "_law_span") rfl)
  have m__law_some := He.glo_ok X G (cf.fact 54 (f := .glo "_law_some") rfl)
  have m__law_sequence := He.glo_ok X G (cf.fact 55 (f := .glo "_law_sequence") rfl)
  have m__law_is_integer := He.glo_ok X G (cf.fact 56 (f := .glo "_law_is_integer") rfl)
  have m__law_same := He.glo_ok X G (cf.fact 57 (f := .glo "_law_same") rfl)
  have m__law_price := He.glo_ok X G (cf.fact 58 (f := .glo "_law_price") rfl)
  have m__law_orders := He.glo_ok X G (cf.fact 59 (f := .glo "_law_orders") rfl)
  have m__law_order := He.glo_ok X G (cf.fact 60 (f := .glo "_law_order") rfl)
  have m__law_bad_order := He.glo_ok X G (cf.fact 61 (f := .glo "_law_bad_order") rfl)
  have m__law_key := He.glo_ok X G (cf.fact 62 (f := .glo "_law_key") rfl)
  have m__law_is_ahead := He.glo_ok X G (cf.fact 63 (f := .glo "_law_is_ahead") rfl)
  have m__law_counter := He.glo_ok X G (cf.fact 64 (f := .glo "_law_counter") rfl)
  have m__law_word := He.glo_ok X G (cf.fact 65 (f := .glo "_law_word") rfl)
  have m__law_moves := He.glo_ok X G (cf.fact 66 (f := .glo "_law_moves") rfl)
  have m__law_free_mask := He.glo_ok X G (cf.fact 67 (f := .glo "_law_free_mask") rfl)
  have m__law_eights := He.glo_ok X G (cf.fact 68 (f := .glo "_law_eights") rfl)
  have m__law_part := He.glo_ok X G (cf.fact 69 (f := .glo "_law_part") rfl)
  have m__law_is_open := He.glo_ok X G (cf.fact 70 (f := .glo "_law_is_open") rfl)
  have m__law_cells_where := He.glo_ok X G (cf.fact 71 (f := .glo "_law_cells_where") rfl)
  have m__law_start_grid := He.glo_ok X G (cf.fact 72 (f := .glo "_law_start_grid") rfl)
  have m__law_arrows := He.glo_ok X G (cf.fact 73 (f := .glo "_law_arrows") rfl)
  have m__law_grown := He.glo_ok X G (cf.fact 74 (f := .glo "_law_grown") rfl)
  have m__law_distances := He.glo_ok X G (cf.fact 75 (f := .glo "_law_distances") rfl)
  have m__law_ordered_cells := He.glo_ok X G (cf.fact 76 (f := .glo "_law_ordered_cells") rfl)
  have m__law_sweep := He.glo_ok X G (cf.fact 77 (f := .glo "_law_sweep") rfl)
  have m__law_asked := He.glo_ok X G (cf.fact 78 (f := .glo "_law_asked") rfl)
  have m__law_holds := He.glo_ok X G (cf.fact 79 (f := .glo "_law_holds") rfl)
  have m__law_changed := He.glo_ok X G (cf.fact 80 (f := .glo "_law_changed") rfl)
  have m__law_settle_holds := He.glo_ok X G (cf.fact 81 (f := .glo "_law_settle_holds") rfl)
  have m__law_word_due := He.glo_ok X G (cf.fact 82 (f := .glo "_law_word_due") rfl)
  have m__law_settle_by_holds := He.glo_ok X G (cf.fact 83 (f := .glo "_law_settle_by_holds") rfl)
  have m__law_drawn_word := He.glo_ok X G (cf.fact 84 (f := .glo "_law_drawn_word") rfl)
  have m__law_drawn_floor := He.glo_ok X G (cf.fact 85 (f := .glo "_law_drawn_floor") rfl)
  have m__law_drawn_mask := He.glo_ok X G (cf.fact 86 (f := .glo "_law_drawn_mask") rfl)
  have m_law := He.glo_ok X G (cf.fact 87 (f := .glo "law") rfl)
  have z_len := He.free_ok X G (cf.fact 88 (f := .free "len") rfl)
  have z_any := He.free_ok X G (cf.fact 89 (f := .free "any") rfl)
  have z_tuple := He.free_ok X G (cf.fact 90 (f := .free "tuple") rfl)
  have z_list := He.free_ok X G (cf.fact 91 (f := .free "list") rfl)
  have z_int := He.free_ok X G (cf.fact 92 (f := .free "int") rfl)
  have z_abs := He.free_ok X G (cf.fact 93 (f := .free "abs") rfl)
  have z_range := He.free_ok X G (cf.fact 94 (f := .free "range") rfl)
  have z_isinstance := He.free_ok X G (cf.fact 95 (f := .free "isinstance") rfl)
  have z_min := He.free_ok X G (cf.fact 96 (f := .free "min") rfl)
  have z_max := He.free_ok X G (cf.fact 97 (f := .free "max") rfl)
  have z_sorted := He.free_ok X G (cf.fact 98 (f := .free "sorted") rfl)
  have z_enumerate := He.free_ok X G (cf.fact 99 (f := .free "enumerate") rfl)
  have z_bool := He.free_ok X G (cf.fact 100 (f := .free "bool") rfl)
  have z_str := He.free_ok X G (cf.fact 101 (f := .free "str") rfl)
  have z_ValueError := He.free_ok X G (cf.fact 102 (f := .free "ValueError") rfl)
  have cFl := He.cls_ok (cf.fact 103 (f := .cls "Floor") rfl)
  have n_rows := He.noat_ok (cf.fact 104 (f := .noat "Floor" "rows") rfl)
  have n_h := He.noat_ok (cf.fact 105 (f := .noat "Floor" "h") rfl)
  have n_w := He.noat_ok (cf.fact 106 (f := .noat "Floor" "w") rfl)
  have n_cells := He.noat_ok (cf.fact 107 (f := .noat "Floor" "cells") rfl)
  have mkF := He.mkr_ok (cf.fact 108 (f := .mkr "Floor") rfl)
  have tx : Tx w K mg (He.ga K "Floor") := ⟨⟨z_len, z_any, z_tuple, z_list, z_int, z_abs, z_range, z_isinstance, z_min, z_max, z_sorted, z_enumerate, z_bool, z_str, z_ValueError⟩, ⟨cFl, n_rows, n_h, n_w, n_cells⟩, ⟨_, m_ORDERS, orders_ok c⟩, ⟨_, m_OTHER_LETTERS, kdct_ok c⟩, m_MOST_SIDE, m_MOST_WORD, m_WALL_floors, m_WALL_sweeps⟩
  have ET : ExcT K mg metL := excT_ok c X G (by intro x hx; simp only [excN, List.mem_cons, List.not_mem_nil, or_false] at hx; rcases hx with rfl | rfl | rfl | rfl | rfl | rfl | rfl | rfl | rfl | rfl | rfl | rfl | rfl | rfl | rfl | rfl <;> assumption) m_Refused (by intro x hx; simp only [metL, List.mem_cons, List.not_mem_nil, or_false] at hx; rcases hx with rfl | rfl | rfl | rfl <;> assumption)
  obtain ⟨fd_law_is_integer, F_law_is_integer0⟩ := cf.def_ 49 rfl
  have F_law_is_integer : FunD K "_law_is_integer" "_law_is_integer" (defArgs (top 63)) (defBody (top 63)) (defScope (top 63)) [] [] (He.fAd K ("_law_is_integer", none)) fd_law_is_integer := F_law_is_integer0
  have b_law_is_integer : Binds K fd_law_is_integer ["actual"] [] := F_law_is_integer.bindsN fun _ _ _ _ _ _ us hl => match us, hl with | [_], _ => rfl
  obtain ⟨fd_law_same, F_law_same0⟩ := cf.def_ 50 rfl
  have F_law_same : FunD K "_law_same" "_law_same" (defArgs (top 64)) (defBody (top 64)) (defScope (top 64)) [] [] (He.fAd K ("_law_same", none)) fd_law_same := F_law_same0
  have b_law_same : Binds K fd_law_same ["actual", "expected"] [] := F_law_same.bindsN fun _ _ _ _ _ _ us hl => match us, hl with | [_, _], _ => rfl
  obtain ⟨fd_law_holds, F_law_holds0⟩ := cf.def_ 72 rfl
  have F_law_holds : FunD K "_law_holds" "_law_holds" (defArgs (top 86)) (defBody (top 86)) (defScope (top 86)) [] [] (He.fAd K ("_law_holds", none)) fd_law_holds := F_law_holds0
  have b_law_holds : Binds K fd_law_holds ["actual", "due", "expected"] [] := F_law_holds.bindsN fun _ _ _ _ _ _ us hl => match us, hl with | [_, _, _], _ => rfl
  obtain ⟨fd_is_by_rows, F_is_by_rows0⟩ := cf.def_ 23 rfl
  have F_is_by_rows : FunD K "is_by_rows" "is_by_rows" (defArgs (top 32)) (defBody (top 32)) (defScope (top 32)) [] [] (He.fAd K ("is_by_rows", none)) fd_is_by_rows := F_is_by_rows0
  have b_is_by_rows : Binds K fd_is_by_rows ["order"] [] := F_is_by_rows.bindsN fun _ _ _ _ _ _ us hl => match us, hl with | [_], _ => rfl
  obtain ⟨fd_indexes_by, F_indexes_by0⟩ := cf.def_ 29 rfl
  have F_indexes_by : FunD K "indexes_by" "indexes_by" (defArgs (top 38)) (defBody (top 38)) (defScope (top 38)) [] [] (He.fAd K ("indexes_by", none)) fd_indexes_by := F_indexes_by0
  have b_indexes_by : Binds K fd_indexes_by ["sign", "count"] [] := F_indexes_by.bindsN fun _ _ _ _ _ _ us hl => match us, hl with | [_, _], _ => rfl
  obtain ⟨fd_signs_of, F_signs_of0⟩ := cf.def_ 24 rfl
  have F_signs_of : FunD K "signs_of" "signs_of" (defArgs (top 33)) (defBody (top 33)) (defScope (top 33)) [] [] (He.fAd K ("signs_of", none)) fd_signs_of := F_signs_of0
  have b_signs_of : Binds K fd_signs_of ["order"] [] := F_signs_of.bindsN fun _ _ _ _ _ _ us hl => match us, hl with | [_], _ => rfl
  obtain ⟨fd_BadOrder_init, F_BadOrder_init0⟩ := cf.def_ 3 rfl
  have F_BadOrder_init : FunD K "__init__" "BadOrder.__init__" (defArgs (inClass (top 5) 0)) (defBody (inClass (top 5) 0)) (defScope (inClass (top 5) 0)) [] [] (He.fAd K ("BadOrder", some "__init__")) fd_BadOrder_init := F_BadOrder_init0
  have b_BadOrder_init : Binds K fd_BadOrder_init ["self", "order"] [] := F_BadOrder_init.bindsN fun _ _ _ _ _ _ us hl => match us, hl with | [_, _], _ => rfl
  obtain ⟨fd_check_order, F_check_order0⟩ := cf.def_ 22 rfl
  have F_check_order : FunD K "check_order" "check_order" (defArgs (top 31)) (defBody (top 31)) (defScope (top 31)) [] [] (He.fAd K ("check_order", none)) fd_check_order := F_check_order0
  have b_check_order : Binds K fd_check_order ["order"] [] := F_check_order.bindsN fun _ _ _ _ _ _ us hl => match us, hl with | [_], _ => rfl
  obtain ⟨fd_cells_in, F_cells_in0⟩ := cf.def_ 30 rfl
  have F_cells_in : FunD K "cells_in" "cells_in" (defArgs (top 39)) (defBody (top 39)) (defScope (top 39)) [] [] (He.fAd K ("cells_in", none)) fd_cells_in := F_cells_in0
  have b_cells_in : Binds K fd_cells_in ["order", "h", "w"] [] := F_cells_in.bindsN fun _ _ _ _ _ _ us hl => match us, hl with | [_, _, _], _ => rfl
  obtain ⟨fd_least_item, F_least_item0⟩ := cf.def_ 32 rfl
  have F_least_item : FunD K "least_item" "least_item" (defArgs (top 43)) (defBody (top 43)) (defScope (top 43)) [] [] (He.fAd K ("least_item", none)) fd_least_item := F_least_item0
  have b_least_item : Binds K fd_least_item ["settled", "forward", "cell", "own"] [] := F_least_item.bindsN fun _ _ _ _ _ _ us hl => match us, hl with | [_, _, _, _], _ => rfl
  obtain ⟨fd_order_key, F_order_key0⟩ := cf.def_ 25 rfl
  have F_order_key : FunD K "order_key" "order_key" (defArgs (top 34)) (defBody (top 34)) (defScope (top 34)) [] [] (He.fAd K ("order_key", none)) fd_order_key := F_order_key0
  have b_order_key : Binds K fd_order_key ["order", "cell"] [] := F_order_key.bindsN fun _ _ _ _ _ _ us hl => match us, hl with | [_, _], _ => rfl
  obtain ⟨fd_is_forward, F_is_forward0⟩ := cf.def_ 26 rfl
  have F_is_forward : FunD K "is_forward" "is_forward" (defArgs (top 35)) (defBody (top 35)) (defScope (top 35)) [] [] (He.fAd K ("is_forward", none)) fd_is_forward := F_is_forward0
  have b_is_forward : Binds K fd_is_forward ["order", "move"] [] := F_is_forward.bindsN fun _ _ _ _ _ _ us hl => match us, hl with | [_, _], _ => rfl
  obtain ⟨fd_forward_part, F_forward_part0⟩ := cf.def_ 28 rfl
  have F_forward_part : FunD K "forward_part" "forward_part" (defArgs (top 37)) (defBody (top 37)) (defScope (top 37)) [] [] (He.fAd K ("forward_part", none)) fd_forward_part := F_forward_part0
  have b_forward_part : Binds K fd_forward_part ["order", "mask"] [] := F_forward_part.bindsN fun _ _ _ _ _ _ us hl => match us, hl with | [_, _], _ => rfl
  obtain ⟨fd_settled_by, F_settled_by0⟩ := cf.def_ 33 rfl
  have F_settled_by : FunD K "settled_by" "settled_by" (defArgs (top 44)) (defBody (top 44)) (defScope (top 44)) [] [] (He.fAd K ("settled_by", none)) fd_settled_by := F_settled_by0
  have b_settled_by : Binds K fd_settled_by ["floor", "mask", "grid", "order"] [] := F_settled_by.bindsN fun _ _ _ _ _ _ us hl => match us, hl with | [_, _, _, _], _ => rfl
  obtain ⟨fd_sweep_once, F_sweep_once0⟩ := cf.def_ 34 rfl
  have F_sweep_once : FunD K "sweep_once" "sweep_once" (defArgs (top 45)) (defBody (top 45)) (defScope (top 45)) [] [("order", V.str "rdr")] (He.fAd K ("sweep_once", none)) fd_sweep_once := F_sweep_once0
  obtain ⟨fd_start_grid, F_start_grid0⟩ := cf.def_ 31 rfl
  have F_start_grid : FunD K "start_grid" "start_grid" (defArgs (top 42)) (defBody (top 42)) (defScope (top 42)) [] [] (He.fAd K ("start_grid", none)) fd_start_grid := F_start_grid0
  have b_start_grid : Binds K fd_start_grid ["floor"] [] := F_start_grid.bindsN fun _ _ _ _ _ _ us hl => match us, hl with | [_], _ => rfl
  obtain ⟨fd_moves_of, F_moves_of0⟩ := cf.def_ 17 rfl
  have F_moves_of : FunD K "moves_of" "moves_of" (defArgs (top 20)) (defBody (top 20)) (defScope (top 20)) [] [] (He.fAd K ("moves_of", none)) fd_moves_of := F_moves_of0
  have b_moves_of : Binds K fd_moves_of ["mask"] [] := F_moves_of.bindsN fun _ _ _ _ _ _ us hl => match us, hl with | [_], _ => rfl
  obtain ⟨fd_need_order, F_need_order0⟩ := cf.def_ 36 rfl
  have F_need_order : FunD K "need_order" "need_order" (defArgs (top 49)) (defBody (top 49)) (defScope (top 49)) [] [] (He.fAd K ("need_order", none)) fd_need_order := F_need_order0
  have b_need_order : Binds K fd_need_order ["order"] [] := F_need_order.bindsN fun _ _ _ _ _ _ us hl => match us, hl with | [_], _ => rfl
  obtain ⟨fd_TooMany_init, F_TooMany_init0⟩ := cf.def_ 13 rfl
  have F_TooMany_init : FunD K "__init__" "TooMany.__init__" (defArgs (inClass (top 15) 0)) (defBody (inClass (top 15) 0)) (defScope (inClass (top 15) 0)) [] [] (He.fAd K ("TooMany", some "__init__")) fd_TooMany_init := F_TooMany_init0
  have b_TooMany_init : Binds K fd_TooMany_init ["self", "what", "limit"] [] := F_TooMany_init.bindsN fun _ _ _ _ _ _ us hl => match us, hl with | [_, _, _], _ => rfl
  obtain ⟨fd_need_word, F_need_word0⟩ := cf.def_ 37 rfl
  have F_need_word : FunD K "need_word" "need_word" (defArgs (top 50)) (defBody (top 50)) (defScope (top 50)) [] [] (He.fAd K ("need_word", none)) fd_need_word := F_need_word0
  have b_need_word : Binds K fd_need_word ["word"] [] := F_need_word.bindsN fun _ _ _ _ _ _ us hl => match us, hl with | [_], _ => rfl
  obtain ⟨fd_Empty_init, F_Empty_init0⟩ := cf.def_ 5 rfl
  have F_Empty_init : FunD K "__init__" "Empty.__init__" (defArgs (inClass (top 7) 0)) (defBody (inClass (top 7) 0)) (defScope (inClass (top 7) 0)) [] [] (He.fAd K ("Empty", some "__init__")) fd_Empty_init := F_Empty_init0
  have b_Empty_init : Binds K fd_Empty_init ["self", "what"] [] := F_Empty_init.bindsN fun _ _ _ _ _ _ us hl => match us, hl with | [_, _], _ => rfl
  obtain ⟨fd_NotYes_init, F_NotYes_init0⟩ := cf.def_ 15 rfl
  have F_NotYes_init : FunD K "__init__" "NotYes.__init__" (defArgs (inClass (top 17) 0)) (defBody (inClass (top 17) 0)) (defScope (inClass (top 17) 0)) [] [] (He.fAd K ("NotYes", some "__init__")) fd_NotYes_init := F_NotYes_init0
  have b_NotYes_init : Binds K fd_NotYes_init ["self", "what"] [] := F_NotYes_init.bindsN fun _ _ _ _ _ _ us hl => match us, hl with | [_, _], _ => rfl
  obtain ⟨fd_settle_by, F_settle_by0⟩ := cf.def_ 39 rfl
  have F_settle_by : FunD K "settle_by" "settle_by" (defArgs (top 52)) (defBody (top 52)) (defScope (top 52)) [] [] (He.fAd K ("settle_by", none)) fd_settle_by := F_settle_by0
  have b_settle_by : Binds K fd_settle_by ["floor", "mask", "word"] [] := F_settle_by.bindsN fun _ _ _ _ _ _ us hl => match us, hl with | [_, _, _], _ => rfl
  obtain ⟨fd_opposite, F_opposite0⟩ := cf.def_ 27 rfl
  have F_opposite : FunD K "opposite" "opposite" (defArgs (top 36)) (defBody (top 36)) (defScope (top 36)) [] [] (He.fAd K ("opposite", none)) fd_opposite := F_opposite0
  have b_opposite : Binds K fd_opposite ["order"] [] := F_opposite.bindsN fun _ _ _ _ _ _ us hl => match us, hl with | [_], _ => rfl
  obtain ⟨fd_changed_cells, F_changed_cells0⟩ := cf.def_ 35 rfl
  have F_changed_cells : FunD K "changed_cells" "changed_cells" (defArgs (top 46)) (defBody (top 46)) (defScope (top 46)) [] [] (He.fAd K ("changed_cells", none)) fd_changed_cells := F_changed_cells0
  have b_changed_cells : Binds K fd_changed_cells ["one", "two"] [] := F_changed_cells.bindsN fun _ _ _ _ _ _ us hl => match us, hl with | [_, _], _ => rfl
  obtain ⟨fd_settle, F_settle0⟩ := cf.def_ 38 rfl
  have F_settle : FunD K "settle" "settle" (defArgs (top 51)) (defBody (top 51)) (defScope (top 51)) [] [("order", V.str "rdr")] (He.fAd K ("settle", none)) fd_settle := F_settle0
  obtain ⟨fd_law_asked, F_law_asked0⟩ := cf.def_ 71 rfl
  have F_law_asked : FunD K "_law_asked" "_law_asked" (defArgs (top 85)) (defBody (top 85)) (defScope (top 85)) [] [] (He.fAd K ("_law_asked", none)) fd_law_asked := F_law_asked0
  have b_law_asked : Binds K fd_law_asked ["what_is", "floor", "mask", "thing"] [] := F_law_asked.bindsN fun _ _ _ _ _ _ us hl => match us, hl with | [_, _, _, _], _ => rfl
  obtain ⟨fd_law_mix, F_law_mix0⟩ := cf.def_ 41 rfl
  have F_law_mix : FunD K "_law_mix" "_law_mix" (defArgs (top 55)) (defBody (top 55)) (defScope (top 55)) [] [] (He.fAd K ("_law_mix", none)) fd_law_mix := F_law_mix0
  have b_law_mix : Binds K fd_law_mix ["number", "turn"] [] := F_law_mix.bindsN fun _ _ _ _ _ _ us hl => match us, hl with | [_, _], _ => rfl
  obtain ⟨fd_law_mixed, F_law_mixed0⟩ := cf.def_ 42 rfl
  have F_law_mixed : FunD K "_law_mixed" "_law_mixed" (defArgs (top 56)) (defBody (top 56)) (defScope (top 56)) [] [] (He.fAd K ("_law_mixed", none)) fd_law_mixed := F_law_mixed0
  have b_law_mixed : Binds K fd_law_mixed ["number", "turn", "many"] [] := F_law_mixed.bindsN fun _ _ _ _ _ _ us hl => match us, hl with | [_, _, _], _ => rfl
  obtain ⟨fd_law_take, F_law_take0⟩ := cf.def_ 43 rfl
  have F_law_take : FunD K "_law_take" "_law_take" (defArgs (top 57)) (defBody (top 57)) (defScope (top 57)) [] [] (He.fAd K ("_law_take", none)) fd_law_take := F_law_take0
  have b_law_take : Binds K fd_law_take ["store", "many"] [] := F_law_take.bindsN fun _ _ _ _ _ _ us hl => match us, hl with | [_, _], _ => rfl
  obtain ⟨fd_law_hit, F_law_hit0⟩ := cf.def_ 44 rfl
  have F_law_hit : FunD K "_law_hit" "_law_hit" (defArgs (top 58)) (defBody (top 58)) (defScope (top 58)) [] [] (He.fAd K ("_law_hit", none)) fd_law_hit := F_law_hit0
  have b_law_hit : Binds K fd_law_hit ["store", "many"] [] := F_law_hit.bindsN fun _ _ _ _ _ _ us hl => match us, hl with | [_, _], _ => rfl
  obtain ⟨fd_law_sequence, F_law_sequence0⟩ := cf.def_ 48 rfl
  have F_law_sequence : FunD K "_law_sequence" "_law_sequence" (defArgs (top 62)) (defBody (top 62)) (defScope (top 62)) [] [] (He.fAd K ("_law_sequence", none)) fd_law_sequence := F_law_sequence0
  have b_law_sequence : Binds K fd_law_sequence ["store", "items"] [] := F_law_sequence.bindsN fun _ _ _ _ _ _ us hl => match us, hl with | [_, _], _ => rfl
  obtain ⟨fd_check_size, F_check_size0⟩ := cf.def_ 18 rfl
  have F_check_size : FunD K "check_size" "check_size" (defArgs (top 24)) (defBody (top 24)) (defScope (top 24)) [] [] (He.fAd K ("check_size", none)) fd_check_size := F_check_size0
  have b_check_size : Binds K fd_check_size ["h", "w"] [] := F_check_size.bindsN fun _ _ _ _ _ _ us hl => match us, hl with | [_, _], _ => rfl
  obtain ⟨fd_check_rows, F_check_rows0⟩ := cf.def_ 19 rfl
  have F_check_rows : FunD K "check_rows" "check_rows" (defArgs (top 25)) (defBody (top 25)) (defScope (top 25)) [] [] (He.fAd K ("check_rows", none)) fd_check_rows := F_check_rows0
  have b_check_rows : Binds K fd_check_rows ["rows"] [] := F_check_rows.bindsN fun _ _ _ _ _ _ us hl => match us, hl with | [_], _ => rfl
  obtain ⟨fd_Floor_init, F_Floor_init0⟩ := cf.def_ 21 rfl
  have F_Floor_init : FunD K "__init__" "Floor.__init__" (defArgs (inClass (top 27) 0)) (defBody (inClass (top 27) 0)) (defScope (inClass (top 27) 0)) [] [] (He.fAd K ("Floor", some "__init__")) fd_Floor_init := F_Floor_init0
  have b_Floor_init : Binds K fd_Floor_init ["self", "rows"] [] := F_Floor_init.bindsN fun _ _ _ _ _ _ us hl => match us, hl with | [_, _], _ => rfl
  obtain ⟨fd_law_cells_where, F_law_cells_where0⟩ := cf.def_ 64 rfl
  have F_law_cells_where : FunD K "_law_cells_where" "_law_cells_where" (defArgs (top 78)) (defBody (top 78)) (defScope (top 78)) [] [] (He.fAd K ("_law_cells_where", none)) fd_law_cells_where := F_law_cells_where0
  have b_law_cells_where : Binds K fd_law_cells_where ["rows", "what_is"] [] := F_law_cells_where.bindsN fun _ _ _ _ _ _ us hl => match us, hl with | [_, _], _ => rfl
  obtain ⟨fd_law_key, F_law_key0⟩ := cf.def_ 55 rfl
  have F_law_key : FunD K "_law_key" "_law_key" (defArgs (top 69)) (defBody (top 69)) (defScope (top 69)) [] [] (He.fAd K ("_law_key", none)) fd_law_key := F_law_key0
  have b_law_key : Binds K fd_law_key ["order", "cell"] [] := F_law_key.bindsN fun _ _ _ _ _ _ us hl => match us, hl with | [_, _], _ => rfl
  obtain ⟨fd_law_ordered_cells, F_law_ordered_cells0⟩ := cf.def_ 69 rfl
  have F_law_ordered_cells : FunD K "_law_ordered_cells" "_law_ordered_cells" (defArgs (top 83)) (defBody (top 83)) (defScope (top 83)) [] [] (He.fAd K ("_law_ordered_cells", none)) fd_law_ordered_cells := F_law_ordered_cells0
  have b_law_ordered_cells : Binds K fd_law_ordered_cells ["rows", "order"] [] := F_law_ordered_cells.bindsN fun _ _ _ _ _ _ us hl => match us, hl with | [_, _], _ => rfl
  obtain ⟨fd_law_is_open, F_law_is_open0⟩ := cf.def_ 63 rfl
  have F_law_is_open : FunD K "_law_is_open" "_law_is_open" (defArgs (top 77)) (defBody (top 77)) (defScope (top 77)) [] [] (He.fAd K ("_law_is_open", none)) fd_law_is_open := F_law_is_open0
  have b_law_is_open : Binds K fd_law_is_open ["rows", "cell"] [] := F_law_is_open.bindsN fun _ _ _ _ _ _ us hl => match us, hl with | [_, _], _ => rfl
  obtain ⟨fd_law_is_ahead, F_law_is_ahead0⟩ := cf.def_ 56 rfl
  have F_law_is_ahead : FunD K "_law_is_ahead" "_law_is_ahead" (defArgs (top 70)) (defBody (top 70)) (defScope (top 70)) [] [] (He.fAd K ("_law_is_ahead", none)) fd_law_is_ahead := F_law_is_ahead0
  have b_law_is_ahead : Binds K fd_law_is_ahead ["order", "move"] [] := F_law_is_ahead.bindsN fun _ _ _ _ _ _ us hl => match us, hl with | [_, _], _ => rfl
  obtain ⟨fd_law_part, F_law_part0⟩ := cf.def_ 62 rfl
  have F_law_part : FunD K "_law_part" "_law_part" (defArgs (top 76)) (defBody (top 76)) (defScope (top 76)) [] [] (He.fAd K ("_law_part", none)) fd_law_part := F_law_part0
  have b_law_part : Binds K fd_law_part ["order", "mask", "ahead"] [] := F_law_part.bindsN fun _ _ _ _ _ _ us hl => match us, hl with | [_, _, _], _ => rfl
  obtain ⟨fd_law_sweep, F_law_sweep0⟩ := cf.def_ 70 rfl
  have F_law_sweep : FunD K "_law_sweep" "_law_sweep" (defArgs (top 84)) (defBody (top 84)) (defScope (top 84)) [] [] (He.fAd K ("_law_sweep", none)) fd_law_sweep := F_law_sweep0
  have b_law_sweep : Binds K fd_law_sweep ["rows", "mask", "order", "grid"] [] := F_law_sweep.bindsN fun _ _ _ _ _ _ us hl => match us, hl with | [_, _, _, _], _ => rfl
  obtain ⟨fd_law_start_grid, F_law_start_grid0⟩ := cf.def_ 65 rfl
  have F_law_start_grid : FunD K "_law_start_grid" "_law_start_grid" (defArgs (top 79)) (defBody (top 79)) (defScope (top 79)) [] [] (He.fAd K ("_law_start_grid", none)) fd_law_start_grid := F_law_start_grid0
  have b_law_start_grid : Binds K fd_law_start_grid ["rows"] [] := F_law_start_grid.bindsN fun _ _ _ _ _ _ us hl => match us, hl with | [_], _ => rfl
  obtain ⟨fd_law_orders, F_law_orders0⟩ := cf.def_ 52 rfl
  have F_law_orders : FunD K "_law_orders" "_law_orders" (defArgs (top 66)) (defBody (top 66)) (defScope (top 66)) [] [] (He.fAd K ("_law_orders", none)) fd_law_orders := F_law_orders0
  have b_law_orders : Binds K fd_law_orders [] [] := F_law_orders.bindsN fun _ _ _ _ _ _ us hl => match us, hl with | [], _ => rfl
  obtain ⟨fd_law_word_due, F_law_word_due0⟩ := cf.def_ 75 rfl
  have F_law_word_due : FunD K "_law_word_due" "_law_word_due" (defArgs (top 89)) (defBody (top 89)) (defScope (top 89)) [] [] (He.fAd K ("_law_word_due", none)) fd_law_word_due := F_law_word_due0
  have b_law_word_due : Binds K fd_law_word_due ["mask", "word"] [] := F_law_word_due.bindsN fun _ _ _ _ _ _ us hl => match us, hl with | [_, _], _ => rfl
  obtain ⟨fd_law_settle_by_holds, F_law_settle_by_holds0⟩ := cf.def_ 76 rfl
  have F_law_settle_by_holds : FunD K "_law_settle_by_holds" "_law_settle_by_holds" (defArgs (top 90)) (defBody (top 90)) (defScope (top 90)) [] [] (He.fAd K ("_law_settle_by_holds", none)) fd_law_settle_by_holds := F_law_settle_by_holds0
  have b_law_settle_by_holds : Binds K fd_law_settle_by_holds ["store", "rows", "mask", "word", "grid"] [] := F_law_settle_by_holds.bindsN fun _ _ _ _ _ _ us hl => match us, hl with | [_, _, _, _, _], _ => rfl
  obtain ⟨fd_law_counter, F_law_counter0⟩ := cf.def_ 57 rfl
  have F_law_counter : FunD K "_law_counter" "_law_counter" (defArgs (top 71)) (defBody (top 71)) (defScope (top 71)) [] [] (He.fAd K ("_law_counter", none)) fd_law_counter := F_law_counter0
  have b_law_counter : Binds K fd_law_counter ["order"] [] := F_law_counter.bindsN fun _ _ _ _ _ _ us hl => match us, hl with | [_], _ => rfl
  obtain ⟨fd_law_pick, F_law_pick0⟩ := cf.def_ 45 rfl
  have F_law_pick : FunD K "_law_pick" "_law_pick" (defArgs (top 59)) (defBody (top 59)) (defScope (top 59)) [] [] (He.fAd K ("_law_pick", none)) fd_law_pick := F_law_pick0
  have b_law_pick : Binds K fd_law_pick ["store", "items"] [] := F_law_pick.bindsN fun _ _ _ _ _ _ us hl => match us, hl with | [_, _], _ => rfl
  obtain ⟨fd_law_bad_order, F_law_bad_order0⟩ := cf.def_ 54 rfl
  have F_law_bad_order : FunD K "_law_bad_order" "_law_bad_order" (defArgs (top 68)) (defBody (top 68)) (defScope (top 68)) [] [] (He.fAd K ("_law_bad_order", none)) fd_law_bad_order := F_law_bad_order0
  have b_law_bad_order : Binds K fd_law_bad_order ["store"] [] := F_law_bad_order.bindsN fun _ _ _ _ _ _ us hl => match us, hl with | [_], _ => rfl
  obtain ⟨fd_law_changed, F_law_changed0⟩ := cf.def_ 73 rfl
  have F_law_changed : FunD K "_law_changed" "_law_changed" (defArgs (top 87)) (defBody (top 87)) (defScope (top 87)) [] [] (He.fAd K ("_law_changed", none)) fd_law_changed := F_law_changed0
  have b_law_changed : Binds K fd_law_changed ["one", "two"] [] := F_law_changed.bindsN fun _ _ _ _ _ _ us hl => match us, hl with | [_, _], _ => rfl
  obtain ⟨fd_law_settle_holds, F_law_settle_holds0⟩ := cf.def_ 74 rfl
  have F_law_settle_holds : FunD K "_law_settle_holds" "_law_settle_holds" (defArgs (top 88)) (defBody (top 88)) (defScope (top 88)) [] [] (He.fAd K ("_law_settle_holds", none)) fd_law_settle_holds := F_law_settle_holds0
  have b_law_settle_holds : Binds K fd_law_settle_holds ["rows", "mask", "order", "grid"] [] := F_law_settle_holds.bindsN fun _ _ _ _ _ _ us hl => match us, hl with | [_, _, _, _], _ => rfl
  obtain ⟨fd_law_grown, F_law_grown0⟩ := cf.def_ 67 rfl
  have F_law_grown : FunD K "_law_grown" "_law_grown" (defArgs (top 81)) (defBody (top 81)) (defScope (top 81)) [] [] (He.fAd K ("_law_grown", none)) fd_law_grown := F_law_grown0
  have b_law_grown : Binds K fd_law_grown ["grid", "arrows"] [] := F_law_grown.bindsN fun _ _ _ _ _ _ us hl => match us, hl with | [_, _], _ => rfl
  obtain ⟨fd_law_arrows, F_law_arrows0⟩ := cf.def_ 66 rfl
  have F_law_arrows : FunD K "_law_arrows" "_law_arrows" (defArgs (top 80)) (defBody (top 80)) (defScope (top 80)) [] [] (He.fAd K ("_law_arrows", none)) fd_law_arrows := F_law_arrows0
  have b_law_arrows : Binds K fd_law_arrows ["rows", "mask"] [] := F_law_arrows.bindsN fun _ _ _ _ _ _ us hl => match us, hl with | [_, _], _ => rfl
  obtain ⟨fd_law_distances, F_law_distances0⟩ := cf.def_ 68 rfl
  have F_law_distances : FunD K "_law_distances" "_law_distances" (defArgs (top 82)) (defBody (top 82)) (defScope (top 82)) [] [] (He.fAd K ("_law_distances", none)) fd_law_distances := F_law_distances0
  have b_law_distances : Binds K fd_law_distances ["rows", "mask"] [] := F_law_distances.bindsN fun _ _ _ _ _ _ us hl => match us, hl with | [_, _], _ => rfl
  obtain ⟨fd_law_order, F_law_order0⟩ := cf.def_ 53 rfl
  have F_law_order : FunD K "_law_order" "_law_order" (defArgs (top 67)) (defBody (top 67)) (defScope (top 67)) [] [] (He.fAd K ("_law_order", none)) fd_law_order := F_law_order0
  have b_law_order : Binds K fd_law_order ["store"] [] := F_law_order.bindsN fun _ _ _ _ _ _ us hl => match us, hl with | [_], _ => rfl
  obtain ⟨fd_law_word, F_law_word0⟩ := cf.def_ 58 rfl
  have F_law_word : FunD K "_law_word" "_law_word" (defArgs (top 72)) (defBody (top 72)) (defScope (top 72)) [] [] (He.fAd K ("_law_word", none)) fd_law_word := F_law_word0
  have b_law_word : Binds K fd_law_word ["store", "most"] [] := F_law_word.bindsN fun _ _ _ _ _ _ us hl => match us, hl with | [_, _], _ => rfl
  obtain ⟨fd_law_drawn_word, F_law_drawn_word0⟩ := cf.def_ 77 rfl
  have F_law_drawn_word : FunD K "_law_drawn_word" "_law_drawn_word" (defArgs (top 91)) (defBody (top 91)) (defScope (top 91)) [] [] (He.fAd K ("_law_drawn_word", none)) fd_law_drawn_word := F_law_drawn_word0
  have b_law_drawn_word : Binds K fd_law_drawn_word ["store"] [] := F_law_drawn_word.bindsN fun _ _ _ _ _ _ us hl => match us, hl with | [_], _ => rfl
  obtain ⟨fd_law_some, F_law_some0⟩ := cf.def_ 47 rfl
  have F_law_some : FunD K "_law_some" "_law_some" (defArgs (top 61)) (defBody (top 61)) (defScope (top 61)) [] [] (He.fAd K ("_law_some", none)) fd_law_some := F_law_some0
  have b_law_some : Binds K fd_law_some ["store", "items", "many"] [] := F_law_some.bindsN fun _ _ _ _ _ _ us hl => match us, hl with | [_, _, _], _ => rfl
  obtain ⟨fd_law_moves, F_law_moves0⟩ := cf.def_ 59 rfl
  have F_law_moves : FunD K "_law_moves" "_law_moves" (defArgs (top 73)) (defBody (top 73)) (defScope (top 73)) [] [] (He.fAd K ("_law_moves", none)) fd_law_moves := F_law_moves0
  have b_law_moves : Binds K fd_law_moves ["reach"] [] := F_law_moves.bindsN fun _ _ _ _ _ _ us hl => match us, hl with | [_], _ => rfl
  obtain ⟨fd_law_span, F_law_span0⟩ := cf.def_ 46 rfl
  have F_law_span : FunD K "_law_span" "_law_span" (defArgs (top 60)) (defBody (top 60)) (defScope (top 60)) [] [] (He.fAd K ("_law_span", none)) fd_law_span := F_law_span0
  have b_law_span : Binds K fd_law_span ["store", "low", "high"] [] := F_law_span.bindsN fun _ _ _ _ _ _ us hl => match us, hl with | [_, _, _], _ => rfl
  obtain ⟨fd_law_price, F_law_price0⟩ := cf.def_ 51 rfl
  have F_law_price : FunD K "_law_price" "_law_price" (defArgs (top 65)) (defBody (top 65)) (defScope (top 65)) [] [] (He.fAd K ("_law_price", none)) fd_law_price := F_law_price0
  have b_law_price : Binds K fd_law_price ["store", "low", "high"] [] := F_law_price.bindsN fun _ _ _ _ _ _ us hl => match us, hl with | [_, _, _], _ => rfl
  obtain ⟨fd_law_free_mask, F_law_free_mask0⟩ := cf.def_ 60 rfl
  have F_law_free_mask : FunD K "_law_free_mask" "_law_free_mask" (defArgs (top 74)) (defBody (top 74)) (defScope (top 74)) [] [] (He.fAd K ("_law_free_mask", none)) fd_law_free_mask := F_law_free_mask0
  have b_law_free_mask : Binds K fd_law_free_mask ["store", "reach", "most", "low", "high"] [] := F_law_free_mask.bindsN fun _ _ _ _ _ _ us hl => match us, hl with | [_, _, _, _, _], _ => rfl
  obtain ⟨fd_law_eights, F_law_eights0⟩ := cf.def_ 61 rfl
  have F_law_eights : FunD K "_law_eights" "_law_eights" (defArgs (top 75)) (defBody (top 75)) (defScope (top 75)) [] [] (He.fAd K ("_law_eights", none)) fd_law_eights := F_law_eights0
  have b_law_eights : Binds K fd_law_eights ["store", "low", "high"] [] := F_law_eights.bindsN fun _ _ _ _ _ _ us hl => match us, hl with | [_, _, _], _ => rfl
  obtain ⟨fd_law_drawn_mask, F_law_drawn_mask0⟩ := cf.def_ 79 rfl
  have F_law_drawn_mask : FunD K "_law_drawn_mask" "_law_drawn_mask" (defArgs (top 93)) (defBody (top 93)) (defScope (top 93)) [] [] (He.fAd K ("_law_drawn_mask", none)) fd_law_drawn_mask := F_law_drawn_mask0
  have b_law_drawn_mask : Binds K fd_law_drawn_mask ["store", "low"] [] := F_law_drawn_mask.bindsN fun _ _ _ _ _ _ us hl => match us, hl with | [_, _], _ => rfl
  obtain ⟨fd_law_drawn_floor, F_law_drawn_floor0⟩ := cf.def_ 78 rfl
  have F_law_drawn_floor : FunD K "_law_drawn_floor" "_law_drawn_floor" (defArgs (top 92)) (defBody (top 92)) (defScope (top 92)) [] [] (He.fAd K ("_law_drawn_floor", none)) fd_law_drawn_floor := F_law_drawn_floor0
  have b_law_drawn_floor : Binds K fd_law_drawn_floor ["store"] [] := F_law_drawn_floor.bindsN fun _ _ _ _ _ _ us hl => match us, hl with | [_], _ => rfl
  obtain ⟨fd_law_store, F_law_store0⟩ := cf.def_ 40 rfl
  have F_law_store : FunD K "_law_store" "_law_store" (defArgs (top 54)) (defBody (top 54)) (defScope (top 54)) [] [] (He.fAd K ("_law_store", none)) fd_law_store := F_law_store0
  have b_law_store : Binds K fd_law_store ["script"] [] := F_law_store.bindsN fun _ _ _ _ _ _ us hl => match us, hl with | [_], _ => rfl
  obtain ⟨fd_law, F_law0⟩ := cf.def_ 80 rfl
  have F_law : FunD K "law" "law" (defArgs (top 94)) (defBody (top 94)) (defScope (top 94)) [] [] (He.fAd K ("law", none)) fd_law := F_law0
  have e := hfa.symm.trans m_law
  cases e
  have bl := FunD.bindsA (ps := ["script"]) F_law fun _ _ _ _ _ _ us hl => match us, hl with | [_], _ => rfl
  refine ⟨fd_law, fun s v => bl s [v] rfl, fun base _ _ => ?_⟩
  have G_law_is_integer : Gf P w K mg base "_law_is_integer" 1 (sp_law_is_integer K mg (He.ga K "Floor")) := gf_of F_law_is_integer (ok_law_is_integer F_law_is_integer tx) m__law_is_integer b_law_is_integer
  have O_same0 : FnOk P w K mg base (L2.CX P w) 2 (He.fAd K ("_law_same", none)) fd_law_same ["actual", "expected"] (sp_law_same 0 K mg (He.ga K "Floor")) := F_law_same.ok sc_law_same (fun vs H Q E h => by obtain ⟨_, _, _, ⟨_, _, hl, _⟩, _⟩ := h; exact hl.elim) (fun cdv A outer s H vs Q E hr h => by obtain ⟨_, _, _, ⟨_, _, hl, _⟩, _⟩ := h; exact hl.elim)
  have G_same0 := gf_of F_law_same O_same0 m__law_same b_law_same
  have G_same1 : Gf P w K mg base "_law_same" (2 + 1) (sp_law_same 1 K mg (He.ga K "Floor")) := gf_of F_law_same (ok_law_same (d := 0) F_law_same tx G_same0 G_law_is_integer) m__law_same b_law_same
  have G_same2 : Gf P w K mg base "_law_same" (2 + 2) (sp_law_same 2 K mg (He.ga K "Floor")) := gf_of F_law_same (ok_law_same (d := 1) F_law_same tx G_same1 G_law_is_integer) m__law_same b_law_same
  have G_same3 : Gf P w K mg base "_law_same" (2 + 3) (sp_law_same 3 K mg (He.ga K "Floor")) := gf_of F_law_same (ok_law_same (d := 2) F_law_same tx G_same2 G_law_is_integer) m__law_same b_law_same
  have G_same4 : Gf P w K mg base "_law_same" (2 + 4) (sp_law_same 4 K mg (He.ga K "Floor")) := gf_of F_law_same (ok_law_same (d := 3) F_law_same tx G_same3 G_law_is_integer) m__law_same b_law_same
  have G_law_same : Gf P w K mg base "_law_same" 6 (sp_law_same 4 K mg (He.ga K "Floor")) := G_same4
  have G_law_holds : Gf P w K mg base "_law_holds" 7 (sp_law_holds K mg (He.ga K "Floor")) := gf_of F_law_holds (ok_law_holds F_law_holds tx G_law_same) m__law_holds b_law_holds
  have G_is_by_rows : Gf P w K mg base "is_by_rows" 1 (sp_is_by_rows K mg (He.ga K "Floor")) := gf_of F_is_by_rows (ok_is_by_rows F_is_by_rows tx) m_is_by_rows b_is_by_rows
  have G_indexes_by : Gf P w K mg base "indexes_by" 1 (sp_indexes_by K mg (He.ga K "Floor")) := gf_of F_indexes_by (ok_indexes_by F_indexes_by tx) m_indexes_by b_indexes_by
  have G_signs_of : Gf P w K mg base "signs_of" 1 (sp_signs_of K mg (He.ga K "Floor")) := gf_of F_signs_of (ok_signs_of F_signs_of tx) m_signs_of b_signs_of
  have X_BadOrder : Xf P w K mg base "BadOrder" 1 ["order"] := xf_of c (by simp [metL]) (ok_BadOrder_init F_BadOrder_init tx) b_BadOrder_init m_BadOrder
  have G_check_order : Gf P w K mg base "check_order" 3 (sp_check_order K mg (He.ga K "Floor")) := gf_of F_check_order (ok_check_order F_check_order tx X_BadOrder) m_check_order b_check_order
  have G_cells_in : Gf P w K mg base "cells_in" 4 (sp_cells_in K mg (He.ga K "Floor")) := gf_of F_cells_in (ok_cells_in F_cells_in tx G_is_by_rows G_indexes_by G_signs_of G_check_order) m_cells_in b_cells_in
  have G_least_item : Gf P w K mg base "least_item" 1 (sp_least_item K mg (He.ga K "Floor")) := gf_of F_least_item (ok_least_item F_least_item tx) m_least_item b_least_item
  have G_order_key : Gf P w K mg base "order_key" 4 (sp_order_key K mg (He.ga K "Floor")) := gf_of F_order_key (ok_order_key F_order_key tx G_is_by_rows G_signs_of G_check_order) m_order_key b_order_key
  have G_is_forward : Gf P w K mg base "is_forward" 5 (sp_is_forward K mg (He.ga K "Floor")) := gf_of F_is_forward (ok_is_forward F_is_forward tx G_order_key) m_is_forward b_is_forward
  have G_forward_part : Gf P w K mg base "forward_part" 6 (sp_forward_part K mg (He.ga K "Floor")) := gf_of F_forward_part (ok_forward_part F_forward_part tx G_is_forward G_check_order) m_forward_part b_forward_part
  have G_settled_by : Gf P w K mg base "settled_by" 7 (sp_settled_by K mg (He.ga K "Floor")) := gf_of F_settled_by (ok_settled_by F_settled_by tx G_cells_in G_least_item G_forward_part) m_settled_by b_settled_by
  have G_sweep_once : Gk P w K mg base "sweep_once" 8 3 (sp_sweep_once K mg (He.ga K "Floor")) := gk_of F_sweep_once (ok_sweep_once F_sweep_once tx G_settled_by) m_sweep_once (by simp) (fun _ _ _ _ _ _ us ws h1 h2 => match us, h1, ws, h2 with | [_, _, _], _, [_], _ => rfl)
  have G_start_grid : Gf P w K mg base "start_grid" 1 (sp_start_grid K mg (He.ga K "Floor")) := gf_of F_start_grid (ok_start_grid F_start_grid tx) m_start_grid b_start_grid
  have G_moves_of : Gf P w K mg base "moves_of" 1 (sp_moves_of K mg (He.ga K "Floor")) := gf_of F_moves_of (ok_moves_of F_moves_of tx) m_moves_of b_moves_of
  have G_need_order : Gf P w K mg base "need_order" 3 (sp_need_order K mg (He.ga K "Floor")) := gf_of F_need_order (ok_need_order F_need_order tx X_BadOrder) m_need_order b_need_order
  have X_TooMany : Xf P w K mg base "TooMany" 1 ["what", "limit"] := xf_of c (by simp [metL]) (ok_TooMany_init F_TooMany_init tx) b_TooMany_init m_TooMany
  have G_need_word : Gf P w K mg base "need_word" 4 (sp_need_word K mg (He.ga K "Floor")) := gf_of F_need_word (ok_need_word F_need_word tx G_need_order X_TooMany) m_need_word b_need_word
  have X_Empty : Xf P w K mg base "Empty" 1 ["what"] := xf_of c (by simp [metL]) (ok_Empty_init F_Empty_init tx) b_Empty_init m_Empty
  have X_NotYes : Xf P w K mg base "NotYes" 1 ["what"] := xf_of c (by simp [metL]) (ok_NotYes_init F_NotYes_init tx) b_NotYes_init m_NotYes
  have G_settle_by : Gf P w K mg base "settle_by" 9 (sp_settle_by K mg (He.ga K "Floor")) := gf_of F_settle_by (ok_settle_by F_settle_by tx G_sweep_once G_start_grid G_moves_of G_is_forward G_need_word X_Empty X_NotYes) m_settle_by b_settle_by
  have G_opposite : Gf P w K mg base "opposite" 4 (sp_opposite K mg (He.ga K "Floor")) := gf_of F_opposite (ok_opposite F_opposite tx G_check_order) m_opposite b_opposite
  have G_changed_cells : Gf P w K mg base "changed_cells" 1 (sp_changed_cells K mg (He.ga K "Floor")) := gf_of F_changed_cells (ok_changed_cells F_changed_cells tx) m_changed_cells b_changed_cells
  have G_settle : Gk P w K mg base "settle" 9 2 (sp_settle K mg (He.ga K "Floor")) := gk_of F_settle (ok_settle F_settle tx G_opposite G_changed_cells G_sweep_once G_start_grid G_need_order) m_settle (by simp) (fun _ _ _ _ _ _ us ws h1 h2 => match us, h1, ws, h2 with | [_, _], _, [_], _ => rfl)
  have G_law_asked : Gf P w K mg base "_law_asked" 10 (sp_law_asked K mg (He.ga K "Floor")) := gf_of F_law_asked (ok_law_asked F_law_asked tx G_settle_by G_settle ET (fun _ h => h)) m__law_asked b_law_asked
  have G_law_mix : Gf P w K mg base "_law_mix" 1 (sp_law_mix K mg (He.ga K "Floor")) := gf_of F_law_mix (ok_law_mix F_law_mix tx) m__law_mix b_law_mix
  have G_law_mixed : Gf P w K mg base "_law_mixed" 2 (sp_law_mixed K mg (He.ga K "Floor")) := gf_of F_law_mixed (ok_law_mixed F_law_mixed tx G_law_mix) m__law_mixed b_law_mixed
  have G_law_take : Gf P w K mg base "_law_take" 3 (sp_law_take K mg (He.ga K "Floor")) := gf_of F_law_take (ok_law_take F_law_take tx G_law_mixed) m__law_take b_law_take
  have G_law_hit : Gf P w K mg base "_law_hit" 4 (sp_law_hit K mg (He.ga K "Floor")) := gf_of F_law_hit (ok_law_hit F_law_hit tx G_law_take) m__law_hit b_law_hit
  have G_law_sequence : Gf P w K mg base "_law_sequence" 5 (sp_law_sequence K mg (He.ga K "Floor")) := gf_of F_law_sequence (ok_law_sequence F_law_sequence tx G_law_hit) m__law_sequence b_law_sequence
  have G_check_size : Gf P w K mg base "check_size" 3 (sp_check_size K mg (He.ga K "Floor")) := gf_of F_check_size (ok_check_size F_check_size tx) m_check_size b_check_size
  have G_check_rows : Gf P w K mg base "check_rows" 4 (sp_check_rows K mg (He.ga K "Floor")) := gf_of F_check_rows (ok_check_rows F_check_rows tx G_check_size) m_check_rows b_check_rows
  have M_Floor : Mkf P w K mg base (He.ga K "Floor") "Floor" 5 (sp_Floor_init K mg (He.ga K "Floor")) := ⟨_, _, _, mkF, ok_Floor_init F_Floor_init tx G_check_rows, m_Floor, b_Floor_init⟩
  have G_law_cells_where : Gf P w K mg base "_law_cells_where" 1 (sp_law_cells_where K mg (He.ga K "Floor")) := gf_of F_law_cells_where (ok_law_cells_where F_law_cells_where tx) m__law_cells_where b_law_cells_where
  have G_law_key : Gf P w K mg base "_law_key" 1 (sp_law_key K mg (He.ga K "Floor")) := gf_of F_law_key (ok_law_key F_law_key tx) m__law_key b_law_key
  have G_law_ordered_cells : Gf P w K mg base "_law_ordered_cells" 2 (sp_law_ordered_cells K mg (He.ga K "Floor")) := gf_of F_law_ordered_cells (ok_law_ordered_cells F_law_ordered_cells tx G_law_cells_where G_law_key) m__law_ordered_cells b_law_ordered_cells
  have G_law_is_open : Gf P w K mg base "_law_is_open" 1 (sp_law_is_open K mg (He.ga K "Floor")) := gf_of F_law_is_open (ok_law_is_open F_law_is_open tx) m__law_is_open b_law_is_open
  have G_law_is_ahead : Gf P w K mg base "_law_is_ahead" 2 (sp_law_is_ahead K mg (He.ga K "Floor")) := gf_of F_law_is_ahead (ok_law_is_ahead F_law_is_ahead tx G_law_key) m__law_is_ahead b_law_is_ahead
  have G_law_part : Gf P w K mg base "_law_part" 3 (sp_law_part K mg (He.ga K "Floor")) := gf_of F_law_part (ok_law_part F_law_part tx G_law_is_ahead) m__law_part b_law_part
  have G_law_sweep : Gf P w K mg base "_law_sweep" 4 (sp_law_sweep K mg (He.ga K "Floor")) := gf_of F_law_sweep (ok_law_sweep F_law_sweep tx G_law_ordered_cells G_law_is_open G_law_part) m__law_sweep b_law_sweep
  have G_law_start_grid : Gf P w K mg base "_law_start_grid" 1 (sp_law_start_grid K mg (He.ga K "Floor")) := gf_of F_law_start_grid (ok_law_start_grid F_law_start_grid tx) m__law_start_grid b_law_start_grid
  have G_law_orders : Gf P w K mg base "_law_orders" 1 (sp_law_orders K mg (He.ga K "Floor")) := gf_of F_law_orders (ok_law_orders F_law_orders tx) m__law_orders b_law_orders
  have G_law_word_due : Gf P w K mg base "_law_word_due" 3 (sp_law_word_due K mg (He.ga K "Floor")) := gf_of F_law_word_due (ok_law_word_due F_law_word_due tx G_law_is_ahead G_law_orders) m__law_word_due b_law_word_due
  have G_law_settle_by_holds : Gf P w K mg base "_law_settle_by_holds" 11 (sp_law_settle_by_holds K mg (He.ga K "Floor")) := gf_of F_law_settle_by_holds (ok_law_settle_by_holds F_law_settle_by_holds tx G_law_same G_law_holds G_law_asked G_law_sequence M_Floor G_law_sweep G_law_start_grid G_law_word_due) m__law_settle_by_holds b_law_settle_by_holds
  have G_law_counter : Gf P w K mg base "_law_counter" 1 (sp_law_counter K mg (He.ga K "Floor")) := gf_of F_law_counter (ok_law_counter F_law_counter tx) m__law_counter b_law_counter
  have G_law_pick : Gf P w K mg base "_law_pick" 4 (sp_law_pick K mg (He.ga K "Floor")) := gf_of F_law_pick (ok_law_pick F_law_pick tx G_law_take) m__law_pick b_law_pick
  have G_law_bad_order : Gf P w K mg base "_law_bad_order" 5 (sp_law_bad_order K mg (He.ga K "Floor")) := gf_of F_law_bad_order (ok_law_bad_order F_law_bad_order tx G_law_pick) m__law_bad_order b_law_bad_order
  have G_law_changed : Gf P w K mg base "_law_changed" 1 (sp_law_changed K mg (He.ga K "Floor")) := gf_of F_law_changed (ok_law_changed F_law_changed tx) m__law_changed b_law_changed
  have G_law_settle_holds : Gf P w K mg base "_law_settle_holds" 11 (sp_law_settle_holds K mg (He.ga K "Floor")) := gf_of F_law_settle_holds (ok_law_settle_holds F_law_settle_holds tx G_law_holds G_law_asked M_Floor G_law_changed G_law_sweep G_law_start_grid G_law_counter) m__law_settle_holds b_law_settle_holds
  have G_law_grown : Gf P w K mg base "_law_grown" 1 (sp_law_grown K mg (He.ga K "Floor")) := gf_of F_law_grown (ok_law_grown F_law_grown tx) m__law_grown b_law_grown
  have G_law_arrows : Gf P w K mg base "_law_arrows" 2 (sp_law_arrows K mg (He.ga K "Floor")) := gf_of F_law_arrows (ok_law_arrows F_law_arrows tx G_law_cells_where G_law_is_open) m__law_arrows b_law_arrows
  have G_law_distances : Gf P w K mg base "_law_distances" 3 (sp_law_distances K mg (He.ga K "Floor")) := gf_of F_law_distances (ok_law_distances F_law_distances tx G_law_grown G_law_arrows G_law_start_grid) m__law_distances b_law_distances
  have G_law_order : Gf P w K mg base "_law_order" 5 (sp_law_order K mg (He.ga K "Floor")) := gf_of F_law_order (ok_law_order F_law_order tx G_law_pick G_law_orders) m__law_order b_law_order
  have G_law_word : Gf P w K mg base "_law_word" 6 (sp_law_word K mg (He.ga K "Floor")) := gf_of F_law_word (ok_law_word F_law_word tx G_law_hit G_law_counter G_law_order G_law_take) m__law_word b_law_word
  have G_law_drawn_word : Gf P w K mg base "_law_drawn_word" 7 (sp_law_drawn_word K mg (He.ga K "Floor")) := gf_of F_law_drawn_word (ok_law_drawn_word F_law_drawn_word tx G_law_hit G_law_bad_order G_law_take G_law_pick G_law_counter G_law_word) m__law_drawn_word b_law_drawn_word
  have G_law_some : Gf P w K mg base "_law_some" 4 (sp_law_some K mg (He.ga K "Floor")) := gf_of F_law_some (ok_law_some F_law_some tx G_law_take) m__law_some b_law_some
  have G_law_moves : Gf P w K mg base "_law_moves" 1 (sp_law_moves K mg (He.ga K "Floor")) := gf_of F_law_moves (ok_law_moves F_law_moves tx) m__law_moves b_law_moves
  have G_law_span : Gf P w K mg base "_law_span" 4 (sp_law_span K mg (He.ga K "Floor")) := gf_of F_law_span (ok_law_span F_law_span tx G_law_take) m__law_span b_law_span
  have G_law_price : Gf P w K mg base "_law_price" 5 (sp_law_price K mg (He.ga K "Floor")) := gf_of F_law_price (ok_law_price F_law_price tx G_law_span G_law_take) m__law_price b_law_price
  have G_law_free_mask : Gf P w K mg base "_law_free_mask" 6 (sp_law_free_mask K mg (He.ga K "Floor")) := gf_of F_law_free_mask (ok_law_free_mask F_law_free_mask tx G_law_some G_law_take G_law_moves G_law_price) m__law_free_mask b_law_free_mask
  have G_law_eights : Gf P w K mg base "_law_eights" 6 (sp_law_eights K mg (He.ga K "Floor")) := gf_of F_law_eights (ok_law_eights F_law_eights tx G_law_hit G_law_span G_law_price) m__law_eights b_law_eights
  have G_law_drawn_mask : Gf P w K mg base "_law_drawn_mask" 7 (sp_law_drawn_mask K mg (He.ga K "Floor")) := gf_of F_law_drawn_mask (ok_law_drawn_mask F_law_drawn_mask tx G_law_free_mask G_law_pick G_law_hit G_law_eights) m__law_drawn_mask b_law_drawn_mask
  have G_law_drawn_floor : Gf P w K mg base "_law_drawn_floor" 5 (sp_law_drawn_floor K mg (He.ga K "Floor")) := gf_of F_law_drawn_floor (ok_law_drawn_floor F_law_drawn_floor tx G_law_pick G_law_span G_law_hit G_law_take) m__law_drawn_floor b_law_drawn_floor
  have G_law_store : Gf P w K mg base "_law_store" 1 (sp_law_store K mg (He.ga K "Floor")) := gf_of F_law_store (ok_law_store F_law_store tx) m__law_store b_law_store
  exact ok_law F_law tx G_law_settle_by_holds G_law_counter G_law_holds G_law_asked M_Floor G_law_bad_order G_law_settle_holds G_law_distances G_law_drawn_word G_law_order G_law_drawn_mask G_law_drawn_floor G_law_store
end TW

set_option Elab.async false
set_option linter.all false
set_option maxRecDepth 100000
set_option maxHeartbeats 0
namespace TW
open PySem PySem.Spec PyProof.Rows L2
theorem fn_cx0 {P : Program} {w : World} {K : PySem.W.Frag} {mg : Str → Option Value} {base : Heap} {k : Nat} {f : Addr} {fd : FuncData} {ps : List Str} {sp : Sp} (F : FnOk P w K mg base (L2.CX P w) k f fd ps sp) (hE : ∀ vs H Q E, sp vs H Q E → sp vs H Q fun _ _ _ => False) : FnOk P w K mg base CX0 k f fd ps sp :=
  ⟨F.len, fun A outer s H args us vs Q E hr he hb hv hs => codeAny_mono (F.run A outer s H args us vs Q (fun _ _ _ => False) hr he hb hv (hE _ _ _ _ hs)) fun r s' hq => by
    cases r with
    | ok fl => cases fl <;> exact hq
    | error e =>
      obtain ⟨_, _, _, _, _, _, _, _, _, _, _, _, z⟩ := hq
      exact z.elim⟩
end TW
set_option Elab.async false
set_option linter.all false
set_option maxRecDepth 100000
set_option maxHeartbeats 0
open PySem PySem.W PySem.Calls PyProof.Rows
theorem PySem.Challenge.cw_twosweeps_k81_settle_holds : PySem.Challenge.rw_twosweeps_k81_settle.Holds := by
  w_on; o_law
  refine HandSHeadRun.head_any (r := OpenLaw.row PySem.Challenge.rw_twosweeps_k81_settle) (q := view (OpenLaw.row PySem.Challenge.rw_twosweeps_k81_settle).prog [94]) (H := TW.hk TW.faL TW.fnL TW.metL) (ob := TW.hkT TW.faL TW.fnL TW.metL) (M := 20000) (loose := TW.nmL) (d := HandSHeadRun.topDef (OpenLaw.row PySem.Challenge.rw_twosweeps_k81_settle).prog 94) (kwd := []) TW.hkT_eq
    (by kernel_rfl) (fun s => by kernel_rfl) (PySem.W.byRow2 "special-get-raises" TW.runF TW.runT) (by kernel_rfl) (by kernel_rfl) (by kernel_rfl) (by rfl) (by first | assumption | decide +kernel) (by decide +kernel) ⟨rfl, rfl, rfl, rfl, rfl, by decide +kernel⟩ ?hw ?hc
  case hw => w_witness2
  case hc =>
    refine L2.walk_ofE (l := PySem.Challenge.rw_twosweeps_k81_settle) (n := 63) (k := 12) (x := "script") (CX := L2.CX0) rfl (by decide) (by kernel_rfl) ⟨rfl, by decide, by decide⟩ ?F (fun _ _ _ _ z => z)
    intro w mg fa h Y G hmg0
    obtain ⟨K, KX, c⟩ := Y
    have hmg : mg ("law" : PySem.Str) = some (.ref fa) := by
      have e : (HandSHeadRun.topDef (OpenLaw.row PySem.Challenge.rw_twosweeps_k81_settle).prog 94).name = ("law" : PySem.Str) := by kernel_rfl
      rw [← e]
      exact hmg0
    obtain ⟨fd, hb, hF⟩ := TW.facts (P := (PySem.Challenge.rw_twosweeps_k81_settle).prog) (w := w) KX G hmg c
    exact ⟨K, fd, TW.sp_law K mg (He.ga K "Floor"), KX, hb, fun H a ns hl _ hS => ⟨a, ns, rfl, hS, fun _ _ => rfl⟩, fun base h1 h2 => TW.fn_cx0 (hF base h1 h2) fun _ _ _ _ h => h⟩
