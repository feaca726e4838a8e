import PyProof.Rows.All
import Wide.All
import OpenK.AllK
import Wide.FinOn
import KE.KStateDown
import HandS.ForMost
import HandS.IsInst
import HandS.Codes
import HandS.TupAny
import HandS.TupMul
import HandS.Conv
import HandS.Walk
import HandS.Zip
import HandS.Star
import HandS.Defaults
import HandS.DictComp
import HandS.FStr
import HandS.Property
import HandS.Deep
import KE.GoesEnum
import KE.GoesMore
import HandS.Head0
import HandS.Head1
import HandS.Head2
import HandS.HeadEnd
import HandS.HeadHook1
import HandS.HeadHook2
import HandS.HeadHook3
import HandS.HeadHook4
import KE.KNestM
import KE.KSuper
import KE.KDictZip
import HandS.SortInts
import KE.KParD
import OpenK.KMeth
import KE.SortKeyHeap
import HandS.Lambda
import HandS.Strs
import KE.SortData
import HandS.HeadWalk
import PySem.Challenge.RW_alwaysnew_k15_whole_other_names
/-! part D0 -/
set_option Elab.async false
set_option linter.all false
set_option maxRecDepth 100000
set_option maxHeartbeats 1000000
namespace K15
open PySem PySem.Spec PyProof.Rows L2

/-! ### heaps -/
theorem sm_new {H : Hp} {p : Addr} {o : HO} (h : H p = none) : Same H (upd H p o) := fun b u e => by
  rw [upd_ne (ne_of_none e h)]
  exact e
theorem sm_mut {H H' : Hp} {p : Addr} {o : HO} (e : Same H H') (h : H p = none) : Same H (upd H' p o) := fun b u q => by
  rw [upd_ne (ne_of_none q h)]
  exact e b u q
theorem sm_rd {H H' : Hp} {a : Addr} {u : HO} (e : Same H H') (h : Rd H a u) : Rd H' a u := by
  rcases h with h | ⟨o, h⟩
  · exact .inl (e _ _ h)
  · exact .inr ⟨o, e _ _ h⟩
theorem sm_t {K : PySem.W.Frag} {H H' : Hp} {a : Addr} {xs : List V} (e : Same H H') (h : SqT K H a xs) : SqT K H' a xs := by
  rcases h with h | h
  · exact .inl (sm_rd e h)
  · exact .inr h
/-- what a def's own lists and dicts are -/
def Lk : HO → Prop
  | .lst _ => True
  | .dK _ => True
  | _ => False
/-- all but lists and dicts is kept -/
structure Im (H H' : Hp) : Prop where
  t : ∀ b xs, Rd H b (.tup xs) → Rd H' b (.tup xs)
  n : ∀ b u, H b = some u → ¬ Lk u → H' b = some u
theorem Im.i {H H' : Hp} (a : Im H H') : ∀ b C dx fs, H b = some (.ins C dx fs) → H' b = some (.ins C dx fs) := fun b C dx fs h => a.n b _ h id
theorem Im.refl (H : Hp) : Im H H := ⟨fun _ _ h => h, fun _ _ h _ => h⟩
theorem Im.trans {H H1 H2 : Hp} (a : Im H H1) (b : Im H1 H2) : Im H H2 := ⟨fun c xs h => b.t c xs (a.t c xs h), fun c u h k => b.n c u (a.n c u h k) k⟩
theorem im_same {H H' : Hp} (e : Same H H') : Im H H' := ⟨fun _ _ h => sm_rd e h, fun _ _ h _ => e _ _ h⟩
theorem im_upd {H : Hp} {p : Addr} {u : HO} (h : ∀ o, H p = some o → Lk o) : Im H (upd H p u) := by
  refine ⟨fun b xs r => ?_, fun b o r k => ?_⟩
  · have nb : b ≠ p := by
      rintro rfl
      rcases r with r | ⟨o, r⟩
      · exact (h _ r).elim
      · exact (h _ r).elim
    rcases r with r | ⟨o, r⟩
    · exact .inl (by rw [upd_ne nb]; exact r)
    · exact .inr ⟨o, by rw [upd_ne nb]; exact r⟩
  · rw [upd_ne (by rintro rfl; exact k (h _ r))]
    exact r
theorem im_lst {H : Hp} {p : Addr} {u : HO} {ys : List V} (h : H p = some (.lst ys)) : Im H (upd H p u) := im_upd fun o e => by
  rw [h] at e
  cases e
  exact True.intro

/-! ### data that never changes: None, bools, ints, texts, tuples of these -/
mutual
inductive Dt (K : PySem.W.Frag) (H : Hp) : V → PyData → Prop
  | non : Dt K H .non .none
  | bl (b : Bool) : Dt K H (.bl b) (.bool b)
  | int (i : Int) : Dt K H (.int i) (.int i)
  | str (x : Str) : Dt K H (.str x) (.str x)
  | tup {a : Addr} {xs : List V} {ds : List PyData} : SqT K H a xs → DtAll K H xs ds → Dt K H (.ref a) (.tuple ds)
inductive DtAll (K : PySem.W.Frag) (H : Hp) : List V → List PyData → Prop
  | nil : DtAll K H [] []
  | cons {v : V} {vs : List V} {d : PyData} {ds : List PyData} : Dt K H v d → DtAll K H vs ds → DtAll K H (v :: vs) (d :: ds)
end
section
variable {K : PySem.W.Frag} {H H' : Hp}
mutual
theorem Dt.imT (e : ∀ b xs, Rd H b (.tup xs) → Rd H' b (.tup xs)) : ∀ (d : PyData) (v : V), Dt K H v d → Dt K H' v d
  | .none, _, h => by cases h; exact .non
  | .bool b, _, h => by cases h; exact .bl b
  | .int i, _, h => by cases h; exact .int i
  | .str x, _, h => by cases h; exact .str x
  | .list _, _, h => by cases h
  | .dict _, _, h => by cases h
  | .tuple ds, _, h => by
    cases h with
    | tup hs ha =>
      refine .tup ?_ (DtAll.imT e ds _ ha)
      rcases hs with hs | hs
      · exact .inl (e _ _ hs)
      · exact .inr hs
theorem DtAll.imT (e : ∀ b xs, Rd H b (.tup xs) → Rd H' b (.tup xs)) : ∀ (ds : List PyData) (vs : List V), DtAll K H vs ds → DtAll K H' vs ds
  | [], _, h => by cases h; exact .nil
  | d :: ds, _, h => by
    cases h with
    | cons h1 h2 => exact .cons (Dt.imT e d _ h1) (DtAll.imT e ds _ h2)
end
mutual
theorem Dt.im (e : Im H H') : ∀ (d : PyData) (v : V), Dt K H v d → Dt K H' v d
  | .none, _, h => by cases h; exact .non
  | .bool b, _, h => by cases h; exact .bl b
  | .int i, _, h => by cases h; exact .int i
  | .str x, _, h => by cases h; exact .str x
  | .list _, _, h => by cases h
  | .dict _, _, h => by cases h
  | .tuple ds, _, h => by
    cases h with
    | tup hs ha =>
      refine .tup ?_ (DtAll.im e ds _ ha)
      rcases hs with hs | hs
      · exact .inl (e.t _ _ hs)
      · exact .inr hs
theorem DtAll.im (e : Im H H') : ∀ (ds : List PyData) (vs : List V), DtAll K H vs ds → DtAll K H' vs ds
  | [], _, h => by cases h; exact .nil
  | d :: ds, _, h => by
    cases h with
    | cons h1 h2 => exact .cons (Dt.im e d _ h1) (DtAll.im e ds _ h2)
end
theorem Dt.mono (e : Same H H') {d : PyData} {v : V} (h : Dt K H v d) : Dt K H' v d := h.im (im_same e) d v
theorem DtAll.mono (e : Same H H') {ds : List PyData} {vs : List V} (h : DtAll K H vs ds) : DtAll K H' vs ds := DtAll.im (im_same e) ds vs h
mutual
theorem Dt.dp : ∀ (d : PyData) (v : V), Dt K H v d → Dp K H v d
  | .none, _, h => by cases h; exact .non
  | .bool b, _, h => by cases h; exact .bl b
  | .int i, _, h => by cases h; exact .int i
  | .str x, _, h => by cases h; exact .str x
  | .list _, _, h => by cases h
  | .dict _, _, h => by cases h
  | .tuple ds, _, h => by
    cases h with
    | tup hs ha => exact .tup hs (DtAll.dp ds _ ha)
theorem DtAll.dp : ∀ (ds : List PyData) (vs : List V), DtAll K H vs ds → DpAll K H vs ds
  | [], _, h => by cases h; exact .nil
  | d :: ds, _, h => by
    cases h with
    | cons h1 h2 => exact .cons (Dt.dp d _ h1) (DtAll.dp ds _ h2)
end
theorem DtAll.length : ∀ {ds : List PyData} {vs : List V}, DtAll K H vs ds → vs.length = ds.length
  | [], _, h => by cases h; rfl
  | d :: ds, _, h => by
    cases h with
    | cons h1 h2 => exact congrArg Nat.succ (DtAll.length h2)
theorem DtAll.get : ∀ {ds : List PyData} {vs : List V} {i : Nat} {d : PyData}, DtAll K H vs ds → ds[i]? = some d → ∃ v, vs[i]? = some v ∧ Dt K H v d
  | [], _, _, _, _, e => by simp at e
  | d :: ds, _, 0, _, h, e => by
    cases h with
    | cons h1 h2 =>
      have e2 : d = _ := Option.some.inj e
      subst e2
      exact ⟨_, rfl, h1⟩
  | d :: ds, _, i + 1, _, h, e => by
    cases h with
    | cons h1 h2 => exact DtAll.get (i := i) h2 (by simpa using e)
theorem DtAll.getV : ∀ {ds : List PyData} {vs : List V} {i : Nat} {v : V}, DtAll K H vs ds → vs[i]? = some v → ∃ d, ds[i]? = some d ∧ Dt K H v d
  | [], _, _, _, h, e => by cases h; simp at e
  | d :: ds, _, 0, _, h, e => by
    cases h with
    | cons h1 h2 =>
      have e2 : _ = _ := Option.some.inj e
      subst e2
      exact ⟨_, rfl, h1⟩
  | d :: ds, _, i + 1, _, h, e => by
    cases h with
    | cons h1 h2 => exact DtAll.getV (i := i) h2 (by simpa using e)
theorem DtAll.append : ∀ {ds es : List PyData} {vs ws : List V}, DtAll K H vs ds → DtAll K H ws es → DtAll K H (vs ++ ws) (ds ++ es)
  | [], _, _, _, h, k => by cases h; exact k
  | d :: ds, _, _, _, h, k => by
    cases h with
    | cons h1 h2 => exact .cons h1 (DtAll.append h2 k)
theorem DtAll.drop : ∀ {ds : List PyData} {vs : List V} (n : Nat), DtAll K H vs ds → DtAll K H (vs.drop n) (ds.drop n)
  | _, _, 0, h => h
  | [], _, n + 1, h => by cases h; exact .nil
  | d :: ds, _, n + 1, h => by
    cases h with
    | cons h1 h2 => exact DtAll.drop n h2
theorem DtAll.snoc {ds : List PyData} {vs : List V} {d : PyData} {v : V} (h : DtAll K H vs ds) (k : Dt K H v d) : DtAll K H (vs ++ [v]) (ds ++ [d]) := h.append (.cons k .nil)
theorem DtAll.one {d : PyData} {vs : List V} (h : DtAll K H vs [d]) : ∃ v, vs = [v] ∧ Dt K H v d := by
  cases h with
  | cons h1 h2 =>
    cases h2
    exact ⟨_, rfl, h1⟩
theorem DtAll.two {d e : PyData} {vs : List V} (h : DtAll K H vs [d, e]) : ∃ v w, vs = [v, w] ∧ Dt K H v d ∧ Dt K H w e := by
  cases h with
  | cons h1 h2 =>
    obtain ⟨w, rfl, h3⟩ := h2.one
    exact ⟨_, w, rfl, h1, h3⟩
theorem DtAll.three {d e f : PyData} {vs : List V} (h : DtAll K H vs [d, e, f]) : ∃ v w u, vs = [v, w, u] ∧ Dt K H v d ∧ Dt K H w e ∧ Dt K H u f := by
  cases h with
  | cons h1 h2 =>
    obtain ⟨w, u, rfl, h3, h4⟩ := h2.two
    exact ⟨_, w, u, rfl, h1, h3, h4⟩
theorem Dt.tup_inv {v : V} {ds : List PyData} (h : Dt K H v (.tuple ds)) : ∃ a xs, v = .ref a ∧ SqT K H a xs ∧ DtAll K H xs ds := by
  cases h with
  | tup hs ha => exact ⟨_, _, rfl, hs, ha⟩
theorem Dt.int_inv {v : V} {i : Int} (h : Dt K H v (.int i)) : v = .int i := by cases h; rfl
theorem Dt.str_inv {v : V} {x : Str} (h : Dt K H v (.str x)) : v = .str x := by cases h; rfl
theorem Dt.bl_inv {v : V} {b : Bool} (h : Dt K H v (.bool b)) : v = .bl b := by cases h; rfl
theorem Dt.non_inv {v : V} (h : Dt K H v .none) : v = .non := by cases h; rfl
theorem dtAll_strs : ∀ l : List Str, DtAll K H (l.map V.str) (l.map PyData.str)
  | [] => .nil
  | x :: l => .cons (.str x) (dtAll_strs l)
theorem DtAll.strs : ∀ {l : List Str} {vs : List V}, DtAll K H vs (l.map PyData.str) → vs = l.map V.str
  | [], _, h => by cases h; rfl
  | x :: l, _, h => by
    cases h with
    | cons h1 h2 =>
      rw [DtAll.strs h2, h1.str_inv]
      rfl
theorem dtAll_ints : ∀ l : List Int, DtAll K H (l.map V.int) (l.map PyData.int)
  | [] => .nil
  | x :: l => .cons (.int x) (dtAll_ints l)
theorem DtAll.ints : ∀ {l : List Int} {vs : List V}, DtAll K H vs (l.map PyData.int) → vs = l.map V.int
  | [], _, h => by cases h; rfl
  | x :: l, _, h => by
    cases h with
    | cons h1 h2 =>
      rw [DtAll.ints h2, h1.int_inv]
      rfl
end

/-! ### the slots, told as data or as values -/
inductive Sl where
  | o | d (x : PyData) | v (x : V)
def SlOk (K : PySem.W.Frag) (H : Hp) : Sl → Option V → Prop
  | .o, _ => True
  | .d x, some v => Dt K H v x
  | .v x, some v => v = x
  | _, none => False
def Sls (K : PySem.W.Frag) (H : Hp) : L2.St → List Sl → Prop
  | [], [] => True
  | s :: σ, g :: Γ => SlOk K H g s ∧ Sls K H σ Γ
  | _, _ => False
section
variable {K : PySem.W.Frag} {H H' H0 : Hp}
theorem SlOk.im (e : Im H H') : ∀ {g : Sl} {s : Option V}, SlOk K H g s → SlOk K H' g s
  | .o, _, _ => True.intro
  | .d x, some v, h => Dt.im e x v h
  | .v x, some v, h => h
  | .d _, none, h => h.elim
  | .v _, none, h => h.elim
theorem Sls.im (e : Im H H') : ∀ {σ : L2.St} {Γ : List Sl}, Sls K H σ Γ → Sls K H' σ Γ
  | [], [], _ => True.intro
  | s :: σ, g :: Γ, h => ⟨SlOk.im e h.1, Sls.im e h.2⟩
  | [], _ :: _, h => h.elim
  | _ :: _, [], h => h.elim
theorem Sls.set {s : Option V} {g : Sl} (k : SlOk K H g s) : ∀ {σ : L2.St} {Γ : List Sl} (i : Nat), Sls K H σ Γ → Sls K H (σ.set i s) (Γ.set i g)
  | [], [], _, h => h
  | s :: σ, g :: Γ, 0, h => ⟨k, h.2⟩
  | s :: σ, g :: Γ, i + 1, h => ⟨h.1, Sls.set k i h.2⟩
  | [], _ :: _, _, h => h.elim
  | _ :: _, [], _, h => h.elim
theorem Sls.at_ : ∀ {σ : L2.St} {Γ : List Sl} {i : Nat} {g : Sl}, Sls K H σ Γ → Γ[i]? = some g → ∃ s, σ[i]? = some s ∧ SlOk K H g s
  | s :: σ, g :: Γ, 0, _, h, e => by
    have e2 : g = _ := Option.some.inj e
    subst e2
    exact ⟨s, rfl, h.1⟩
  | s :: σ, g :: Γ, i + 1, _, h, e => Sls.at_ (i := i) h.2 (by simpa using e)
  | [], [], _, _, _, e => by simp at e
  | [], _ :: _, _, _, h, _ => h.elim
  | _ :: _, [], _, _, h, _ => h.elim
theorem Sls.data {σ : L2.St} {Γ : List Sl} {i : Nat} {d : PyData} (h : Sls K H σ Γ) (e : Γ[i]? = some (.d d)) : ∃ v, σ[i]? = some (some v) ∧ Dt K H v d := by
  obtain ⟨s, hs, k⟩ := h.at_ e
  cases s with
  | none => exact k.elim
  | some v => exact ⟨v, hs, k⟩
theorem Sls.val {σ : L2.St} {Γ : List Sl} {i : Nat} {v : V} (h : Sls K H σ Γ) (e : Γ[i]? = some (.v v)) : σ[i]? = some (some v) := by
  obtain ⟨s, hs, k⟩ := h.at_ e
  cases s with
  | none => exact k.elim
  | some u =>
    obtain rfl : u = v := k
    exact hs
/-- the slots forgotten -/
def wipeG (Γ : List Sl) : List Nat → List Sl
  | [] => Γ
  | v :: vs => (wipeG Γ vs).set v .o
theorem Sls.wipe {σ : L2.St} {Γ : List Sl} (h : Sls K H σ Γ) : ∀ vs : List Nat, Sls K H (wipe σ vs) (wipeG Γ vs)
  | [] => h
  | v :: vs => Sls.set (s := none) (g := .o) True.intro v (Sls.wipe h vs)
/-- a slot forgotten in what is told -/
theorem Sls.forget {σ : L2.St} {Γ : List Sl} (i : Nat) (h : Sls K H σ Γ) : Sls K H σ (Γ.set i .o) := by
  induction σ generalizing Γ i with
  | nil =>
    cases Γ with
    | nil => exact True.intro
    | cons _ _ => exact h.elim
  | cons s σ ih =>
    cases Γ with
    | nil => exact h.elim
    | cons g Γ =>
      cases i with
      | zero => exact ⟨True.intro, h.2⟩
      | succ i => exact ⟨h.1, ih i h.2⟩
def startG (n : Nat) (ds : List PyData) : List Sl := ds.map Sl.d ++ List.replicate (n - ds.length) .o
theorem env_none : ∀ n : Nat, Sls K H (List.replicate n none) (List.replicate n .o)
  | 0 => True.intro
  | n + 1 => ⟨True.intro, env_none n⟩
theorem env_some {m : Nat} : ∀ {vs : List V} {ds : List PyData}, DtAll K H vs ds → Sls K H (vs.map some ++ List.replicate m none) (ds.map Sl.d ++ List.replicate m .o)
  | _, [], h => by
    cases h
    exact env_none m
  | _, d :: ds, h => by
    cases h with
    | cons h1 h2 => exact ⟨h1, env_some h2⟩
theorem env_start {N : List Str} {vs : List V} {ds : List PyData} (h : DtAll K H vs ds) : Sls K H (L2.start N vs) (startG N.length ds) := by
  unfold L2.start startG
  rw [h.length]
  exact env_some h
end
/-! ### the objects of a def's own: lists and dicts of data -/
abbrev DV (K : PySem.W.Frag) (H : Hp) : List (Key × V) → List (Key × PyData) → Prop := Paired fun p q => p.1 = q.1 ∧ Dt K H p.2 q.2
theorem DV.im {K : PySem.W.Frag} {H H' : Hp} (e : Im H H') {ks : List (Key × V)} {l : List (Key × PyData)} (h : DV K H ks l) : DV K H' ks l := by
  induction h with
  | nil => exact .nil
  | cons h1 _ ih => exact .cons ⟨h1.1, Dt.im e _ _ h1.2⟩ ih
inductive Ob where
  | lst (ds : List PyData) | dk (l : List (Key × PyData)) | raw (xs : List V)
def ObOk (K : PySem.W.Frag) (H0 H : Hp) (p : Addr) : Ob → Prop
  | .lst ds => H0 p = none ∧ ∃ xs, H p = some (.lst xs) ∧ DtAll K H xs ds
  | .dk l => H0 p = none ∧ ∃ ks, H p = some (.dK ks) ∧ DV K H ks l
  | .raw xs => H0 p = none ∧ H p = some (.lst xs)
theorem ObOk.none {K : PySem.W.Frag} {H0 H : Hp} {p : Addr} : ∀ {o : Ob}, ObOk K H0 H p o → H0 p = none
  | .lst _, h => h.1
  | .dk _, h => h.1
  | .raw _, h => h.1
theorem ObOk.mut {K : PySem.W.Frag} {H0 H : Hp} {p : Addr} : ∀ {o : Ob}, ObOk K H0 H p o → ∃ u, H p = some u ∧ Lk u
  | .lst _, ⟨_, _, h, _⟩ => ⟨_, h, True.intro⟩
  | .dk _, ⟨_, _, h, _⟩ => ⟨_, h, True.intro⟩
  | .raw _, ⟨_, h⟩ => ⟨_, h, True.intro⟩
theorem ObOk.move {K : PySem.W.Frag} {H0 H H' : Hp} {p : Addr} (e : Im H H') (hp : H' p = H p) : ∀ {o : Ob}, ObOk K H0 H p o → ObOk K H0 H' p o
  | .lst _, ⟨h0, xs, h, hd⟩ => ⟨h0, xs, hp.trans h, DtAll.im e _ _ hd⟩
  | .dk _, ⟨h0, ks, h, hd⟩ => ⟨h0, ks, hp.trans h, DV.im e hd⟩
  | .raw _, ⟨h0, h⟩ => ⟨h0, hp.trans h⟩
theorem ObOk.same {K : PySem.W.Frag} {H0 H H' : Hp} {p : Addr} (e : Same H H') {o : Ob} (h : ObOk K H0 H p o) : ObOk K H0 H' p o := by
  obtain ⟨u, hu, _⟩ := h.mut
  exact h.move (im_same e) ((e _ _ hu).trans hu.symm)
structure Own (K : PySem.W.Frag) (H0 : Hp) (Θ : List (Addr × Ob)) (H : Hp) : Prop where
  nd : (Θ.map (·.1)).Nodup
  ok : ∀ e ∈ Θ, ObOk K H0 H e.1 e.2
theorem Own.same {K : PySem.W.Frag} {H0 H H' : Hp} {Θ : List (Addr × Ob)} (w : Own K H0 Θ H) (e : Same H H') : Own K H0 Θ H' := ⟨w.nd, fun x h => (w.ok x h).same e⟩
theorem Own.nil {K : PySem.W.Frag} {H0 H : Hp} : Own K H0 [] H := ⟨List.nodup_nil, fun _ h => nomatch h⟩
theorem Own.at_ {K : PySem.W.Frag} {H0 H : Hp} {Θ : List (Addr × Ob)} {k : Nat} {p : Addr} {o : Ob} (w : Own K H0 Θ H) (h : Θ[k]? = some (p, o)) : ObOk K H0 H p o := w.ok _ (List.mem_of_getElem? h)
theorem Own.add {K : PySem.W.Frag} {H0 H H' : Hp} {Θ : List (Addr × Ob)} {p : Addr} {o : Ob} (w : Own K H0 Θ H) (e : Same H H') (hp : H p = none) (h : ObOk K H0 H' p o) : Own K H0 ((p, o) :: Θ) H' :=
  ⟨List.nodup_cons.mpr ⟨fun m => by
    obtain ⟨x, hx, rfl⟩ := List.mem_map.mp m
    obtain ⟨u, hu, _⟩ := (w.ok x hx).mut
    rw [hu] at hp
    exact (nomatch hp), w.nd⟩, fun x hx => by
    rcases List.mem_cons.mp hx with rfl | hx
    · exact h
    · exact (w.ok x hx).same e⟩
theorem nd_set {Θ : List (Addr × Ob)} {k : Nat} {p : Addr} {o o' : Ob} (h : Θ[k]? = some (p, o)) : (Θ.set k (p, o')).map (·.1) = Θ.map (·.1) := by
  rw [List.map_set]
  apply List.ext_getElem?
  intro i
  rw [List.getElem?_set]
  split
  · next e =>
    subst e
    have hl := (List.getElem?_eq_some_iff.mp h).1
    rw [List.length_map, if_pos hl, List.getElem?_map, h]
    rfl
  · rfl
theorem set_mem {α : Type} {l : List α} {k : Nat} {y : α} : ∀ {x : α}, x ∈ l.set k y → x = y ∨ ∃ j, j ≠ k ∧ l[j]? = some x := fun {x} h => by
  obtain ⟨j, hj⟩ := List.getElem?_of_mem h
  rw [List.getElem?_set] at hj
  split at hj
  · split at hj
    · exact .inl (Option.some.inj hj).symm
    · cases hj
  · next ne => exact .inr ⟨j, fun z => ne z.symm, hj⟩
theorem Own.put {K : PySem.W.Frag} {H0 H : Hp} {Θ : List (Addr × Ob)} {k : Nat} {p : Addr} {o o' : Ob} {u : HO} (w : Own K H0 Θ H) (h : Θ[k]? = some (p, o)) (ho : ObOk K H0 (upd H p u) p o') : Own K H0 (Θ.set k (p, o')) (upd H p u) :=
  ⟨by rw [nd_set h]; exact w.nd, fun x hx => by
    obtain ⟨ou, hu, hm⟩ := (w.at_ h).mut
    rcases set_mem hx with rfl | ⟨j, hj, hx⟩
    · exact ho
    · refine (w.at_ (k := j) hx).move (im_upd fun o e => ?_) (upd_ne fun e => ?_)
      · rw [hu] at e
        cases e
        exact hm
      · have n := w.nd
        have h1 : (Θ.map (·.1))[j]? = some x.1 := by rw [List.getElem?_map, hx]; rfl
        have h2 : (Θ.map (·.1))[k]? = some p := by rw [List.getElem?_map, h]; rfl
        rw [← e] at h2
        have hl := (List.getElem?_eq_some_iff.mp h1).1
        exact hj ((List.getElem?_inj hl n).mp (h1.trans h2.symm))⟩
/-- the heap at the start; facts that mutations of own objects keep -/
structure Base where
  H0 : Hp
  Φ : Hp → Prop
  st : ∀ H H', Im H H' → Φ H → Φ H'
def Base.of (H : Hp) : Base := ⟨H, fun _ => True, fun _ _ _ _ => True.intro⟩
def Base.and (B : Base) (G : Hp → Prop) (st : ∀ H H', Im H H' → G H → G H') : Base := ⟨B.H0, fun H => B.Φ H ∧ G H, fun H H' e h => ⟨B.st H H' e h.1, st H H' e h.2⟩⟩
/-- where one stands: all that was tracked at H0 is kept; the slots as Γ tells; the own objects as Θ tells -/
structure At (K : PySem.W.Frag) (B : Base) (Γ : List Sl) (Θ : List (Addr × Ob)) (σ : L2.St) (H : Hp) : Prop where
  sm : Same B.H0 H
  env : Sls K H σ Γ
  own : Own K B.H0 Θ H
  gh : B.Φ H
theorem At.up {K : PySem.W.Frag} {B : Base} {H H' : Hp} {Γ : List Sl} {Θ : List (Addr × Ob)} {σ : L2.St} (a : At K B Γ Θ σ H) (e : Same H H') : At K B Γ Θ σ H' := ⟨a.sm.trans e, a.env.im (im_same e), a.own.same e, B.st _ _ (im_same e) a.gh⟩
/-- a step: new slots -/
theorem At.step {K : PySem.W.Frag} {B : Base} {H H' : Hp} {Γ Γ' : List Sl} {Θ : List (Addr × Ob)} {σ σ' : L2.St} (a : At K B Γ Θ σ H) (e : Same H H') (h : Sls K H' σ' Γ') : At K B Γ' Θ σ' H' := ⟨a.sm.trans e, h, a.own.same e, B.st _ _ (im_same e) a.gh⟩
theorem At.setD {K : PySem.W.Frag} {B : Base} {H : Hp} {Γ : List Sl} {Θ : List (Addr × Ob)} {σ : L2.St} {v : V} {d : PyData} {i : Nat} (a : At K B Γ Θ σ H) (h : Dt K H v d) : At K B (Γ.set i (.d d)) Θ (σ.set i (some v)) H := ⟨a.sm, Sls.set (g := .d d) (s := some v) h i a.env, a.own, a.gh⟩
theorem At.setV {K : PySem.W.Frag} {B : Base} {H : Hp} {Γ : List Sl} {Θ : List (Addr × Ob)} {σ : L2.St} {v : V} {i : Nat} (a : At K B Γ Θ σ H) : At K B (Γ.set i (.v v)) Θ (σ.set i (some v)) H := ⟨a.sm, Sls.set (g := .v v) (s := some v) rfl i a.env, a.own, a.gh⟩
/-- an own object is changed -/
theorem At.put {K : PySem.W.Frag} {B : Base} {H : Hp} {Γ : List Sl} {Θ : List (Addr × Ob)} {σ : L2.St} {p : Addr} {u : HO} {k : Nat} {o o' : Ob} (a : At K B Γ Θ σ H) (h : Θ[k]? = some (p, o)) (ho : ObOk K B.H0 (upd H p u) p o') : At K B Γ (Θ.set k (p, o')) σ (upd H p u) :=
  have im : Im H (upd H p u) := im_upd fun o e => by
    obtain ⟨ou, hu, hm⟩ := (a.own.at_ h).mut
    rw [hu] at e
    cases e
    exact hm
  ⟨sm_mut a.sm (a.own.at_ h).none, a.env.im im, a.own.put h ho, B.st _ _ im a.gh⟩
/-- a new own object -/
theorem At.add {K : PySem.W.Frag} {B : Base} {H H' : Hp} {Γ : List Sl} {Θ : List (Addr × Ob)} {σ : L2.St} {p : Addr} {o : Ob} (a : At K B Γ Θ σ H) (e : Same H H') (hp : H p = none) (h : ObOk K B.H0 H' p o) : At K B Γ ((p, o) :: Θ) σ H' := ⟨a.sm.trans e, a.env.im (im_same e), a.own.add e hp h, B.st _ _ (im_same e) a.gh⟩
theorem At.start {K : PySem.W.Frag} {H : Hp} {N : List Str} {vs : List V} {ds : List PyData} (h : DtAll K H vs ds) : At K (.of H) (startG N.length ds) [] (L2.start N vs) H := ⟨Same.refl _, env_start h, .nil, True.intro⟩
/-- less told -/
inductive Weak : List Sl → List Sl → Prop
  | nil : Weak [] []
  | keep {g : Sl} {Γ Γ' : List Sl} : Weak Γ Γ' → Weak (g :: Γ) (g :: Γ')
  | drop {g : Sl} {Γ Γ' : List Sl} : Weak Γ Γ' → Weak (g :: Γ) (.o :: Γ')
theorem Weak.sls {K : PySem.W.Frag} {H : Hp} {Γ Γ' : List Sl} (w : Weak Γ Γ') : ∀ {σ : L2.St}, Sls K H σ Γ → Sls K H σ Γ' := by
  induction w with
  | nil => exact fun h => h
  | keep _ ih =>
    intro σ h
    cases σ with
    | nil => exact h.elim
    | cons s σ => exact ⟨h.1, ih h.2⟩
  | drop _ ih =>
    intro σ h
    cases σ with
    | nil => exact h.elim
    | cons s σ => exact ⟨True.intro, ih h.2⟩
theorem At.weak {K : PySem.W.Frag} {B : Base} {H : Hp} {Γ Γ' : List Sl} {Θ : List (Addr × Ob)} {σ : L2.St} (a : At K B Γ Θ σ H) (w : Weak Γ Γ') : At K B Γ' Θ σ H := ⟨a.sm, w.sls a.env, a.own, a.gh⟩
/-- a fact more, that mutations of own objects keep -/
theorem At.fact {K : PySem.W.Frag} {B : Base} {H : Hp} {Γ : List Sl} {Θ : List (Addr × Ob)} {σ : L2.St} {G : Hp → Prop} (st : ∀ H H', Im H H' → G H → G H') (a : At K B Γ Θ σ H) (g : G H) : At K (B.and G st) Γ Θ σ H := ⟨a.sm, a.env, a.own, a.gh, g⟩
theorem At.less {K : PySem.W.Frag} {B : Base} {H : Hp} {Γ : List Sl} {Θ : List (Addr × Ob)} {σ : L2.St} {G : Hp → Prop} {st : ∀ H H', Im H H' → G H → G H'} (a : At K (B.and G st) Γ Θ σ H) : At K B Γ Θ σ H := ⟨a.sm, a.env, a.own, a.gh.1⟩

/-! ### what evaluates to what -/
def EvD (K : PySem.W.Frag) (te : TE) (σ : L2.St) (H : Hp) (d : PyData) : Prop := ∀ H1, Same H H1 → ∀ Q : VK, (∀ v H2, Same H1 H2 → Dt K H2 v d → Q v H2) → te σ H1 Q
/-- a new list of data -/
def EvL (K : PySem.W.Frag) (te : TE) (σ : L2.St) (H : Hp) (ds : List PyData) : Prop := ∀ H1, Same H H1 → ∀ Q : VK, (∀ p xs H2, H1 p = none → Same H1 H2 → H2 p = some (.lst xs) → DtAll K H2 xs ds → Q (.ref p) H2) → te σ H1 Q
def EvT (K : PySem.W.Frag) (tt : TT) (σ : L2.St) (H : Hp) (b : Bool) : Prop := ∀ H1, Same H H1 → ∀ Q : Bool → Hp → Prop, (∀ H2, Same H1 H2 → Q b H2) → tt σ H1 Q
def EvA (K : PySem.W.Frag) (ta : TA) (σ : L2.St) (H : Hp) (ds : List PyData) : Prop := ∀ H1, Same H H1 → ∀ Q : List V → Hp → Prop, (∀ vs H2, Same H1 H2 → DtAll K H2 vs ds → Q vs H2) → ta σ H1 Q
/-- an address that is told from outside, a list there -/
def EvV (te : TE) (σ : L2.St) (H : Hp) (v : V) : Prop := ∀ H1, Same H H1 → ∀ Q : VK, (∀ H2, Same H1 H2 → Q v H2) → te σ H1 Q
/-- an operation by values -/
def OvD (K : PySem.W.Frag) (r : R2) (x y d : PyData) : Prop := ∀ (v u : V) (H : Hp) (Q : VK), Dt K H v x → Dt K H u y → (∀ z H2, Same H H2 → Dt K H2 z d → Q z H2) → r v u H Q
section
variable {K : PySem.W.Frag} {σ : L2.St} {H H' : Hp} {ta tb te : TE} {t u : TT} {x y z : V} {d dx dy : PyData} {r : R2}
theorem EvD.mono (e : Same H H') (h : EvD K te σ H d) : EvD K te σ H' d := fun H1 a Q q => h H1 (e.trans a) Q q
theorem EvL.mono {ds : List PyData} (e : Same H H') (h : EvL K te σ H ds) : EvL K te σ H' ds := fun H1 a Q q => h H1 (e.trans a) Q q
theorem EvT.mono {b : Bool} (e : Same H H') (h : EvT K t σ H b) : EvT K t σ H' b := fun H1 a Q q => h H1 (e.trans a) Q q
theorem EvD.is {d' : PyData} (h : EvD K te σ H d) (e : d = d') : EvD K te σ H d' := e ▸ h
theorem evd_var {B : Base} {Γ : List Sl} {Θ : List (Addr × Ob)} {i : Nat} (a : At K B Γ Θ σ H) (h : Γ[i]? = some (.d d)) : EvD K (tVar i) σ H d := fun H1 e Q q => by
  obtain ⟨v, hs, hd⟩ := a.env.data h
  exact ⟨v, hs, q v H1 (Same.refl H1) (hd.mono e)⟩
theorem EvL.is {ds ds' : List PyData} (h : EvL K te σ H ds) (e : ds = ds') : EvL K te σ H ds' := e ▸ h
theorem evd_i {n : Int} : EvD K (tC (.int n)) σ H (.int n) := fun H1 e Q q => q _ H1 (Same.refl H1) (.int n)
theorem evd_s {n : Str} : EvD K (tC (.str n)) σ H (.str n) := fun H1 e Q q => q _ H1 (Same.refl H1) (.str n)
theorem evd_b {n : Bool} : EvD K (tC (.bl n)) σ H (.bool n) := fun H1 e Q q => q _ H1 (Same.refl H1) (.bl n)
theorem evd_n : EvD K (tC .non) σ H .none := fun H1 e Q q => q _ H1 (Same.refl H1) .non
theorem evd_c {v : V} (hd : ∀ H, Dt K H v d) : EvD K (tC v) σ H d := fun H1 e Q q => q v H1 (Same.refl H1) (hd H1)
theorem evd_op (ha : EvD K ta σ H dx) (hb : EvD K tb σ H dy) (hr : OvD K r dx dy d) : EvD K (tOp r ta tb) σ H d := fun H1 e Q q =>
  ha H1 e _ fun v H2 e2 h2 => hb H2 (e.trans e2) _ fun u H3 e3 h3 => hr v u H3 Q (h2.mono e3) h3 fun z H4 e4 h4 => q z H4 ((e2.trans e3).trans e4) h4
theorem eva_nil : EvA K tNil σ H [] := fun H1 _ _ q => q [] H1 (Same.refl H1) .nil
theorem eva_cons {tr : TA} {ds : List PyData} (h : EvD K ta σ H d) (hr : EvA K tr σ H ds) : EvA K (tCons ta tr) σ H (d :: ds) := fun H1 e _ q =>
  h H1 e _ fun v H2 e2 h2 => hr H2 (e.trans e2) _ fun vs H3 e3 h3 => q _ H3 (e2.trans e3) (.cons (h2.mono e3) h3)
theorem sz_of {n : Nat} (h : n ≤ 100000) : n ≤ sizeLine := Nat.le_trans h (by decide)
theorem sz_lt {n : Nat} (h : n < 100000) : n < sizeLine := Nat.lt_of_lt_of_le h (by decide)
theorem evd_tup {ta : TA} {ds : List PyData} (h : EvA K ta σ H ds) (hl : ds.length ≤ 100000 := by first | decide | (simp only [List.length_cons, List.length_nil]; omega)) : EvD K (tTup ta) σ H (.tuple ds) := fun H1 e _ q =>
  h H1 e _ fun vs H2 e2 h2 => ⟨by rw [h2.length]; exact sz_of hl, fun p hp => q _ _ (e2.trans (sm_new hp)) (.tup (SqT.of upd_same) (h2.mono (sm_new hp)))⟩
theorem evl_lst {ta : TA} {ds : List PyData} (h : EvA K ta σ H ds) (hl : ds.length ≤ 100000 := by first | decide | (simp only [List.length_cons, List.length_nil]; omega)) : EvL K (tLst ta) σ H ds := fun H1 e _ q =>
  h H1 e _ fun vs H2 e2 h2 => ⟨by rw [h2.length]; exact sz_of hl, fun p hp => q p vs _ (e2.free hp) (e2.trans (sm_new hp)) upd_same (h2.mono (sm_new hp))⟩
/-! #### operators -/
theorem ov_I0 {g : Int → Int → V} {i j : Int} (hd : ∀ H, Dt K H (g i j) d) : OvD K (rI0 g) (.int i) (.int j) d := fun v u H Q hv hu q => by
  cases hv
  cases hu
  exact ⟨i, j, rfl, rfl, q _ H (Same.refl H) (hd H)⟩
theorem ov_I {C : Int → Int → Prop} {g : Int → Int → V} {i j : Int} (hc : C i j) (hd : ∀ H, Dt K H (g i j) d) : OvD K (rI C g) (.int i) (.int j) d := fun v u H Q hv hu q => by
  cases hv
  cases hu
  exact ⟨i, j, rfl, rfl, hc, q _ H (Same.refl H) (hd H)⟩
theorem ov_eqS {a b : Str} : OvD K rEq (.str a) (.str b) (.bool (decide (a = b))) := fun v u H Q hv hu q => by
  cases hv
  cases hu
  refine ⟨rfl, q _ H (Same.refl H) ?_⟩
  have e : decide (V.str a = V.str b) = decide (a = b) := by simp
  rw [e]
  exact .bl _
theorem ov_neS {a b : Str} : OvD K rNe (.str a) (.str b) (.bool (!decide (a = b))) := fun v u H Q hv hu q => by
  cases hv
  cases hu
  refine ⟨rfl, q _ H (Same.refl H) ?_⟩
  have e : decide (V.str a = V.str b) = decide (a = b) := by simp
  rw [e]
  exact .bl _
theorem ov_eqI {a b : Int} : OvD K rEq (.int a) (.int b) (.bool (decide (a = b))) := fun v u H Q hv hu q => by
  cases hv
  cases hu
  refine ⟨rfl, q _ H (Same.refl H) ?_⟩
  have e : decide (V.int a = V.int b) = decide (a = b) := by simp
  rw [e]
  exact .bl _
theorem ov_neI {a b : Int} : OvD K rNe (.int a) (.int b) (.bool (!decide (a = b))) := fun v u H Q hv hu q => by
  cases hv
  cases hu
  refine ⟨rfl, q _ H (Same.refl H) ?_⟩
  have e : decide (V.int a = V.int b) = decide (a = b) := by simp
  rw [e]
  exact .bl _
theorem ov_neB {a b : Bool} : OvD K rNe (.bool a) (.bool b) (.bool (!decide (a = b))) := fun v u H Q hv hu q => by
  cases hv
  cases hu
  refine ⟨rfl, q _ H (Same.refl H) ?_⟩
  have e : decide (V.bl a = V.bl b) = decide (a = b) := by simp
  rw [e]
  exact .bl _
theorem ov_eqD (h1 : SeqAt.shaped dx = true) (h2 : SeqAt.shaped dy = true) : OvD K (rEqD K) dx dy (.bool (PyData.eqv dx dy)) := fun v u H Q hv hu q =>
  ⟨dx, dy, hv.dp dx v, hu.dp dy u, h1, h2, q _ H (Same.refl H) (.bl _)⟩
theorem ov_neD (h1 : SeqAt.shaped dx = true) (h2 : SeqAt.shaped dy = true) : OvD K (rNeD K) dx dy (.bool (!PyData.eqv dx dy)) := fun v u H Q hv hu q =>
  ⟨dx, dy, hv.dp dx v, hu.dp dy u, h1, h2, q _ H (Same.refl H) (.bl _)⟩
theorem ov_ixT {ds : List PyData} {i : Int} {j : Nat} (e : i = (j : Int)) (h : ds[j]? = some d) : OvD K (rIxT K) (.tuple ds) (.int i) d := fun v u H Q hv hu q => by
  obtain ⟨a, xs, rfl, hs, ha⟩ := hv.tup_inv
  cases hu
  obtain ⟨w, hw, hd⟩ := ha.get h
  exact ⟨a, xs, i, w, rfl, rfl, hs, by rw [e]; exact atI_nat hw, q _ H (Same.refl H) hd⟩
theorem ov_catA {ds es : List PyData} (hl : ds.length + es.length ≤ 100000) : OvD K (rCatA K) (.tuple ds) (.tuple es) (.tuple (ds ++ es)) := fun v u H Q hv hu q => by
  obtain ⟨a, xs, rfl, hs, ha⟩ := hv.tup_inv
  obtain ⟨b, ys, rfl, ht, hb⟩ := hu.tup_inv
  refine ⟨a, b, xs, ys, rfl, rfl, hs, ht, by rw [ha.length, hb.length]; exact sz_of hl, fun e => ?_, fun e1 e2 => ?_, fun e1 e2 p hp => ?_⟩
  · subst e
    cases ha
    exact q _ H (Same.refl H) (.tup ht hb)
  · subst e2
    cases hb
    rw [List.append_nil] at q
    exact q _ H (Same.refl H) (.tup hs ha)
  · exact q _ _ (sm_new hp) (.tup (SqT.of upd_same) ((ha.append hb).mono (sm_new hp)))
/-! #### tests -/
theorem evt_test {b : Bool} (h : EvD K te σ H (.bool b)) : EvT K (tTest te) σ H b := fun H1 e _ q => h H1 e _ fun v H2 e2 hv => ⟨b, hv.bl_inv, q H2 e2⟩
theorem evt_B {b : Bool} (h : EvD K te σ H (.bool b)) : EvT K (tB te) σ H b := fun H1 e _ q => h H1 e _ fun v H2 e2 hv => ⟨b, hv.bl_inv, q H2 e2⟩
theorem evt_and {a b : Bool} (h1 : EvT K t σ H a) (h2 : a = true → EvT K u σ H b) : EvT K (tAnd t u) σ H (a && b) := fun H1 e Q q => h1 H1 e _ fun H2 e2 => by
  cases a with
  | true =>
    show u σ H2 Q
    exact h2 rfl H2 (e.trans e2) Q fun H3 e3 => q H3 (e2.trans e3)
  | false =>
    show Q false H2
    exact q H2 e2
theorem evt_or {a b : Bool} (h1 : EvT K t σ H a) (h2 : a = false → EvT K u σ H b) : EvT K (tOr t u) σ H (a || b) := fun H1 e Q q => h1 H1 e _ fun H2 e2 => by
  cases a with
  | true =>
    show Q true H2
    exact q H2 e2
  | false =>
    show u σ H2 Q
    exact h2 rfl H2 (e.trans e2) Q fun H3 e3 => q H3 (e2.trans e3)
theorem evt_not {a : Bool} (h1 : EvT K t σ H a) : EvT K (tNot t) σ H (!a) := fun H1 e _ q => h1 H1 e _ fun H2 e2 => q H2 e2
theorem EvT.is {a b : Bool} (h : EvT K t σ H a) (e : a = b) : EvT K t σ H b := e ▸ h
theorem evd_and {a b : Bool} (h1 : EvD K ta σ H (.bool a)) (h2 : a = true → EvD K tb σ H (.bool b)) : EvD K (tAndV ta tb) σ H (.bool (a && b)) := fun H1 e Q q => h1 H1 e _ fun v H2 e2 hv => ⟨a, hv.bl_inv, by
  cases a with
  | true =>
    show tb σ H2 Q
    exact h2 rfl H2 (e.trans e2) Q fun v H3 e3 h3 => q v H3 (e2.trans e3) h3
  | false =>
    show Q (.bl false) H2
    exact q _ H2 e2 (.bl _)⟩
theorem evd_or {a b : Bool} (h1 : EvD K ta σ H (.bool a)) (h2 : a = false → EvD K tb σ H (.bool b)) : EvD K (tOrV ta tb) σ H (.bool (a || b)) := fun H1 e Q q => h1 H1 e _ fun v H2 e2 hv => ⟨a, hv.bl_inv, by
  cases a with
  | true =>
    show Q (.bl true) H2
    exact q _ H2 e2 (.bl _)
  | false =>
    show tb σ H2 Q
    exact h2 rfl H2 (e.trans e2) Q fun v H3 e3 h3 => q v H3 (e2.trans e3) h3⟩
theorem evd_not {a : Bool} (h1 : EvD K ta σ H (.bool a)) : EvD K (tNotV ta) σ H (.bool (!a)) := fun H1 e _ q => h1 H1 e _ fun v H2 e2 hv => ⟨a, hv.bl_inv, q _ H2 e2 (.bl _)⟩
theorem evd_if {b : Bool} (h : EvT K t σ H b) (h1 : b = true → EvD K ta σ H d) (h2 : b = false → EvD K tb σ H d) : EvD K (tIf t ta tb) σ H d := fun H1 e Q q => h H1 e _ fun H2 e2 => by
  cases b with
  | true =>
    show ta σ H2 Q
    exact h1 rfl H2 (e.trans e2) Q fun v H3 e3 h3 => q v H3 (e2.trans e3) h3
  | false =>
    show tb σ H2 Q
    exact h2 rfl H2 (e.trans e2) Q fun v H3 e3 h3 => q v H3 (e2.trans e3) h3
/-! #### statements -/
variable {D : Ends} {tu tw tz : TS} {B : Base} {Γ : List Sl} {Θ : List (Addr × Ob)}
theorem s_ret (a : At K B Γ Θ σ H) (h : EvD K te σ H d) (k : ∀ v H', Same B.H0 H' → Dt K H' v d → D.rt v H') : tRet te D σ H := h H (Same.refl H) _ fun v H1 e hv => k v H1 (a.sm.trans e) hv
theorem f_ret {Q : VK} {nx bk ct : L2.St → Hp → Prop} (a : At K B Γ Θ σ H) (h : EvD K te σ H d) (k : ∀ v H', Same B.H0 H' → Dt K H' v d → Q v H') : tRet te ⟨nx, Q, bk, ct⟩ σ H := s_ret a h k
theorem s_asg {i : Nat} (a : At K B Γ Θ σ H) (h : EvD K te σ H d) (k : ∀ σ' H', At K B (Γ.set i (.d d)) Θ σ' H' → D.nx σ' H') : tAsg te (gName i) D σ H := h H (Same.refl H) _ fun v H1 e hv => k _ H1 ((a.up e).setD hv)
theorem s_drop (a : At K B Γ Θ σ H) (h : EvD K te σ H d) (k : ∀ H', At K B Γ Θ σ H' → D.nx σ H') : tDrop te D σ H := h H (Same.refl H) _ fun _ H1 e _ => k H1 (a.up e)
theorem s_if {b : Bool} (a : At K B Γ Θ σ H) (h : EvT K t σ H b) (h1 : b = true → ∀ H', At K B Γ Θ σ H' → tu D σ H') (h2 : b = false → ∀ H', At K B Γ Θ σ H' → tw D σ H') : tIfS t tu tw D σ H := h H (Same.refl H) _ fun H1 e => by
  cases b with
  | true => exact h1 rfl H1 (a.up e)
  | false => exact h2 rfl H1 (a.up e)
theorem s_no (a : At K B Γ Θ σ H) (h : EvT K t σ H false) (k : ∀ H', At K B Γ Θ σ H' → D.nx σ H') : tIfS t tu tNext D σ H := s_if a h (fun e => nomatch e) fun _ H1 e => k H1 e
theorem q_asg {i : Nat} (a : At K B Γ Θ σ H) (h : EvD K te σ H d) (k : ∀ σ' H', At K B (Γ.set i (.d d)) Θ σ' H' → tz D σ' H') : tSeq (tAsg te (gName i)) tz D σ H := s_asg (D := { D with nx := tz D }) a h k
theorem q_drop (a : At K B Γ Θ σ H) (h : EvD K te σ H d) (k : ∀ H', At K B Γ Θ σ H' → tz D σ H') : tSeq (tDrop te) tz D σ H := s_drop (D := { D with nx := tz D }) a h k
theorem q_if {b : Bool} (a : At K B Γ Θ σ H) (h : EvT K t σ H b) (h1 : b = true → ∀ H', At K B Γ Θ σ H' → tu { D with nx := tz D } σ H') (h2 : b = false → ∀ H', At K B Γ Θ σ H' → tw { D with nx := tz D } σ H') : tSeq (tIfS t tu tw) tz D σ H := s_if (D := { D with nx := tz D }) a h h1 h2
/-- an if whose test is false, without else -/
theorem q_no (a : At K B Γ Θ σ H) (h : EvT K t σ H false) (k : ∀ H', At K B Γ Θ σ H' → tz D σ H') : tSeq (tIfS t tu tNext) tz D σ H := s_no (D := { D with nx := tz D }) a h k
/-- an if without else -/
theorem q_when {b : Bool} (a : At K B Γ Θ σ H) (h : EvT K t σ H b) (h1 : b = true → ∀ H', At K B Γ Θ σ H' → tu { D with nx := tz D } σ H') (h2 : b = false → ∀ H', At K B Γ Θ σ H' → tz D σ H') : tSeq (tIfS t tu tNext) tz D σ H := q_if a h h1 h2
/-- a new list given to a name -/
theorem q_asgL {i : Nat} {ds : List PyData} (a : At K B Γ Θ σ H) (h : EvL K te σ H ds) (k : ∀ p σ' H', At K B (Γ.set i (.v (.ref p))) ((p, .lst ds) :: Θ) σ' H' → tz D σ' H') : tSeq (tAsg te (gName i)) tz D σ H :=
  h H (Same.refl H) _ fun p xs H1 hp e hl hd => k p _ H1 ((a.add (o := .lst ds) e hp ⟨a.sm.free hp, xs, hl, hd⟩).setV)
end

/-! ### defs as they are called -/
structure Df (P : Program) (w : World) (K : PySem.W.Frag) (mg : Str → Option Value) (base : Heap) (k : Nat) (x : Str) (sp : Sp) : Prop where
  ex : ∃ f, mg x = some (.ref f) ∧ PySem.W.keepIn K (.ref f) = true ∧ FnR P w K mg base CX0 k f sp
def tCallR (sp : Sp) (t : TA) : TE := fun σ H Q => t σ H fun vs H1 => sp vs H1 Q E0
theorem pe_d {X : Cx} {j k : Nat} {x : Str} {sp : Sp} {p pos : Pos} {e : Expr} {es : List Expr} {t : TA} (D : Df X.prog X.w X.K X.mg X.base k x sp) (hr : Room j X.A) (hk : k ≤ j) (hg : Gl X x)
    (ha : PA X (e :: es) t) (hdb : (x == ("__debug__" : Str)) = false := by decide) (he : starEach (e :: es) X.env = (false, eval e X.env) :: starEach es X.env := by rfl) (hpl : (backTo pos (starEach es X.env)).any (·.1) = false := by rfl) :
    PE X (.Call (.Name x p) (e :: es) [] pos) (tCallR sp t) := by
  obtain ⟨f, hm, hkp, F⟩ := D.ex
  refine ⟨fun pins s σ H Q I h => ?_⟩
  refine wpAny_Call_Name_kw (ld_glob I hg hm ?_ hdb)
  refine PySem.W.callWith_K (h₀ := X.base) I.ok.mod.kin hkp (thn (ha.run pos pins s σ H _ I h) fun us s1 ⟨vs, H1, I1, r, q⟩ => ⟨I1.kIn, ?_⟩) he hpl
  exact wpAny_call (run_fnR F (hr.mono hk) pass0 I1 r q)
/-- a def by its body -/
theorem df_of {P : Program} {w : World} {K : PySem.W.Frag} {mg : Str → Option Value} {base : Heap} {k : Nat} {x nm qual : Str} {st : Stmt} {f : Addr} {fd : FuncData} {N ps : List Str} {sp : Sp} (hm : mg x = some (.ref f))
    (F : FunD K nm qual (defArgs st) (defBody st) (defScope st) [] [] f fd) (S : FnScope N ps (defScope st))
    (hb : ∀ (kV doc pm : Value) (an : Option Addr) (cdv ct : Value) (us : List Value), us.length = ps.length → bindArgs (PySem.W.fnOf nm qual (defArgs st) (defBody st) (defScope st) .none kV doc pm an cdv ct) ⟨us, []⟩ = pure (ps.zip us))
    (len : ∀ vs H Q E, sp vs H Q E → vs.length = ps.length)
    (hbody : ∀ (cdv : Value) (A : Around) (outer : List Env) (s : Shared) (H : Hp) (vs : List V) (Q : VK) (E : XK), Room k (A.deeper (envOfC qual (defScope st) s.heap.objs.size f cdv)) → sp vs H Q E →
      ∃ t, PSs (cxOf CX0 P w K mg base N qual (defScope st) f cdv A outer s H E).nox (defBody st) t ∧ t { nx := fun _ H' => Q .non H', rt := Q } (L2.start N vs) H) : Df P w K mg base (k + 1) x sp := by
  refine ⟨f, hm, F.kp, ?_⟩
  have G : FnOk P w K mg base CX0 (k + 1) f fd ps sp := F.ok S len fun cdv A outer s H vs Q E hr h => by
    obtain ⟨t, a, b⟩ := hbody cdv A outer s H vs Q E hr h
    exact ⟨t, a.nox, b⟩
  have z := G.raw (F.bindsN hb) .nil
  exact z.imp fun vs H Q E h => by rw [List.append_nil]; exact h
end K15

/-! part D1 -/
set_option Elab.async false
set_option linter.all false
set_option maxRecDepth 100000
set_option maxHeartbeats 1000000
namespace K15
open PySem PySem.Spec PyProof.Rows L2 RZ

/-! ### what a for or a comprehension walks, told as data -/
structure Src (K : PySem.W.Frag) (wi : TI) (σ : L2.St) (H : Hp) (ds : List PyData) : Prop where
  run : ∀ H1, Same H H1 → ∀ R : It → Hp → Prop, (∀ J (G : Hp → Prop) (Y : Nat → Hp → V → Hp → Prop) H2, Same H1 H2 → Walk J ds.length G Y → (∀ H3, Same H2 H3 → G H3) →
    (∀ i x H3 H4, i < ds.length → Same H2 H3 → Y i H3 x H4 → Same H3 H4 ∧ ∃ d, ds[i]? = some d ∧ Dt K H4 x d) → R J H2) → wi σ H1 R
section
variable {K : PySem.W.Frag} {σ : L2.St} {H H' : Hp} {ta tb te tl : TE} {t u : TT} {x y z : V} {d dx dy : PyData} {ds es : List PyData} {wi : TI}
theorem Src.mono (e : Same H H') (S : Src K wi σ H ds) : Src K wi σ H' ds := ⟨fun H1 a => S.run H1 (e.trans a)⟩
theorem src_tup (h : EvD K tl σ H (.tuple ds)) : Src K (iTup K tl) σ H ds := ⟨fun H1 e R k => h H1 e _ fun v H2 e2 hv => by
  obtain ⟨a, xs, rfl, hs, ha⟩ := hv.tup_inv
  have W := walk_tup (K := K) (a := a) (xs := xs)
  rw [ha.length] at W
  refine ⟨a, rfl, ⟨xs, hs⟩, k _ _ _ H2 e2 W (fun H3 e3 => sm_t e3 hs) fun i x H3 H4 hi e3 y => ?_⟩
  obtain ⟨rfl, hx⟩ := y
  obtain ⟨d, hd, hv⟩ := ha.getV hx
  exact ⟨Same.refl _, d, hd, hv.mono e3⟩⟩
theorem src_list (h : EvL K tl σ H ds) : Src K (iList K tl) σ H ds := ⟨fun H1 e R k => h H1 e _ fun a xs H2 hp e2 hs ha => by
  have W := walk_list (K := K) (a := a) (xs := xs)
  rw [ha.length] at W
  refine ⟨a, rfl, ⟨xs, SqL.of hs⟩, k _ _ _ H2 e2 W (fun H3 e3 => SqL.of (e3 _ _ hs)) fun i x H3 H4 hi e3 y => ?_⟩
  obtain ⟨rfl, hx⟩ := y
  obtain ⟨d, hd, hv⟩ := ha.getV hx
  exact ⟨Same.refl _, d, hd, hv.mono e3⟩⟩
theorem src_lvar {B : Base} {Γ : List Sl} {Θ : List (Addr × Ob)} {i : Nat} {a : Addr} {xs : List V} (A : At K B Γ Θ σ H) (h : Γ[i]? = some (.v (.ref a))) (hs : SqL K H a xs) (ha : DtAll K H xs ds) : Src K (iList K (tVar i)) σ H ds := ⟨fun H1 e R k => by
  have W := walk_list (K := K) (a := a) (xs := xs)
  rw [ha.length] at W
  refine ⟨.ref a, A.env.val h, a, rfl, ⟨xs, Same.seq e hs⟩, k _ _ _ H1 (Same.refl _) W (fun H3 e3 => Same.seq (e.trans e3) hs) fun i x H3 H4 hi e3 y => ?_⟩
  obtain ⟨rfl, hx⟩ := y
  obtain ⟨d, hd, hv⟩ := ha.getV hx
  exact ⟨Same.refl _, d, hd, hv.mono (e.trans e3)⟩⟩
theorem src_str {z : Str} (h : EvD K te σ H (.str z)) : Src K (iStr te) σ H (z.cps.toList.map fun c => .str ⟨#[c]⟩) := ⟨fun H1 e R k => h H1 e _ fun v H2 e2 hv => by
  cases hv
  have W := walk_str (z := z)
  have e0 : (z.cps.toList.map fun c => PyData.str ⟨#[c]⟩).length = z.cps.size := by simp
  rw [← e0] at W
  refine ⟨z, rfl, k _ _ _ H2 e2 W (fun _ _ => True.intro) fun i x H3 H4 hi e3 y => ?_⟩
  obtain ⟨rfl, c, hc, rfl⟩ := y
  refine ⟨Same.refl _, .str ⟨#[c]⟩, ?_, .str _⟩
  rw [List.getElem?_map, Array.getElem?_toList, hc]
  rfl⟩
theorem src_rng {ta : TA} {n : Nat} (h : EvA K ta σ H [.int (n : Int)]) (hn : n ≤ 100000) : Src K (iRng1 ta) σ H ((List.range n).map fun (i : Nat) => .int (i : Int)) := ⟨fun H1 e R k => h H1 e _ fun vs H2 e2 hv => by
  obtain ⟨v, rfl, h1⟩ := hv.one
  cases h1
  have W := walk_range (lo := 0) (n := n)
  have e0 : ((List.range n).map fun (i : Nat) => PyData.int (i : Int)).length = n := by simp
  have W' : Walk (Itr 0 ((n : Int)).toNat) ((List.range n).map fun (i : Nat) => PyData.int (i : Int)).length (fun _ => True) (YFn fun i => .int (0 + (i : Int))) := by
    rw [e0, Int.toNat_natCast]
    exact W
  refine ⟨(n : Int), rfl, by omega, by omega, k _ _ _ H2 e2 W' (fun _ _ => True.intro) fun i x H3 H4 hi e3 y => ?_⟩
  obtain ⟨rfl, rfl⟩ := y
  rw [e0] at hi
  refine ⟨Same.refl _, .int (i : Int), by simp [hi], ?_⟩
  show Dt K H4 (V.int (0 + (i : Int))) (PyData.int (i : Int))
  rw [Int.zero_add]
  exact .int _⟩
theorem walk_zipT {a b : Addr} {xs ys : List V} {n : Nat} (hn : n = min xs.length ys.length) : Walk (ItzT K a b) n (fun H => SqT K H a xs ∧ SqT K H b ys) (YPair (fun i => xs[i]?) (fun i => ys[i]?)) := by
  subst hn
  refine ⟨fun i _ hi q => ?_, fun _ q => ⟨xs, ys, q.1, q.2, by omega⟩, fun i H v H' _ q y => ?_⟩
  · have h1 : i < xs.length := by omega
    have h2 : i < ys.length := by omega
    exact ⟨xs, ys, xs[i], ys[i], q.1, q.2, by simp [h1], by simp [h2]⟩
  · obtain ⟨T, x, z, h1, h2, h3, h4, h5⟩ := y
    exact ⟨T, x, z, h1, h2, h3, h4 xs q.1, h5 ys q.2⟩
theorem pair_yield {H3 H4 : Hp} {x : V} {fx fy : Nat → Option V} {i : Nat} {d e : PyData} (hd : ∀ v, fx i = some v → Dt K H3 v d) (he : ∀ v, fy i = some v → Dt K H3 v e) (y : YPair fx fy i H3 x H4) : Same H3 H4 ∧ Dt K H4 x (.tuple [d, e]) := by
  obtain ⟨T, v, w, rfl, hT, rfl, h1, h2⟩ := y
  exact ⟨sm_new hT, .tup (SqT.of upd_same) (.cons ((hd v h1).mono (sm_new hT)) (.cons ((he w h2).mono (sm_new hT)) .nil))⟩
theorem src_zipT {ta : TA} (h : EvA K ta σ H [.tuple ds, .tuple es]) : Src K (iZipA K ta) σ H ((ds.zip es).map fun p => .tuple [p.1, p.2]) := ⟨fun H1 e R k => h H1 e _ fun vs H2 e2 hv => by
  obtain ⟨v, w, rfl, h1, h2⟩ := hv.two
  obtain ⟨a, xs, rfl, hs, ha⟩ := h1.tup_inv
  obtain ⟨b, ys, rfl, ht, hb⟩ := h2.tup_inv
  have W := walk_zipT (K := K) (a := a) (b := b) (xs := xs) (ys := ys) (n := ((ds.zip es).map fun p => PyData.tuple [p.1, p.2]).length) (by rw [List.length_map, List.length_zip, ha.length, hb.length])
  refine ⟨a, b, xs, ys, rfl, .inr ⟨hs, ht, k _ _ _ H2 e2 W (fun H3 e3 => ⟨sm_t e3 hs, sm_t e3 ht⟩) fun i x H3 H4 hi e3 y => ?_⟩⟩
  rw [List.length_map, List.length_zip] at hi
  have i1 : i < ds.length := by omega
  have i2 : i < es.length := by omega
  have g1 : ds[i]? = some ds[i] := List.getElem?_eq_getElem i1
  have g2 : es[i]? = some es[i] := List.getElem?_eq_getElem i2
  obtain ⟨s, q⟩ := pair_yield (d := ds[i]) (e := es[i]) (fun v hv => by
    obtain ⟨d, hd, hv⟩ := ha.getV hv
    rw [g1] at hd
    cases hd
    exact hv.mono e3) (fun v hv => by
    obtain ⟨d, hd, hv⟩ := hb.getV hv
    rw [g2] at hd
    cases hd
    exact hv.mono e3) y
  refine ⟨s, _, ?_, q⟩
  rw [List.getElem?_map, List.getElem?_zip_eq_some (z := (ds[i], es[i])) |>.mpr ⟨g1, g2⟩]
  rfl⟩

/-! ### comprehensions -/
theorem set_wipe_comm {σ : L2.St} {j : Nat} {x : Option V} : ∀ {vs : List Nat}, j ∉ vs → wipe (σ.set j x) vs = (wipe σ vs).set j x
  | [], _ => rfl
  | v :: vs, h => by
    have h1 : v ≠ j := fun e => h (by rw [e]; exact List.mem_cons_self ..)
    have h2 : j ∉ vs := fun e => h (List.mem_cons_of_mem _ e)
    show (wipe (σ.set j x) vs).set v none = ((wipe σ vs).set v none).set j x
    rw [set_wipe_comm h2, List.set_comm _ _ h1.symm]
theorem wipe_set0 {σ : L2.St} {j : Nat} {x : Option V} : ∀ {vs : List Nat}, j ∈ vs → wipe (σ.set j x) vs = wipe σ vs
  | v :: vs, h => by
    show (wipe (σ.set j x) vs).set v none = (wipe σ vs).set v none
    by_cases hm : j ∈ vs
    · rw [wipe_set0 hm]
    · have e : j = v := (List.mem_cons.mp h).resolve_right hm
      subst e
      rw [set_wipe_comm hm, List.set_set]
theorem wipe_wipe {σ : L2.St} : ∀ {vs ws : List Nat}, (∀ v ∈ vs, v ∈ ws) → wipe (wipe σ vs) ws = wipe σ ws
  | [], _, _ => rfl
  | v :: vs, ws, h => by
    show wipe ((wipe σ vs).set v none) ws = wipe σ ws
    rw [wipe_set0 (h v (List.mem_cons_self ..)), wipe_wipe fun u hu => h u (List.mem_cons_of_mem _ hu)]
theorem wipe_set {σ : L2.St} {j : Nat} {vs : List Nat} (h : j ∈ vs) (x : Option V) : wipe ((wipe σ vs).set j x) vs = wipe σ vs := by
  rw [wipe_set0 h, wipe_wipe fun _ hv => hv]
theorem evl_lc {α : Type} {l : List α} {en : α → PyData} {g : TG} {vs : List Nat} (F : α → PyData) (S : Src K wi σ H (l.map en)) (hz : l.length ≤ 100000)
    (he : ∀ a v H1, a ∈ l → Same H H1 → Dt K H1 v (en a) → ∀ R : L2.St → Hp → Prop, (∀ σ2, wipe σ2 vs = wipe σ vs → EvD K te σ2 H1 (F a) → R σ2 H1) → g v (wipe σ vs) H1 R) : EvL K (tLc wi g tYes te vs) σ H (l.map F) := fun H0 e0 Q q =>
  S.run H0 e0 _ fun J G Y H2 e2 W hG hY D hD => lc_it W (fun i H' => Same H2 H' ∧ ∃ acc, H' D = some (.lst acc) ∧ DtAll K H' acc ((l.map F).take i)) ⟨sm_new hD, [], upd_same, .nil⟩ (fun i H' _ p => hG H' p.1)
    (fun i x H3 H4 hi p y => by
      obtain ⟨s3, acc, ha, hd⟩ := p
      obtain ⟨s4, d, hdi, hx⟩ := hY i x H3 H4 hi s3 y
      rw [List.length_map] at hi
      obtain ⟨a, hai, rfl⟩ : ∃ a, l[i]? = some a ∧ en a = d := by
        rw [List.getElem?_map, List.getElem?_eq_getElem hi] at hdi
        exact ⟨l[i], List.getElem?_eq_getElem hi, Option.some.inj hdi⟩
      refine he a x H4 (List.mem_of_getElem? hai) (((e0.trans e2).trans s3).trans s4) hx _ fun σ2 hw ev => ⟨hw, ?_⟩
      show te σ2 H4 fun y H5 => ∃ acc, H5 D = some (.lst acc) ∧ acc.length < sizeLine ∧ (Same H2 (upd H5 D (.lst (acc ++ [y]))) ∧ ∃ acc', (upd H5 D (.lst (acc ++ [y]))) D = some (.lst acc') ∧ DtAll K (upd H5 D (.lst (acc ++ [y]))) acc' ((l.map F).take (i + 1)))
      refine ev H4 (Same.refl _) _ fun v H5 s5 hv => ⟨acc, s5 _ _ (s4 _ _ ha), ?_, sm_mut ((s3.trans s4).trans s5) hD, acc ++ [v], upd_same, ?_⟩
      · rw [hd.length, List.length_take, List.length_map]
        exact sz_lt (by omega)
      · have im : Im H5 (upd H5 D (.lst (acc ++ [v]))) := im_lst (s5 _ _ (s4 _ _ ha))
        have et : (l.map F).take (i + 1) = (l.map F).take i ++ [F a] := by
          rw [List.take_add_one, List.getElem?_map, hai]
          rfl
        rw [et]
        exact DtAll.im im _ _ (((hd.mono s4).mono s5).snoc hv))
    (fun H3 p => by
      obtain ⟨s3, acc, ha, hd⟩ := p
      have et : (l.map F).take (l.map en).length = l.map F := List.take_of_length_le (by simp)
      rw [et] at hd
      exact q D acc H3 (e2.free hD) (e2.trans s3) ha hd)
/-- the target a name -/
theorem evl_lcn {α : Type} {l : List α} {en : α → PyData} {j : Nat} {vs : List Nat} {B : Base} {Γ : List Sl} {Θ : List (Addr × Ob)} (F : α → PyData) (A : At K B Γ Θ σ H) (S : Src K wi σ H (l.map en)) (hz : l.length ≤ 100000) (hj : j ∈ vs)
    (he : ∀ a σ' H1, a ∈ l → At K B ((wipeG Γ vs).set j (.d (en a))) Θ σ' H1 → EvD K te σ' H1 (F a)) : EvL K (tLc wi (gName j) tYes te vs) σ H (l.map F) :=
  evl_lc F S hz fun a v H1 hm e hv R k => k _ (wipe_set hj _) (he a _ H1 hm (A.step e (Sls.set (g := .d (en a)) (s := some v) hv j ((A.env.im (im_same e)).wipe vs))))
/-- the target a pair of names -/
theorem evl_lcp {α : Type} {l : List α} {f1 f2 : α → PyData} {i j : Nat} {vs : List Nat} {B : Base} {Γ : List Sl} {Θ : List (Addr × Ob)} (F : α → PyData) (A : At K B Γ Θ σ H) (S : Src K wi σ H (l.map fun a => .tuple [f1 a, f2 a])) (hz : l.length ≤ 100000) (hi : i ∈ vs) (hj : j ∈ vs)
    (he : ∀ a σ' H1, a ∈ l → At K B (((wipeG Γ vs).set i (.d (f1 a))).set j (.d (f2 a))) Θ σ' H1 → EvD K te σ' H1 (F a)) :
    EvL K (tLc wi (gTup K 2 (gCons (gName i) (gCons (gName j) gNil))) tYes te vs) σ H (l.map F) :=
  evl_lc F S hz fun a v H1 hm e hv R k => by
    obtain ⟨p, xs, rfl, hs, ha⟩ := hv.tup_inv
    obtain ⟨v1, v2, rfl, h1, h2⟩ := ha.two
    refine ⟨p, [v1, v2], rfl, hs, rfl, v1, [v2], rfl, v2, [], rfl, rfl, k _ ?_ (he a _ H1 hm (A.step e (Sls.set (g := .d (f2 a)) (s := some v2) h2 j (Sls.set (g := .d (f1 a)) (s := some v1) h1 i ((A.env.im (im_same e)).wipe vs)))))⟩
    rw [wipe_set0 hj, wipe_set hi]
/-! ### built-ins -/
def rLenS : List V → Hp → VK → Prop := fun xs H Q => ∃ z, xs = [.str z] ∧ z.length ≤ sizeLine ∧ Q (.int z.length) H
theorem c_lenS {X : Cx} : CallR X (.builtin "len") rLenS := call_len_str
def rLenQ (K : PySem.W.Frag) : List V → Hp → VK → Prop := fun xs H Q => ∃ p ys, xs = [.ref p] ∧ (SqL K H p ys ∨ SqT K H p ys) ∧ Q (.int ys.length) H
theorem c_len {X : Cx} : CallR X (.builtin "len") (rLenQ X.K) := call_len_seq
def rTupO (K : PySem.W.Frag) : List V → Hp → VK → Prop := fun xs H Q => ∃ p ys, xs = [.ref p] ∧ ((SqL K H p ys ∧ ∀ l, H l = none → Q (.ref l) (upd H l (.tup ys))) ∨ (SqT K H p ys ∧ Q (.ref p) H))
theorem c_tup {X : Cx} : CallR X (.type "tuple") (rTupO X.K) := call_tuple_of
def rMax2 : List V → Hp → VK → Prop := fun xs H Q => ∃ i j, xs = [.int i, .int j] ∧ Q (.int (if j > i then j else i)) H
theorem c_max2 {X : Cx} (hc : X.calm = true) : CallR X (.builtin "max") rMax2 := call_max2 hc
def rInt1 : List V → Hp → VK → Prop := fun xs H Q => (∃ i, xs = [.int i] ∧ Q (.int i) H) ∨ ∃ k, xs = [.bl k] ∧ Q (.int (if k then 1 else 0)) H
theorem c_int1 {X : Cx} : CallR X (.type "int") rInt1 := call_int1
def rLtS : R2 := fun x y H Q => ∃ i j, x = .str i ∧ y = .str j ∧ Q (.bl (decide (i.cps.toList < j.cps.toList))) H
theorem o_ltS {X : Cx} : OpR X (compareOp .Lt) rLtS := op_lt_str
def rInS : R2 := fun x y H Q => ∃ (c : Nat) (z : Str), x = .str ⟨#[c]⟩ ∧ y = .str z ∧ Q (.bl (decide (c ∈ z.cps.toList))) H
theorem o_inS {X : Cx} : OpR X (compareOp .In) rInS := op_in_sign
/-- a call by values -/
def CvD (K : PySem.W.Frag) (r : List V → Hp → VK → Prop) (ds : List PyData) (d : PyData) : Prop := ∀ (vs : List V) (H : Hp) (Q : VK), DtAll K H vs ds → (∀ z H2, Same H H2 → Dt K H2 z d → Q z H2) → r vs H Q
theorem evd_cb {r : List V → Hp → VK → Prop} {t : TA} (h : EvA K t σ H ds) (hr : CvD K r ds d) : EvD K (tCB r t) σ H d := fun H1 e Q q => h H1 e _ fun vs H2 e2 hv => hr vs H2 Q hv fun z H3 e3 h3 => q z H3 (e2.trans e3) h3
theorem cv_lenS {x : Str} (hl : x.length ≤ 100000) : CvD K rLenS [.str x] (.int x.length) := fun vs H Q hv q => by
  obtain ⟨v, rfl, h⟩ := hv.one
  cases h
  exact ⟨x, rfl, sz_of hl, q _ H (Same.refl _) (.int _)⟩
theorem cv_len : CvD K (rLenQ K) [.tuple ds] (.int ds.length) := fun vs H Q hv q => by
  obtain ⟨v, rfl, h⟩ := hv.one
  obtain ⟨a, xs, rfl, hs, ha⟩ := h.tup_inv
  refine ⟨a, xs, rfl, .inr hs, ?_⟩
  rw [ha.length]
  exact q _ H (Same.refl _) (.int _)
theorem cv_max2 {i j : Int} : CvD K rMax2 [.int i, .int j] (.int (if j > i then j else i)) := fun vs H Q hv q => by
  obtain ⟨v, w, rfl, h1, h2⟩ := hv.two
  cases h1
  cases h2
  exact ⟨i, j, rfl, q _ H (Same.refl _) (.int _)⟩
theorem cv_int1 {i : Int} : CvD K rInt1 [.int i] (.int i) := fun vs H Q hv q => by
  obtain ⟨v, rfl, h1⟩ := hv.one
  cases h1
  exact .inl ⟨i, rfl, q _ H (Same.refl _) (.int _)⟩
/-- of a new list -/
theorem evd_tupL (h : EvL K te σ H ds) : EvD K (tCB (rTupO K) (tCons te tNil)) σ H (.tuple ds) := fun H1 e Q q => h H1 e _ fun p xs H2 hp e2 hs hd =>
  ⟨p, xs, rfl, .inl ⟨SqL.of hs, fun l hl => q _ _ (e2.trans (sm_new hl)) (.tup (SqT.of upd_same) (hd.mono (sm_new hl)))⟩⟩
theorem evd_lenL (h : EvL K te σ H ds) : EvD K (tCB (rLenQ K) (tCons te tNil)) σ H (.int ds.length) := fun H1 e Q q => h H1 e _ fun p xs H2 hp e2 hs hd =>
  ⟨p, xs, rfl, .inl (SqL.of hs), by rw [hd.length]; exact q _ H2 e2 (.int _)⟩
theorem dtAll_bools : ∀ {bs : List Bool} {vs : List V}, DtAll K H vs (bs.map PyData.bool) → vs = bs.map V.bl
  | [], _, h => by cases h; rfl
  | b :: bs, _, h => by
    cases h with
    | cons h1 h2 =>
      rw [dtAll_bools h2, h1.bl_inv]
      rfl
theorem evd_all {α : Type} {l : List α} {p : α → Bool} (h : EvL K te σ H (l.map fun a => PyData.bool (p a))) : EvD K (tCB (rAll K) (tCons te tNil)) σ H (.bool (l.all p)) := fun H1 e Q q => h H1 e _ fun a xs H2 hp e2 hs hd => by
  have e0 : (l.map fun a => PyData.bool (p a)) = (l.map p).map PyData.bool := by rw [List.map_map]; rfl
  rw [e0] at hd
  obtain rfl := dtAll_bools hd
  have e1 : (l.map p).all id = l.all p := by rw [List.all_map]; rfl
  exact ⟨a, l.map p, rfl, SqL.of hs, by rw [e1]; exact q _ H2 e2 (.bl _)⟩
theorem evd_any {α : Type} {l : List α} {p : α → Bool} (h : EvL K te σ H (l.map fun a => PyData.bool (p a))) : EvD K (tCB (rAny K) (tCons te tNil)) σ H (.bool (l.any p)) := fun H1 e Q q => h H1 e _ fun a xs H2 hp e2 hs hd => by
  have e0 : (l.map fun a => PyData.bool (p a)) = (l.map p).map PyData.bool := by rw [List.map_map]; rfl
  rw [e0] at hd
  obtain rfl := dtAll_bools hd
  have e1 : (l.map p).any id = l.any p := by rw [List.any_map]; rfl
  exact ⟨a, l.map p, rfl, SqL.of hs, by rw [e1]; exact q _ H2 e2 (.bl _)⟩
theorem ov_ltS {a b : Str} : OvD K rLtS (.str a) (.str b) (.bool (decide (a.cps.toList < b.cps.toList))) := fun v u H Q hv hu q => by
  cases hv
  cases hu
  exact ⟨a, b, rfl, rfl, q _ H (Same.refl _) (.bl _)⟩
theorem ov_inS {c : Nat} {z : Str} : OvD K rInS (.str ⟨#[c]⟩) (.str z) (.bool (decide (c ∈ z.cps.toList))) := fun v u H Q hv hu q => by
  cases hv
  cases hu
  exact ⟨c, z, rfl, rfl, q _ H (Same.refl _) (.bl _)⟩
/-- a chain of two comparisons of ints -/
theorem evd_chain {r r' : R2} {tc : TE} {dz : PyData} {b1 b2 : Bool} (ha : EvD K ta σ H dx) (hb : EvD K tb σ H dy) (hc : EvD K tc σ H dz) (h1 : OvD K r dx dy (.bool b1)) (h2 : OvD K r' dy dz (.bool b2)) :
    EvD K (tChain r r' ta tb tc) σ H (.bool (b1 && b2)) := fun H1 e Q q => ha H1 e _ fun v H2 e2 hv => hb H2 (e.trans e2) _ fun u H3 e3 hu => h1 v u H3 _ (hv.mono e3) hu fun z H4 e4 hz => ⟨b1, hz.bl_inv, by
  cases b1 with
  | true =>
    show tc σ H4 fun w' H5 => r' u w' H5 Q
    exact hc H4 (((e.trans e2).trans e3).trans e4) _ fun w H5 e5 hw => h2 u w H5 Q ((hu.mono e4).mono e5) hw fun z H6 e6 hz => q z H6 ((((e2.trans e3).trans e4).trans e5).trans e6) hz
  | false =>
    show Q (.bl false) H4
    exact q _ H4 ((e2.trans e3).trans e4) (.bl _)⟩
/-! ### slices -/
theorem evd_sl1 (h : EvD K te σ H (.tuple ds)) : EvD K (tSl (rSlA K) te (tPart (tC (.int 1))) tNoPart) σ H (.tuple (ds.drop 1)) := fun H1 e Q q => h H1 e _ fun v H2 e2 hv => by
  obtain ⟨a, xs, rfl, hs, ha⟩ := hv.tup_inv
  have hl := ha.length
  have e1 : HT.sIx xs.length 0 (some 1) = min 1 xs.length := HT.sIx_nat xs.length 0 1
  have e2' : HT.sIx xs.length xs.length none = xs.length := rfl
  refine ⟨1, rfl, a, xs, rfl, hs, fun hz => ?_, fun hz p hp => ?_⟩
  · rw [e1] at hz
    have z : xs.length = 0 := by omega
    have zd : ds = [] := List.length_eq_zero_iff.mp (by omega)
    subst zd
    exact q _ H2 e2 (.tup hs ha)
  · have ec : cutV xs (some 1) none = xs.drop 1 := by
      unfold cutV
      rw [e1, e2', List.take_of_length_le (by rw [List.length_drop]; exact Nat.le_refl _)]
      by_cases z : xs.length = 0
      · have zd : xs = [] := List.length_eq_zero_iff.mp z
        subst zd
        rfl
      · rw [Nat.min_eq_left (by omega)]
    rw [ec]
    exact q _ _ (e2.trans (sm_new hp)) (.tup (SqT.of upd_same) ((ha.drop 1).mono (sm_new hp)))
/-! ### isinstance -/
theorem kb_ii : kitB "int" "int" = some true := by decide +kernel
theorem kb_ib : kitB "int" "bool" = some false := by decide +kernel
theorem kb_ss : kitB "str" "str" = some true := by decide +kernel
theorem kb_tt : kitB "tuple" "tuple" = some true := by decide +kernel
def tyn : PyData → String
  | .none => "NoneType" | .bool _ => "bool" | .int _ => "int" | .str _ => "str" | .list _ => "list" | .tuple _ => "tuple" | .dict _ => "dict"
theorem tyx_of {v : V} (h : Dt K H v d) : TyX K H v (.type (tyn d)) := by
  cases h with
  | non => exact .base .non
  | bl b => exact .base (.bl b)
  | int i => exact .base (.int i)
  | str x => exact .base (.str x)
  | tup hs ha =>
    rcases hs with (hs | ⟨o, hs⟩) | ⟨o, its, n, hk, hc, _⟩
    · exact .base (.tup hs)
    · exact .fTuple hs
    · exact .kTuple hk hc
theorem evd_isi {n : String} {b : Bool} (h : EvD K te σ H d) (hb : kitB (tyn d) n = some b) : EvD K (tCB (rIsi K) (tCons te (tCons (tC (.ty n)) tNil))) σ H (.bool b) := fun H1 e Q q => h H1 e _ fun v H2 e2 hv =>
  ⟨v, .ty n, _, _, b, rfl, .ty n, tyx_of hv, kit_ty hb, q _ H2 e2 (.bl b)⟩
end
/-! ### targets: pairs of names -/
section
variable {X : Cx} (K : PySem.W.Frag) (hK : X.K = K) {pos px py pz : Pos} {x y z : Str} {i j l k k2 : Nat}
include hK in
theorem pg_pair (hc : X.calm = true) (hN : X.N.Nodup) (hi : X.N[i]? = some x) (hj : X.N[j]? = some y) (hx : Loc X.env.scope x) (hy : Loc X.env.scope y) (fx : X.fn x = true ∨ X.env.scope.names.lookup x = some .local) (fy : X.fn y = true ∨ X.env.scope.names.lookup y = some .local) :
    PG X (.Tuple [.Name x px, .Name y py] k pos) (gTup K 2 (gCons (gName i) (gCons (gName j) gNil))) := by
  subst hK
  exact pg_tup hc (pgs_cons (pg_name hN hi hx fx) (pgs_cons (pg_name hN hj hy fy) pgs_nil))
include hK in
theorem pg_npair {pos2 : Pos} (hc : X.calm = true) (hN : X.N.Nodup) (hl : X.N[l]? = some z) (hi : X.N[i]? = some x) (hj : X.N[j]? = some y) (hz : Loc X.env.scope z) (hx : Loc X.env.scope x) (hy : Loc X.env.scope y) (fz : X.fn z = true ∨ X.env.scope.names.lookup z = some .local) (fx : X.fn x = true ∨ X.env.scope.names.lookup x = some .local) (fy : X.fn y = true ∨ X.env.scope.names.lookup y = some .local) :
    PG X (.Tuple [.Name z pz, .Tuple [.Name x px, .Name y py] k pos] k2 pos2) (gTup K 2 (gCons (gName l) (gCons (gTup K 2 (gCons (gName i) (gCons (gName j) gNil))) gNil))) := by
  subst hK
  exact pg_tup hc (pgs_cons (pg_name hN hl hz fz) (pgs_cons (pg_pair _ rfl hc hN hi hj hx hy fx fy) pgs_nil))
end
/-! ### the rules with the written part as a letter (a comprehension's block has its own X) -/
section
variable {X : Cx} (K : PySem.W.Frag) (hK : X.K = K)
include hK
theorem ix_tup' : IxR X (rIxT K) := by subst hK; exact ix_tup
theorem ix_list' : IxR X (rIxL K) := by subst hK; exact ix_list
theorem sl_list' : SlR X (rSlL K) := by subst hK; exact sl_list
theorem sl_tupA' : SlR X (rSlA K) := by subst hK; exact sl_tupA
theorem op_in' : OpR X (compareOp .In) (rIn K false) := by subst hK; exact op_in_seq
theorem op_catA' : OpR X (binaryOp .Add) (rCatA K) := by subst hK; exact op_catA
theorem op_repT' : OpR X (binaryOp .Mult) (rRepT K) := by subst hK; exact op_repT
theorem op_eqD' (hu : X.A.units + 64 < cLine) : OpR X (compareOp .Eq) (rEqD K) := by subst hK; exact op_eqD hu
theorem op_neD' (hu : X.A.units + 64 < cLine) : OpR X (compareOp .NotEq) (rNeD K) := by subst hK; exact op_neD hu
theorem c_isi' : CallR X (.builtin "isinstance") (rIsi K) := by subst hK; exact call_isi
theorem c_len' : CallR X (.builtin "len") (rLenQ K) := by subst hK; exact c_len
theorem c_tup' : CallR X (.type "tuple") (rTupO K) := by subst hK; exact c_tup
theorem c_all' (hc : X.calm = true) : CallR X (.builtin "all") (rAll K) := by subst hK; exact cr_all hc
theorem c_any' (hc : X.calm = true) : CallR X (.builtin "any") (rAny K) := by subst hK; exact cr_any hc
theorem pi_tup' {tg l : Expr} {tl : TE} (hl : PE X l tl) : PI X tg l (iTup K tl) := by subst hK; exact pi_tup hl
theorem pi_list' {tg l : Expr} {tl : TE} (hl : PE X l tl) : PI X tg l (iList K tl) := by subst hK; exact pi_list hl
theorem pi_zipA' {e e2 : Expr} {ta : TA} {p pos tpos : Pos} {elts : List Expr} {kk : Nat} (hg : Gl X "zip") (hm : X.mg "zip" = none) (ha : PA X [e, e2] ta)
    (hs : starEach [e, e2] X.env = (false, eval e X.env) :: starEach [e2] X.env := by rfl) (hpl : (backTo pos (starEach [e2] X.env)).any (·.1) = false := by rfl) :
    PI X (.Tuple elts kk tpos) (.Call (.Name "zip" p) [e, e2] [] pos) (iZipA K ta) := by subst hK; exact pi_zipA hg hm ha hs hpl
theorem pi_enum' {e : Expr} {ta : TA} {p pos tpos : Pos} {elts : List Expr} {kk : Nat} (hg : Gl X "enumerate") (hm : X.mg "enumerate" = none) (ha : PA X [e] ta) (hs : starEach [e] X.env = [(false, eval e X.env)] := by rfl) :
    PI X (.Tuple elts kk tpos) (.Call (.Name "enumerate" p) [e] [] pos) (iEnum K ta) := by subst hK; exact pi_enum hg hm ha hs
theorem pe_append' {o e : Expr} {to te : TE} {apos cpos : Pos} (ho : PE X o to) (he : PE X e te)
    (h : PE X (.Call (.Attribute o "append" apos) [e] [] cpos) (tBM X.K "list" rAppend to (tCons te tNil))) : PE X (.Call (.Attribute o "append" apos) [e] [] cpos) (tBM K "list" rAppend to (tCons te tNil)) := by subst hK; exact h
end
end K15

/-! part E1 -/
set_option Elab.async false
set_option linter.all false
set_option maxRecDepth 100000
set_option maxHeartbeats 1000000
namespace PySem
/-- enumerate(v) over what begins -/
theorem k15_enum_new1 {v : Value} {o : Obj} {H : Heap → Prop} (B : Begins v o H) :
    Meets (Builtin.«enumerate.__new__» ⟨[.type "enumerate", v], []⟩) (fun _ R s => H s.heap ∧
      R (.ok (.ret (.ref (s.heap.push o).objs.size))) { s with heap := (s.heap.push o).push { cls := .type "enumerate", data := .fields #[.none, .bool false, .ref s.heap.objs.size, rawInt 0, .none, .none] } }) :=
  .of_wp fun prog w A R s h => by
    obtain ⟨hp, g, d, tk, os⟩ := s; obtain ⟨h1, h⟩ := h
    have hsub := sub_enumerate
    have q1 : ∀ {A' : Around} {E : Value → Shared → Prop} {Q : Value → Shared → Prop}, Q (.ref hp.objs.size) ⟨hp.push o, g, d, tk, os⟩ → wpAny (model prog w) A' (pyIter v) Q E ⟨hp, g, d, tk, os⟩ :=
      fun q => B.iter prog w _ _ ⟨hp, g, d, tk, os⟩ _ h1 q
    wp_walk using q1
    refine wpAny_stack_any fun st => wpAny_pure ?_
    split
    · rename_i c _ _ _ _ _
      cases (c == Value.type "enumerate")
      · wp_walk using q1
        exact ⟨_, rfl, h⟩
      · wp_walk using q1
        exact ⟨_, rfl, h⟩
    · wp_walk using q1
      exact ⟨_, rfl, h⟩
theorem k15_enum_begins {prog : Program} {w : World} {A : Around} {E : Value → Shared → Prop} {s : Shared} {v : Value} {o : Obj} {H : Heap → Prop} {Q : Value → Shared → Prop} (B : Begins v o H) (h1 : H s.heap)
    (h : ∀ h', IsEnum h' (s.heap.objs.size + 1) s.heap.objs.size 0 .none → h'.get? s.heap.objs.size = some o → h'.objs.size = s.heap.objs.size + 2 →
      (∀ b o, s.heap.get? b = some o → h'.get? b = some o) → Q (.ref (s.heap.objs.size + 1)) { s with heap := h' }) :
    wpAny (model prog w) A (call (.type "enumerate") [v]) Q E s := by
  refine callType_new F.called_enumerate (by decide) (F.typeCall_enumerate_1 _) (F.newCall_enumerate_1 _) (fun obj => F.args_object_init_2 obj _) F.entry_enumerate_new
    (k15_enum_new1 B) ⟨h1, ?_⟩
  have hz : (s.heap.push o).objs.size = s.heap.objs.size + 1 := Heap.size_push ..
  show _ ∧ _
  rw [hz]
  have he : IsEnum ((s.heap.push o).push { cls := .type "enumerate", data := .fields #[.none, .bool false, .ref s.heap.objs.size, rawInt 0, .none, .none] }) (s.heap.objs.size + 1) s.heap.objs.size 0 .none := by
    have := Heap.get?_push_size (s.heap.push o) (o := { cls := .type "enumerate", data := .fields #[.none, .bool false, .ref s.heap.objs.size, rawInt 0, .none, .none] }) rfl
    rw [hz] at this; exact this
  refine ⟨⟨_, he, rfl⟩, h _ he (Heap.get?_push_of_some _ (Heap.get?_push_size _ B.free)) (by rw [Heap.size_push, hz]) fun b o x => Heap.get?_push_of_some _ (Heap.get?_push_of_some _ x)⟩
end PySem
namespace K15
open PySem PySem.Spec PyProof.Rows L2 RZ
/-- the tuple at a, each item in a new pair with its place -/
def IteT (K : PySem.W.Frag) (a : Addr) : It :=
  ⟨fun i H => ∃ (xs : List V) (x : V), SqT K H a xs ∧ xs[i]? = some x, fun i H v H' => ∃ T x, v = .ref T ∧ H T = none ∧ H' = upd H T (.tup [.int (i : Nat), x]) ∧ ∀ xs, SqT K H a xs → xs[i]? = some x, fun i H => ∃ xs : List V, SqT K H a xs ∧ xs.length ≤ i⟩
theorem turn_enumT {P : Program} {w : World} {K : PySem.W.Frag} {elts : List Expr} {kk : Nat} {tpos : Pos} (a e it : Addr) (ha : a ≠ e) (ha2 : a ≠ it) :
    Turn P w K (.Tuple elts kk tpos) (IteT K a) [e, it] e (fun i h => (∃ old, IsEnum h e it ((i : Nat) : Int) old) ∧ h.IsTupleIter it a i ∧ e ≠ it) where
  mem := by simp
  obj := fun i h st b hb => by
    obtain ⟨⟨old, he⟩, ⟨o, ho, hc, hd⟩, _⟩ := st
    have e' : b = e ∨ b = it := by simpa using hb
    rcases e' with z | z
    · rw [z]; exact ⟨_, he, fun v q => nomatch q⟩
    · rw [z]; exact ⟨o, ho, fun v q => by rw [hd] at q; cases q⟩
  keep := fun i h h' st k => let ⟨⟨old, he⟩, hi, hne⟩ := st; ⟨⟨old, k e (by simp) _ he⟩, hi.at fun o q => k it (by simp) o q, hne⟩
  item := by
    intro X hP hw hK hc i pins s σ H E I hf st hg
    subst hP hw hK
    obtain ⟨⟨old, he⟩, hit, hne⟩ := st
    obtain ⟨xs, x, hq, hx⟩ := hg
    obtain ⟨its, rv, p, hz⟩ := I.tuple hq
    obtain ⟨u, hu, ru⟩ := rv.get hx
    have hel : e < s.heap.objs.size := Heap.lt_size he
    have hil : it < s.heap.objs.size := by obtain ⟨_, q, _⟩ := hit; exact Heap.lt_size q
    have hi : i < its.toArray.size := by
      have := (List.getElem?_eq_some_iff.mp hu).1
      simpa using this
    refine wpAny_pyNext_enum_itemC (Draws.tuple (A := X.A.in1) (I.ok.hd hc) it a ha2 its.toArray) he ⟨hit, p⟩ hi hne (by simp [hne, Ne.symm ha]) fun x' h' tk hP ho st' hT hsz hk => ?_
    have ex : x' = u := by
      have hP : its.toArray[i]? = some x' := hP
      simpa [hu] using hP.symm
    subst ex
    refine ⟨_, rfl, wpAny_letOwnedTupleGo_enum (s := { s with heap := h', toks := tk + 1 }) ho fun h'' he' sb => ?_⟩
    have hT2 : h''.get? s.heap.objs.size = some { cls := .type "tuple", data := .seq #[.int i tk, x'] } := (sb.2 _ (Nat.ne_of_gt hel)).trans hT
    have new : ObjOk X.prog X.w (upd H s.heap.objs.size (.tup [.int (i : Nat), x])) h'' s.heap.objs.size (.tup [.int (i : Nat), x]) :=
      ⟨by show 2 ≤ sizeLine; decide, [.int i tk, x'], .cons ⟨_, rfl⟩ (.cons ru .nil), ⟨_, hT2, rfl, _, rfl⟩⟩
    have I1 : Inv X pins σ (upd H s.heap.objs.size (.tup [.int (i : Nat), x])) { s with heap := h'', toks := tk + 1 } :=
      I.turnedNew (ch := [e, it]) (fun b ob hb q => (sb.2 b (fun z => hb (by simp [z]))).trans (hk b ob (fun z => hb (by simp [z])) (fun z => hb (by simp [z])) q)) hf (Nat.le_refl _) new
    refine ⟨.ref s.heap.objs.size, _, I1, rfl, ⟨_, x, rfl, I.hok.fresh (Nat.le_refl _), rfl, fun ys hy => by rw [I.tuple_inj hy hq]; exact hx⟩, ⟨⟨x', ?_⟩, st'.1.at fun o q => (sb.2 it (Ne.symm hne)).trans q, hne⟩, fun b hb => ?_⟩
    · have e1 : ((i + 1 : Nat) : Int) = (i : Int) + 1 := by omega
      rw [e1]; exact he'
    · have hb' : b < s.heap.objs.size := by
        have e' : b = e ∨ b = it := by simpa using hb
        rcases e' with z | z
        · rw [z]; exact hel
        · rw [z]; exact hil
      rw [upd_ne (Nat.ne_of_lt hb')]
      exact (hf b hb).1
  done := by
    intro X hP hw hK hc i pins s σ H E I hf st hg
    subst hP hw hK
    obtain ⟨⟨old, he⟩, hit, hne⟩ := st
    obtain ⟨xs, hq, hx⟩ := hg
    obtain ⟨its, rv, p, hz⟩ := I.tuple hq
    obtain ⟨f0, f1, f2, f3, f4, f5⟩ := hf it (by simp)
    have hl := rv.length
    have hT : s.TypeIs (.ref e) "enumerate" := ⟨_, he, rfl⟩
    unfold pyNext
    refine wpAny_bind (wpAny_attempt (wpAny_callSpecial?_slot (name := Str.ofString "__next__") hT F.slot_enumerate_next
      (wpAny_call_entry F.slot_enumerate_next hT F.entry_enumerate_next ?_ (F.args_enumerate_next_1 _))))
    show wpAny _ _ (field (.ref e) 2 >>= _) _ _ _
    refine wpAny_bind (wpAny_field he rfl (x := .ref it) rfl ?_)
    refine wpAny_bind (wpAny_nextOf_tuple_end (I.ok.hd hc) hit (show s.heap.IsTuple a its.toArray from p) (by simp; omega) fun h' x he' hx' => ?_)
    obtain ⟨o, ho, hc'⟩ := hx'
    refine wpAny_bind (wpAny_isInstance (T := "StopIteration") (b := true) ⟨o, ho, hc'⟩ isSubtype_stop ?_)
    exact wpAny_pure ⟨rfl, I.turned (t' := s.toks) (fun b o hb q => he' b o hb q) f0 f1 f3 f4 f5⟩
  self := fun A i s Q E st h => let ⟨⟨_, he⟩, _⟩ := st; wpAny_pyIter_enum he h
def iEnumT (K : PySem.W.Frag) (ta : TA) : TI := fun σ H R => ta σ H fun vs H1 => ∃ a xs, vs = [.ref a] ∧ SqT K H1 a xs ∧ R (IteT K a) H1
theorem pi_enumT {X : Cx} (K : PySem.W.Frag) (hK : X.K = K) {e : Expr} {ta : TA} {p pos tpos : Pos} {elts : List Expr} {kk : Nat} (hg : Gl X "enumerate") (hm : X.mg "enumerate" = none) (ha : PA X [e] ta) (hs : starEach [e] X.env = [(false, eval e X.env)] := by rfl) :
    PI X (.Tuple elts kk tpos) (.Call (.Name "enumerate" p) [e] [] pos) (iEnumT K ta) := by
  subst hK
  refine ⟨fun pins s σ H R I h => ?_⟩
  refine Call_ (ld_blt I hg hm boot_enumerate (PyProof.Rows.callWith_type1 (thn (ha.run pos pins s σ H _ I h) fun us s1 ⟨vs, H1, I1, r1, q1⟩ => ?_) hs rfl))
  obtain ⟨a, xs, ex, hq, q⟩ := q1
  subst ex
  cases r1 with
  | cons r rr =>
    cases rr
    cases r
    obtain ⟨its, rv, p', hz⟩ := I1.tuple hq
    have hal : a < s1.heap.objs.size := by obtain ⟨_, z, _⟩ := p'; exact Heap.lt_size z
    refine k15_enum_begins (begins_tuple a its.toArray) p' fun h' he hit hsz hk => wpAny_pyIter_enum he ?_
    have I2 : Inv X pins σ H1 { s1 with heap := h' } := I1.kept (t' := s1.toks) hk
    refine ⟨s1.heap.objs.size + 1, [s1.heap.objs.size + 1, s1.heap.objs.size], _, _, H1, rfl, I2, turn_enumT a (s1.heap.objs.size + 1) s1.heap.objs.size (Nat.ne_of_lt (Nat.lt_succ_of_lt hal)) (Nat.ne_of_lt hal), ⟨⟨.none, he⟩, ⟨_, hit, rfl, rfl⟩, Nat.succ_ne_self _⟩, fun b hb => ?_, q⟩
    have e' : b = s1.heap.objs.size + 1 ∨ b = s1.heap.objs.size := by simpa using hb
    have hle : s1.heap.objs.size ≤ b := by
      rcases e' with z | z
      · rw [z]; exact Nat.le_add_right _ _
      · rw [z]; exact Nat.le_refl _
    exact I1.fpOk hle (I1.hok.fresh hle)
theorem walk_enumT {K : PySem.W.Frag} {a : Addr} {xs : List V} : Walk (IteT K a) xs.length (fun H => SqT K H a xs) (YPair (fun i => some (.int (i : Nat))) (fun i => xs[i]?)) := by
  refine ⟨fun i _ hi q => ?_, fun _ q => ⟨xs, q, Nat.le_refl _⟩, fun i H v H' _ q y => ?_⟩
  · exact ⟨xs, xs[i], q, by simp [hi]⟩
  · obtain ⟨T, x, h1, h2, h3, h4⟩ := y
    exact ⟨T, _, x, h1, h2, h3, rfl, h4 xs q⟩
section
variable {K : PySem.W.Frag} {σ : L2.St} {H : Hp} {ds : List PyData} {ta : TA}
def enumD (ds : List PyData) : List PyData := (List.range ds.length).zipWith (fun (i : Nat) d => PyData.tuple [.int (i : Int), d]) ds
theorem src_enumT (h : EvA K ta σ H [.tuple ds]) : Src K (iEnumT K ta) σ H (enumD ds) := ⟨fun H1 e R k => h H1 e _ fun vs H2 e2 hv => by
  obtain ⟨v, rfl, h1⟩ := hv.one
  obtain ⟨a, xs, rfl, hs, ha⟩ := h1.tup_inv
  have W := walk_enumT (K := K) (a := a) (xs := xs)
  have el : xs.length = (enumD ds).length := by simp [enumD, ha.length]
  rw [el] at W
  refine ⟨a, xs, rfl, hs, k _ _ _ H2 e2 W (fun H3 e3 => sm_t e3 hs) fun i x H3 H4 hi e3 y => ?_⟩
  have i1 : i < ds.length := by rw [← el, ha.length] at hi; exact hi
  have g1 : ds[i]? = some ds[i] := List.getElem?_eq_getElem i1
  obtain ⟨s, q⟩ := pair_yield (K := K) (d := .int (i : Int)) (e := ds[i]) (fun v hv => by cases hv; exact .int _) (fun v hv => by
    obtain ⟨d, hd, hv⟩ := ha.getV hv
    rw [g1] at hd
    cases hd
    exact hv.mono e3) y
  refine ⟨s, _, ?_, q⟩
  unfold enumD
  rw [List.getElem?_zipWith]
  simp [i1]⟩
end
end K15

/-! part Lp -/
set_option Elab.async false
set_option linter.all false
set_option maxRecDepth 100000
set_option maxHeartbeats 1000000
namespace K15
open PySem PySem.Spec PyProof.Rows L2 RZ
/-! ### lists and dicts of data by their place -/
def HasL (K : PySem.W.Frag) (H : Hp) (p : Addr) (ds : List PyData) : Prop := ∃ xs, H p = some (.lst xs) ∧ DtAll K H xs ds
def HasK (K : PySem.W.Frag) (H : Hp) (p : Addr) (l : List (Key × PyData)) : Prop := ∃ ks, H p = some (.dK ks) ∧ DV K H ks l
theorem HasL.mono {K : PySem.W.Frag} {H H' : Hp} {p : Addr} {ds : List PyData} (e : Same H H') (h : HasL K H p ds) : HasL K H' p ds := let ⟨xs, a, b⟩ := h; ⟨xs, e _ _ a, b.mono e⟩
theorem HasK.mono {K : PySem.W.Frag} {H H' : Hp} {p : Addr} {l : List (Key × PyData)} (e : Same H H') (h : HasK K H p l) : HasK K H' p l := let ⟨xs, a, b⟩ := h; ⟨xs, e _ _ a, b.im (im_same e)⟩
theorem At.hasL {K : PySem.W.Frag} {B : Base} {Γ : List Sl} {Θ : List (Addr × Ob)} {σ : L2.St} {H : Hp} {k : Nat} {p : Addr} {ds : List PyData} (a : At K B Γ Θ σ H) (h : Θ[k]? = some (p, .lst ds)) : HasL K H p ds := (a.own.at_ h).2
theorem At.hasK {K : PySem.W.Frag} {B : Base} {Γ : List Sl} {Θ : List (Addr × Ob)} {σ : L2.St} {H : Hp} {k : Nat} {p : Addr} {l : List (Key × PyData)} (a : At K B Γ Θ σ H) (h : Θ[k]? = some (p, .dk l)) : HasK K H p l := (a.own.at_ h).2
def keyD : Key → PyData | .inl i => .int i | .inr x => .str x
theorem keyD_inv {K : PySem.W.Frag} {H : Hp} {v : V} : ∀ {k : Key}, Dt K H v (keyD k) → v = kV k
  | .inl _, h => h.int_inv
  | .inr _, h => h.str_inv
theorem keyD_dt {K : PySem.W.Frag} {H : Hp} : ∀ k : Key, Dt K H (kV k) (keyD k)
  | .inl i => .int i
  | .inr x => .str x
def getK {α : Type} (l : List (Key × α)) (k : Key) : Option α := (l.find? fun kv => decide (kv.1 = k)).map (·.2)
theorem DV.keys {K : PySem.W.Frag} {H : Hp} {ks : List (Key × V)} {l : List (Key × PyData)} (h : DV K H ks l) : ks.map (·.1) = l.map (·.1) := by
  induction h with
  | nil => rfl
  | cons h1 _ ih => rw [List.map_cons, List.map_cons, h1.1, ih]
theorem DV.length {K : PySem.W.Frag} {H : Hp} {ks : List (Key × V)} {l : List (Key × PyData)} (h : DV K H ks l) : ks.length = l.length := by
  have := congrArg List.length h.keys
  simpa using this
theorem DV.some {K : PySem.W.Frag} {H : Hp} {ks : List (Key × V)} {l : List (Key × PyData)} (h : DV K H ks l) {k : Key} {d : PyData} : getK l k = some d → ∃ v, valV ks k = some v ∧ Dt K H v d := by
  induction h with
  | nil => intro e; exact nomatch e
  | cons h1 _ ih =>
    rename_i p q ps qs _
    intro e
    by_cases c : p.1 = k
    · rw [valV_pos c]
      have c2 : q.1 = k := h1.1 ▸ c
      have e2 : getK (q :: qs) k = Option.some q.2 := by simp [getK, List.find?_cons, c2]
      rw [e2] at e
      cases e
      exact ⟨_, rfl, h1.2⟩
    · rw [valV_neg c]
      have c2 : ¬ q.1 = k := h1.1 ▸ c
      have e2 : getK (q :: qs) k = getK qs k := by simp [getK, List.find?_cons, c2]
      rw [e2] at e
      exact ih e
theorem DV.none {K : PySem.W.Frag} {H : Hp} {ks : List (Key × V)} {l : List (Key × PyData)} (h : DV K H ks l) {k : Key} : getK l k = none → valV ks k = none := by
  induction h with
  | nil => intro e; rfl
  | cons h1 _ ih =>
    rename_i p q ps qs _
    intro e
    by_cases c : p.1 = k
    · have c2 : q.1 = k := h1.1 ▸ c
      have e2 : getK (q :: qs) k = Option.some q.2 := by simp [getK, List.find?_cons, c2]
      rw [e2] at e
      exact nomatch e
    · rw [valV_neg c]
      have c2 : ¬ q.1 = k := h1.1 ▸ c
      have e2 : getK (q :: qs) k = getK qs k := by simp [getK, List.find?_cons, c2]
      rw [e2] at e
      exact ih e
theorem DV.snoc {K : PySem.W.Frag} {H : Hp} {k : Key} {v : V} {d : PyData} (hv : Dt K H v d) : ∀ {ks : List (Key × V)} {l : List (Key × PyData)}, DV K H ks l → DV K H (ks ++ [(k, v)]) (l ++ [(k, d)])
  | _, _, .nil => .cons ⟨rfl, hv⟩ .nil
  | _, _, .cons h1 h2 => .cons h1 (DV.snoc hv h2)

/-! ### what a for walks -/
def Yd (K : PySem.W.Frag) (ds : List PyData) : Nat → Hp → V → Hp → Prop := fun i H x H' => Same H H' ∧ ∃ d, ds[i]? = some d ∧ Dt K H' x d
/-- a source that stays, whatever is done to a def's own lists and dicts -/
structure SrcS (K : PySem.W.Frag) (wi : TI) (σ : L2.St) (H : Hp) (ds : List PyData) : Prop where
  run : ∀ H1, Same H H1 → ∀ R : It → Hp → Prop, (∀ J (G : Hp → Prop) H2, Same H1 H2 → (∀ A A', Im A A' → G A → G A') → G H2 → Walk J ds.length G (Yd K ds) → R J H2) → wi σ H1 R
section
variable {K : PySem.W.Frag} {σ : L2.St} {H H' : Hp} {B : Base} {Γ : List Sl} {Θ : List (Addr × Ob)} {ta tb te tl td ty tv : TE} {t u : TT} {x y z v : V} {d dx dy : PyData} {ds es : List PyData} {wi : TI} {p : Addr} {l : List (Key × PyData)} {i j k : Nat}
theorem Dt.stab {v : V} {d : PyData} : ∀ A A', Im A A' → Dt K A v d → Dt K A' v d := fun _ _ e h => Dt.im e _ _ h
theorem walk_tupD {a : Addr} : Walk (Itt K a) ds.length (fun H => Dt K H (.ref a) (.tuple ds)) (Yd K ds) := by
  refine ⟨fun i H hi q => ?_, fun H q => ?_, fun i H x H' hi q y => ?_⟩
  · obtain ⟨b, xs, e, hs, ha⟩ := q.tup_inv
    cases e
    have hx : i < xs.length := by rw [ha.length]; exact hi
    exact ⟨xs, xs[i], hs, List.getElem?_eq_getElem hx⟩
  · obtain ⟨b, xs, e, hs, ha⟩ := q.tup_inv
    cases e
    exact ⟨xs, hs, by rw [ha.length]; exact Nat.le_refl _⟩
  · obtain ⟨b, xs, e, hs, ha⟩ := q.tup_inv
    cases e
    obtain ⟨rfl, hy⟩ := y
    exact ⟨Same.refl _, ha.getV (hy xs hs)⟩
theorem srcS_tup (h : EvD K tl σ H (.tuple ds)) : SrcS K (iTup K tl) σ H ds := ⟨fun H1 e R q => h H1 e _ fun v H2 e2 hv => by
  obtain ⟨a, xs, rfl, hs, ha⟩ := hv.tup_inv
  exact ⟨a, rfl, ⟨xs, hs⟩, q _ _ H2 e2 Dt.stab hv walk_tupD⟩⟩
theorem srcS_rng {ta : TA} {n : Nat} (h : EvA K ta σ H [.int (n : Int)]) (hn : n ≤ 100000) : SrcS K (iRng1 ta) σ H ((List.range n).map fun (i : Nat) => .int (i : Int)) := ⟨fun H1 e R k => h H1 e _ fun vs H2 e2 hv => by
  obtain ⟨v, rfl, h1⟩ := hv.one
  cases h1
  have W := walk_range (lo := 0) (n := n)
  have e0 : ((List.range n).map fun (i : Nat) => PyData.int (i : Int)).length = n := by simp
  refine ⟨(n : Int), rfl, by omega, by omega, k _ (fun _ => True) H2 e2 (fun _ _ _ h => h) True.intro ?_⟩
  rw [e0, Int.toNat_natCast]
  refine W.mono (fun _ h => h) fun i H x H' hi _ y => ?_
  obtain ⟨rfl, rfl⟩ := y
  refine ⟨Same.refl _, .int (i : Int), by simp [hi], ?_⟩
  show Dt K _ (V.int (0 + (i : Int))) (PyData.int (i : Int))
  rw [Int.zero_add]
  exact .int _⟩
theorem srcS_zipT {ta : TA} (h : EvA K ta σ H [.tuple ds, .tuple es]) : SrcS K (iZipA K ta) σ H ((ds.zip es).map fun p => .tuple [p.1, p.2]) := ⟨fun H1 e R k => h H1 e _ fun vs H2 e2 hv => by
  obtain ⟨v, w, rfl, h1, h2⟩ := hv.two
  obtain ⟨a, xs, rfl, hs, ha⟩ := h1.tup_inv
  obtain ⟨b, ys, rfl, ht, hb⟩ := h2.tup_inv
  refine ⟨a, b, xs, ys, rfl, .inr ⟨hs, ht, k _ (fun H => Dt K H (.ref a) (.tuple ds) ∧ Dt K H (.ref b) (.tuple es)) H2 e2 (fun _ _ e h => ⟨Dt.im e _ _ h.1, Dt.im e _ _ h.2⟩) ⟨h1, h2⟩ ?_⟩⟩
  have hn : ((ds.zip es).map fun p => PyData.tuple [p.1, p.2]).length = min ds.length es.length := by simp
  refine ⟨fun i H hi q => ?_, fun H q => ?_, fun i H x H' hi q y => ?_⟩
  · obtain ⟨_, xs, e1, hs, ha⟩ := q.1.tup_inv
    obtain ⟨_, ys, e2, ht, hb⟩ := q.2.tup_inv
    cases e1
    cases e2
    exact (walk_zipT (K := K) (a := a) (b := b) (xs := xs) (ys := ys) rfl).goes i H (by rw [ha.length, hb.length]; omega) ⟨hs, ht⟩
  · obtain ⟨_, xs, e1, hs, ha⟩ := q.1.tup_inv
    obtain ⟨_, ys, e2, ht, hb⟩ := q.2.tup_inv
    cases e1
    cases e2
    exact (walk_zipT (K := K) (a := a) (b := b) (xs := xs) (ys := ys) (by rw [hn, ha.length, hb.length])).stops H ⟨hs, ht⟩
  · obtain ⟨_, xs, e1, hs, ha⟩ := q.1.tup_inv
    obtain ⟨_, ys, e2, ht, hb⟩ := q.2.tup_inv
    cases e1
    cases e2
    have i1 : i < ds.length := by omega
    have i2 : i < es.length := by omega
    have g1 : ds[i]? = some ds[i] := List.getElem?_eq_getElem i1
    have g2 : es[i]? = some es[i] := List.getElem?_eq_getElem i2
    have y := (walk_zipT (K := K) (a := a) (b := b) (xs := xs) (ys := ys) rfl).yields i H x H' (by rw [ha.length, hb.length]; omega) ⟨hs, ht⟩ y
    obtain ⟨s, q⟩ := pair_yield (d := ds[i]) (e := es[i]) (fun v hv => by
      obtain ⟨d, hd, hv⟩ := ha.getV hv
      rw [g1] at hd
      cases hd
      exact hv) (fun v hv => by
      obtain ⟨d, hd, hv⟩ := hb.getV hv
      rw [g2] at hd
      cases hd
      exact hv) y
    refine ⟨s, _, ?_, q⟩
    rw [List.getElem?_map, List.getElem?_zip_eq_some (z := (ds[i], es[i])) |>.mpr ⟨g1, g2⟩]
    rfl⟩
theorem srcS_enumT {ta : TA} (h : EvA K ta σ H [.tuple ds]) : SrcS K (iEnumT K ta) σ H (enumD ds) := ⟨fun H1 e R k => h H1 e _ fun vs H2 e2 hv => by
  obtain ⟨v, rfl, h1⟩ := hv.one
  obtain ⟨a, xs, rfl, hs, ha⟩ := h1.tup_inv
  refine ⟨a, xs, rfl, hs, k _ (fun H => Dt K H (.ref a) (.tuple ds)) H2 e2 Dt.stab h1 ?_⟩
  have hn : (enumD ds).length = ds.length := by simp [enumD]
  rw [hn]
  refine ⟨fun i H hi q => ?_, fun H q => ?_, fun i H x H' hi q y => ?_⟩
  · obtain ⟨_, xs, e1, hs, ha⟩ := q.tup_inv
    cases e1
    exact (walk_enumT (K := K) (a := a) (xs := xs)).goes i H (by rw [ha.length]; exact hi) hs
  · obtain ⟨_, xs, e1, hs, ha⟩ := q.tup_inv
    cases e1
    rw [← ha.length]
    exact (walk_enumT (K := K) (a := a) (xs := xs)).stops H hs
  · obtain ⟨_, xs, e1, hs, ha⟩ := q.tup_inv
    cases e1
    have g1 : ds[i]? = some ds[i] := List.getElem?_eq_getElem hi
    have y := (walk_enumT (K := K) (a := a) (xs := xs)).yields i H x H' (by rw [ha.length]; exact hi) hs y
    obtain ⟨s, q⟩ := pair_yield (K := K) (d := .int (i : Int)) (e := ds[i]) (fun v hv => by cases hv; exact .int _) (fun v hv => by
      obtain ⟨d, hd, hv⟩ := ha.getV hv
      rw [g1] at hd
      cases hd
      exact hv) y
    refine ⟨s, _, ?_, q⟩
    unfold enumD
    rw [List.getElem?_zipWith]
    simp [hi]⟩
theorem walk_listD {a : Addr} : Walk (Itl K a) ds.length (fun H => HasL K H a ds) (Yd K ds) := by
  refine ⟨fun i H hi q => ?_, fun H q => ?_, fun i H x H' hi q y => ?_⟩
  · obtain ⟨xs, hs, ha⟩ := q
    have hx : i < xs.length := by rw [ha.length]; exact hi
    exact ⟨xs, xs[i], SqL.of hs, List.getElem?_eq_getElem hx⟩
  · obtain ⟨xs, hs, ha⟩ := q
    exact ⟨xs, SqL.of hs, by rw [ha.length]; exact Nat.le_refl _⟩
  · obtain ⟨xs, hs, ha⟩ := q
    obtain ⟨rfl, hy⟩ := y
    exact ⟨Same.refl _, ha.getV (hy xs (SqL.of hs))⟩

/-! ### for -/
variable {D : Ends} {g : TG} {tz : TS} {tbody : TS}
/-- the body, its end the next turn's start -/
abbrev Tn (K : PySem.W.Frag) (B : Base) (Γ : List Sl) (Θ : List (Addr × Ob)) (D : Ends) : Ends := { D with nx := fun σ H => At K B Γ Θ σ H, ct := fun σ H => At K B Γ Θ σ H, bk := D.nx }
/-- a for over a source that stays -/
theorem s_forS {α : Type} {l : List α} {en : α → PyData} {Γf : Nat → List Sl} {Θf : Nat → List (Addr × Ob)} (a : At K B Γ Θ σ H) (S : SrcS K wi σ H (l.map en)) (hΓ : Weak Γ (Γf 0)) (hΘ : Θ = Θf 0)
    (hs : ∀ (G : Hp → Prop) st (i : Nat) (x : α) (v : V) σ' H', l[i]? = some x → At K (B.and G st) (Γf i) (Θf i) σ' H' → Dt K H' v (en x) → g v σ' H' fun σ2 H2 => tbody (Tn K (B.and G st) (Γf (i + 1)) (Θf (i + 1)) D) σ2 H2)
    (hd : ∀ σ' H', At K B (Γf l.length) (Θf l.length) σ' H' → D.nx σ' H') : tFor wi g tbody D σ H :=
  S.run H (Same.refl H) _ fun J G H2 e st hG W => by
    subst hΘ
    refine for_it W (fun i σ' H' => At K (B.and G st) (Γf i) (Θf i) σ' H') (((a.up e).fact st hG).weak hΓ) (fun i σ H _ h => h.gh.2) (fun i x σ' H' H'' hi h y => ?_) fun σ' H' h => hd σ' H' ?_
    · obtain ⟨s, d, hdi, hx⟩ := y
      rw [List.length_map] at hi
      rw [List.getElem?_map, List.getElem?_eq_getElem hi] at hdi
      obtain rfl := Option.some.inj hdi
      exact hs G st i l[i] x σ' H'' (List.getElem?_eq_getElem hi) (h.up s) hx
    · rw [List.length_map] at h
      exact h.less
/-- a for over an own list -/
theorem s_forL {α : Type} {l : List α} {en : α → PyData} {Γf : Nat → List Sl} {Θf : Nat → List (Addr × Ob)} (a : At K B Γ Θ σ H) (S : EvV tl σ H (.ref p)) (hp : ∀ i, ∃ k : Nat, (Θf i)[k]? = some (p, Ob.lst (l.map en))) (hΓ : Weak Γ (Γf 0)) (hΘ : Θ = Θf 0)
    (hs : ∀ (i : Nat) (x : α) (v : V) σ' H', l[i]? = some x → At K B (Γf i) (Θf i) σ' H' → Dt K H' v (en x) → g v σ' H' fun σ2 H2 => tbody (Tn K B (Γf (i + 1)) (Θf (i + 1)) D) σ2 H2)
    (hd : ∀ σ' H', At K B (Γf l.length) (Θf l.length) σ' H' → D.nx σ' H') : tFor (iList K tl) g tbody D σ H :=
  S H (Same.refl H) _ fun H2 e => by
    subst hΘ
    have hL : HasL K H p (l.map en) := let ⟨k, h⟩ := hp 0; a.hasL h
    obtain ⟨xs, hx, hxd⟩ := hL
    refine ⟨p, rfl, ⟨xs, SqL.of (e _ _ hx)⟩, ?_⟩
    refine for_it (walk_listD (K := K) (ds := l.map en)) (fun i σ' H' => At K B (Γf i) (Θf i) σ' H') ((a.up e).weak hΓ) (fun i σ H _ h => let ⟨k, z⟩ := hp i; h.hasL z) (fun i x σ' H' H'' hi h y => ?_) fun σ' H' h => hd σ' H' ?_
    · obtain ⟨s, d, hdi, hx⟩ := y
      rw [List.length_map] at hi
      rw [List.getElem?_map, List.getElem?_eq_getElem hi] at hdi
      obtain rfl := Option.some.inj hdi
      exact hs i l[i] x σ' H'' (List.getElem?_eq_getElem hi) (h.up s) hx
    · rw [List.length_map] at h
      exact h
/-- targets -/
theorem g_name {R : L2.St → Hp → Prop} (a : At K B Γ Θ σ H) (h : Dt K H v d) (q : ∀ σ', At K B (Γ.set i (.d d)) Θ σ' H → R σ' H) : gName i v σ H R := q _ (a.setD h)
theorem g_pair {R : L2.St → Hp → Prop} (a : At K B Γ Θ σ H) (h : Dt K H v (.tuple [dx, dy])) (q : ∀ σ', At K B ((Γ.set i (.d dx)).set j (.d dy)) Θ σ' H → R σ' H) : gTup K 2 (gCons (gName i) (gCons (gName j) gNil)) v σ H R := by
  obtain ⟨p, xs, rfl, hs, ha⟩ := h.tup_inv
  obtain ⟨v1, v2, rfl, h1, h2⟩ := ha.two
  exact ⟨p, [v1, v2], rfl, hs, rfl, v1, [v2], rfl, v2, [], rfl, rfl, q _ ((a.setD h1).setD h2)⟩
theorem g_npair {R : L2.St → Hp → Prop} (a : At K B Γ Θ σ H) (h : Dt K H v (.tuple [d, .tuple [dx, dy]])) (q : ∀ σ', At K B (((Γ.set k (.d d)).set i (.d dx)).set j (.d dy)) Θ σ' H → R σ' H) :
    gTup K 2 (gCons (gName k) (gCons (gTup K 2 (gCons (gName i) (gCons (gName j) gNil))) gNil)) v σ H R := by
  obtain ⟨p, xs, rfl, hs, ha⟩ := h.tup_inv
  obtain ⟨v1, v2, rfl, h1, h2⟩ := ha.two
  exact ⟨p, [v1, v2], rfl, hs, rfl, v1, [v2], rfl, v2, [], rfl, g_pair (a.setD h1) h2 fun σ' a' => ⟨rfl, q _ a'⟩⟩
/-- a while -/
theorem s_while {c : TT} (Pv : Nat → L2.St → Hp → Prop) (n0 : Nat) (h0 : Pv n0 σ H) (hs : ∀ n σ' H', Pv n σ' H' → ∃ b, EvT K c σ' H' b ∧ (b = true → ∀ H2, Same H' H2 → tbody { D with nx := fun σ2 H3 => ∃ m, m < n ∧ Pv m σ2 H3, ct := fun σ2 H3 => ∃ m, m < n ∧ Pv m σ2 H3, bk := D.nx } σ' H2) ∧ (b = false → ∀ H2, Same H' H2 → D.nx σ' H2)) :
    tWhile c tbody D σ H := by
  refine ⟨Pv, ⟨n0, h0⟩, fun n σ' H' h => ?_⟩
  obtain ⟨b, hc, h1, h2⟩ := hs n σ' H' h
  refine hc H' (Same.refl _) _ fun H2 e => ?_
  cases b with
  | true => exact ⟨_, fun _ _ z => z, h1 rfl H2 e⟩
  | false => exact h2 rfl H2 e
/-! ### own lists and dicts: read, grown -/
theorem evv_var (a : At K B Γ Θ σ H) (h : Γ[i]? = some (.v v)) : EvV (tVar i) σ H v := fun H1 e Q q => ⟨v, a.env.val h, q H1 (Same.refl _)⟩
theorem src_has (ho : EvV tl σ H (.ref p)) (h : HasL K H p ds) : Src K (iList K tl) σ H ds := ⟨fun H1 e R k => ho H1 e _ fun H2 e2 => by
  obtain ⟨xs, hx, hd⟩ := h.mono (e.trans e2)
  have W := walk_listD (K := K) (ds := ds) (a := p)
  exact ⟨p, rfl, ⟨xs, SqL.of hx⟩, k _ _ _ H2 e2 W (fun H3 e3 => HasL.mono e3 ⟨xs, hx, hd⟩) fun i x H3 H4 hi e3 y => y⟩⟩
theorem evd_ixL {n : Nat} {iN : Int} (ho : EvV to σ H (.ref p)) (h : HasL K H p ds) (hi : EvD K ty σ H (.int iN)) (e : iN = (n : Int)) (hg : ds[n]? = some d) : EvD K (tOp (rIxL K) to ty) σ H d := fun H1 e1 Q q =>
  ho H1 e1 _ fun H2 e2 => hi H2 (e1.trans e2) _ fun v H3 e3 hv => by
    obtain ⟨xs, hx, hd⟩ := h.mono ((e1.trans e2).trans e3)
    obtain ⟨w, hw, hwd⟩ := hd.get hg
    cases hv
    exact ⟨p, xs, iN, w, rfl, rfl, SqL.of hx, by rw [e]; exact atI_nat hw, q w H3 (e2.trans e3) hwd⟩
theorem evd_lenV (ho : EvV tl σ H (.ref p)) (h : HasL K H p ds) : EvD K (tCB (rLenQ K) (tCons tl tNil)) σ H (.int ds.length) := fun H1 e1 Q q => ho H1 e1 _ fun H2 e2 => by
  obtain ⟨xs, hx, hd⟩ := h.mono (e1.trans e2)
  exact ⟨p, xs, rfl, .inl (SqL.of hx), by rw [hd.length]; exact q _ H2 e2 (.int _)⟩
theorem evd_tupV (ho : EvV tl σ H (.ref p)) (h : HasL K H p ds) : EvD K (tCB (rTupO K) (tCons tl tNil)) σ H (.tuple ds) := fun H1 e1 Q q => ho H1 e1 _ fun H2 e2 => by
  obtain ⟨xs, hx, hd⟩ := h.mono (e1.trans e2)
  exact ⟨p, xs, rfl, .inl ⟨SqL.of hx, fun l hl => q _ _ (e2.trans (sm_new hl)) (.tup (SqT.of upd_same) (hd.mono (sm_new hl)))⟩⟩
theorem evd_dget {key : Key} (ho : EvV td σ H (.ref p)) (h : HasK K H p l) (hk : EvD K ty σ H (keyD key)) (hg : getK l key = some d) : EvD K (tDGet td ty) σ H d := fun H1 e1 Q q =>
  ho H1 e1 _ fun H2 e2 => hk H2 (e1.trans e2) _ fun v H3 e3 hv => by
    obtain ⟨ks, hx, hd⟩ := h.mono ((e1.trans e2).trans e3)
    obtain ⟨w, hw, hwd⟩ := hd.some hg
    obtain rfl := keyD_inv hv
    exact ⟨p, w, rfl, hw ▸ DGet.k hx, q w H3 (e2.trans e3) hwd⟩
theorem evd_dget2 {key : Key} {tx : TE} (ho : EvV td σ H (.ref p)) (h : HasK K H p l) (hk : EvD K ty σ H (keyD key)) (hx : EvD K tx σ H dx) (hg : (getK l key).getD dx = d) : EvD K (tDGet2 td ty tx) σ H d := fun H1 e1 Q q =>
  ho H1 e1 _ fun H2 e2 => by
    obtain ⟨ks0, hx0, _⟩ := h.mono (e1.trans e2)
    refine ⟨p, rfl, .inl ⟨ks0, .inl hx0⟩, hk H2 (e1.trans e2) _ fun v H3 e3 hv => hx H3 ((e1.trans e2).trans e3) _ fun w H4 e4 hw => ?_⟩
    obtain ⟨ks, hx, hd⟩ := h.mono (((e1.trans e2).trans e3).trans e4)
    obtain rfl := keyD_inv hv
    refine ⟨_, DGet.k hx, q _ H4 ((e2.trans e3).trans e4) ?_⟩
    cases hc : getK l key with
    | none =>
      rw [hd.none hc]
      rw [hc] at hg
      subst hg
      exact hw
    | some z =>
      obtain ⟨w', hw', hwd⟩ := hd.some hc
      rw [hw']
      rw [hc] at hg
      subst hg
      exact hwd
theorem evd_dnotin {key : Key} (ho : EvV td σ H (.ref p)) (h : HasK K H p l) (hk : EvD K ty σ H (keyD key)) : EvD K (tDNotIn ty td) σ H (.bool (!(getK l key).isSome)) := fun H1 e1 Q q =>
  hk H1 e1 _ fun v H2 e2 hv => ho H2 (e1.trans e2) _ fun H3 e3 => by
    obtain ⟨ks, hx, hd⟩ := h.mono ((e1.trans e2).trans e3)
    obtain rfl := keyD_inv hv
    refine ⟨p, _, rfl, DGet.k hx, q _ H3 (e2.trans e3) ?_⟩
    have e0 : (valV ks key).isSome = (getK l key).isSome := by
      cases hc : getK l key with
      | none => rw [hd.none hc]; rfl
      | some z =>
        obtain ⟨w', hw', _⟩ := hd.some hc
        rw [hw']
        rfl
    rw [e0]
    exact .bl _
/-- xs.append(e) -/
theorem q_append (a : At K B Γ Θ σ H) (ho : EvV to σ H (.ref p)) (h : Θ[k]? = some (p, .lst ds)) (he : EvD K te σ H d) (hl : ds.length < 100000) (q : ∀ H', At K B Γ (Θ.set k (p, .lst (ds ++ [d]))) σ H' → tz D σ H') :
    tSeq (tDrop (tBM K "list" rAppend to (tCons te tNil))) tz D σ H := ho H (Same.refl _) _ fun H1 e1 => by
  obtain ⟨xs, hx, hd⟩ := (a.up e1).hasL h
  refine ⟨.inl ⟨rfl, xs, SqL.of hx⟩, he H1 e1 _ fun v H2 e2 hv => ?_⟩
  have a2 := (a.up e1).up e2
  obtain ⟨ys, hy, hyd⟩ := a2.hasL h
  refine ⟨p, ys, v, rfl, rfl, hy, by rw [hyd.length]; exact sz_lt hl, q _ (a2.put h ⟨(a2.own.at_ h).none, _, upd_same, ?_⟩)⟩
  exact DtAll.im (im_lst hy) _ _ (hyd.snoc hv)
theorem s_append (a : At K B Γ Θ σ H) (ho : EvV to σ H (.ref p)) (h : Θ[k]? = some (p, .lst ds)) (he : EvD K te σ H d) (hl : ds.length < 100000) (q : ∀ H', At K B Γ (Θ.set k (p, .lst (ds ++ [d]))) σ H' → D.nx σ H') :
    tDrop (tBM K "list" rAppend to (tCons te tNil)) D σ H := q_append (tz := fun D σ H => D.nx σ H) a ho h he hl q
/-- d[k] = v, k new -/
theorem s_dput {key : Key} (a : At K B Γ Θ σ H) (ho : EvV td σ H (.ref p)) (h : Θ[k]? = some (p, .dk l)) (hk : EvD K ty σ H (keyD key)) (hv : EvD K tv σ H d) (hl : l.length < 100000) (hn : getK l key = none) (q : ∀ H', At K B Γ (Θ.set k (p, .dk (l ++ [(key, d)]))) σ H' → D.nx σ H') :
    sDPut td ty tv D σ H := hv H (Same.refl _) _ fun v H1 e1 hv => ho H1 e1 _ fun H2 e2 => hk H2 (e1.trans e2) _ fun y H3 e3 hy => by
  have a2 := ((a.up e1).up e2).up e3
  obtain ⟨ks, hx, hd⟩ := a2.hasK h
  obtain rfl := keyD_inv hy
  have pn : putK ks key v = ks ++ [(key, v)] := putK_new v (hd.none hn)
  refine ⟨p, _, rfl, DPut.k hx (by rw [hd.length]; exact sz_lt hl), q _ (a2.put h ⟨(a2.own.at_ h).none, _, upd_same, ?_⟩)⟩
  rw [pn]
  have im : Im H3 (upd H3 p (.dK (ks ++ [(key, v)]))) := im_upd fun o e => by
    rw [hx] at e
    cases e
    exact True.intro
  exact (hd.snoc ((hv.mono e2).mono e3)).im im
theorem q_dput {key : Key} (a : At K B Γ Θ σ H) (ho : EvV td σ H (.ref p)) (h : Θ[k]? = some (p, .dk l)) (hk : EvD K ty σ H (keyD key)) (hv : EvD K tv σ H d) (hl : l.length < 100000) (hn : getK l key = none) (q : ∀ H', At K B Γ (Θ.set k (p, .dk (l ++ [(key, d)]))) σ H' → tz D σ H') :
    tSeq (sDPut td ty tv) tz D σ H := s_dput (D := { D with nx := tz D }) a ho h hk hv hl hn q
/-! ### new dicts -/
def EvK (K : PySem.W.Frag) (te : TE) (σ : L2.St) (H : Hp) (l : List (Key × PyData)) : Prop := ∀ H1, Same H H1 → ∀ Q : VK, (∀ p H2, H1 p = none → Same H1 H2 → HasK K H2 p l → Q (.ref p) H2) → te σ H1 Q
theorem q_asgK {tz : TS} (a : At K B Γ Θ σ H) (h : EvK K te σ H l) (q : ∀ p σ' H', At K B (Γ.set i (.v (.ref p))) ((p, .dk l) :: Θ) σ' H' → tz D σ' H') : tSeq (tAsg te (gName i)) tz D σ H :=
  h H (Same.refl H) _ fun p H1 hp e hl => q p _ H1 ((a.add (o := .dk l) e hp ⟨a.sm.free hp, hl⟩).setV)
theorem keys_dt {H : Hp} : ∀ l : List (Key × PyData), DtAll K H (l.map fun kv => kV kv.1) (l.map fun kv => keyD kv.1)
  | [] => .nil
  | c :: l => .cons (keyD_dt _) (keys_dt l)
theorem evl_listD (h : EvK K te σ H l) : EvL K (tCB rListD (tCons te tNil)) σ H (l.map fun kv => keyD kv.1) := fun H1 e1 Q q => h H1 e1 _ fun p H2 hp e2 hk => by
  obtain ⟨ks, hx, hd⟩ := hk
  refine ⟨p, ks, rfl, hx, fun r hr => q r _ _ (e2.free hr) (e2.trans (sm_new hr)) upd_same ?_⟩
  have e0 : (ks.map fun kv => kV kv.1) = l.map fun kv => kV kv.1 := by
    have := congrArg (List.map kV) hd.keys
    rw [List.map_map, List.map_map] at this
    exact this
  rw [e0]
  exact keys_dt l
theorem getK_none {α : Type} {l : List (Key × α)} {k : Key} (h : k ∉ l.map (·.1)) : getK l k = none := by
  unfold getK
  rw [List.find?_eq_none.mpr fun x hx e => h (List.mem_map.mpr ⟨x, hx, of_decide_eq_true e⟩)]
  rfl
/-- a dict comprehension of new keys, its target a pair of names -/
theorem evk_dcp {α : Type} {l : List α} {f1 f2 : α → PyData} {vs : List Nat} {tk : TE} (fk : α → Key) (F : α → PyData) (A : At K B Γ Θ σ H) (S : Src K wi σ H (l.map fun a => .tuple [f1 a, f2 a])) (hz : l.length ≤ 100000) (hn : (l.map fk).Nodup) (hi : i ∈ vs) (hj : j ∈ vs)
    (hk : ∀ a σ' H1, a ∈ l → At K B (((wipeG Γ vs).set i (.d (f1 a))).set j (.d (f2 a))) Θ σ' H1 → EvD K tk σ' H1 (keyD (fk a)) ∧ EvD K tv σ' H1 (F a)) :
    EvK K (tDc wi (gTup K 2 (gCons (gName i) (gCons (gName j) gNil))) tYes tk tv vs) σ H (l.map fun a => (fk a, F a)) := fun H0 e0 Q q =>
  S.run H0 e0 _ fun J G Y H2 e2 W hG hY D hD => by
    refine ⟨fun i m H' => m = l.length - i ∧ i ≤ l.length ∧ Same H2 H' ∧ HasK K H' D ((l.map fun a => (fk a, F a)).take i), ⟨_, rfl, Nat.zero_le _, sm_new hD, [], upd_same, .nil⟩, ?_⟩
    rintro i' m H3 ⟨rfl, hi', s3, hk3⟩
    by_cases hlt : i' < l.length
    · refine .inr ⟨W.goes i' H3 (by rw [List.length_map]; exact hlt) (hG H3 s3), fun H' => i' + 1 ≤ l.length ∧ Same H2 H' ∧ HasK K H' D ((l.map fun a => (fk a, F a)).take (i' + 1)), fun H' z => ⟨l.length - (i' + 1), by omega, rfl, z⟩, fun x H4 y => ?_⟩
      have y := W.yields i' H3 x H4 (by rw [List.length_map]; exact hlt) (hG H3 s3) y
      obtain ⟨s4, d, hdi, hx⟩ := hY i' x H3 H4 (by rw [List.length_map]; exact hlt) s3 y
      rw [List.getElem?_map, List.getElem?_eq_getElem hlt] at hdi
      obtain rfl := Option.some.inj hdi
      obtain ⟨p, xs, rfl, hs, ha⟩ := hx.tup_inv
      obtain ⟨v1, v2, rfl, h1, h2⟩ := ha.two
      have A4 : At K B (((wipeG Γ vs).set i (.d (f1 l[i']))).set j (.d (f2 l[i']))) Θ (((wipe σ vs).set i (some v1)).set j (some v2)) H4 :=
        A.step (((e0.trans e2).trans s3).trans s4) (Sls.set (g := .d (f2 l[i'])) (s := some v2) h2 j (Sls.set (g := .d (f1 l[i'])) (s := some v1) h1 i ((A.env.im (im_same (((e0.trans e2).trans s3).trans s4))).wipe vs)))
      obtain ⟨ek, ev⟩ := hk l[i'] _ H4 (List.getElem_mem hlt) A4
      refine ⟨p, [v1, v2], rfl, hs, rfl, v1, [v2], rfl, v2, [], rfl, rfl, ?_, ?_⟩
      · rw [wipe_set0 hj, wipe_set hi]
      · show tk _ H4 _
        refine ek H4 (Same.refl _) _ fun y H5 e5 hy => ev H5 e5 _ fun z H6 e6 hz => ?_
        obtain rfl := keyD_inv hy
        obtain ⟨ks, hx6, hd6⟩ := ((hk3.mono s4).mono e5).mono e6
        have hlen : ks.length < 100000 := by
          rw [hd6.length, List.length_take, List.length_map]
          omega
        have hnew : getK ((l.map fun a => (fk a, F a)).take i') (fk l[i']) = none := by
          apply getK_none
          rw [List.map_take, List.map_map]
          intro hm
          obtain ⟨r, hr, er⟩ := List.mem_iff_getElem.mp hm
          have hr1 : r < i' := by
            rw [List.length_take] at hr
            omega
          have hr2 : r < l.length := by omega
          rw [List.getElem_take] at er
          simp only [List.getElem_map, Function.comp] at er
          have h1 : (l.map fk)[r]? = some (fk l[i']) := by rw [List.getElem?_map, List.getElem?_eq_getElem hr2, ← er]; rfl
          have h2 : (l.map fk)[i']? = some (fk l[i']) := by rw [List.getElem?_map, List.getElem?_eq_getElem hlt]; rfl
          have := (List.getElem?_inj (by rw [List.length_map]; exact hr2) hn).mp (h1.trans h2.symm)
          omega
        refine ⟨ks, fk l[i'], rfl, hx6, sz_lt hlen, by omega, ?_, ?_⟩
        · exact sm_mut (((s3.trans s4).trans e5).trans e6) hD
        · have pn : putK ks (fk l[i']) z = ks ++ [(fk l[i'], z)] := putK_new z (hd6.none hnew)
          have im : Im H6 (upd H6 D (.dK (ks ++ [(fk l[i'], z)]))) := im_upd fun o e => by
            rw [hx6] at e
            cases e
            exact True.intro
          rw [pn]
          refine ⟨_, upd_same, ?_⟩
          have et : (l.map fun a => (fk a, F a)).take (i' + 1) = (l.map fun a => (fk a, F a)).take i' ++ [(fk l[i'], F l[i'])] := by
            rw [List.take_add_one, List.getElem?_map, List.getElem?_eq_getElem hlt]
            rfl
          rw [et]
          exact (hd6.snoc hz).im im
    · have e : i' = l.length := by omega
      subst e
      have hlen : (l.map fun a => PyData.tuple [f1 a, f2 a]).length = l.length := by simp
      refine .inl ⟨hlen ▸ W.stops H3 (hG H3 s3), q D H3 (e2.free hD) (e2.trans s3) ?_⟩
      rwa [List.take_of_length_le (by simp)] at hk3
end
end K15

/-! part M0 -/
set_option Elab.async false
set_option linter.all false
set_option maxRecDepth 100000
set_option maxHeartbeats 1000000
/-! the machines in plain Lean -/
namespace K15
open PySem
abbrev lettersS : Str := "abcdefghijklmnopqrstuvwxyz"
/-- a name -/
def isNm (x : Str) : Bool := (decide (1 ≤ (x.length : Int)) && decide ((x.length : Int) ≤ 8)) && x.cps.toList.all fun c => decide (c ∈ lettersS.cps.toList)
def isWd (x : Str) : Bool := isNm x || decide (x = "")
/-- rising, by the order of texts -/
abbrev ltS (a b : Str) : Bool := decide (a.cps.toList < b.cps.toList)
def ascB (l : List Str) : Bool := (l.zip (l.drop 1)).all fun p => ltS p.1 p.2
/-- all of them names -/
def allNm (l : List Str) : Bool := l.all isNm
abbrev Short (l : List Str) : Prop := l.length ≤ 1000 ∧ ∀ x ∈ l, x.length ≤ 1000

abbrev Rw := List (Nat × Str)
structure Mc where
  L : List Str
  R : List Rw
abbrev eP (p : Nat × Str) : PyData := .tuple [.int (p.1 : Int), .str p.2]
abbrev eR (r : Rw) : PyData := .tuple (r.map eP)
abbrev eL (l : List Str) : PyData := .tuple (l.map .str)
abbrev eM (M : Mc) : PyData := .tuple [.tuple (M.L.map .str), .tuple (M.R.map eR)]
/-- what every machine here is -/
structure Wf (M : Mc) : Prop where
  l0 : 0 < M.L.length
  l1 : M.L.length ≤ 10
  l2 : ∀ x ∈ M.L, x.length ≤ 10
  nd : M.L.Nodup
  nm : allNm M.L = true
  asc : ascB M.L = true
  r0 : 0 < M.R.length
  r1 : M.R.length ≤ 9
  rl : ∀ r ∈ M.R, r.length = M.L.length
  rn : ∀ r ∈ M.R, ∀ p ∈ r, p.1 < M.R.length
  sz : ∀ r ∈ M.R, ∀ p ∈ r, p.2.length ≤ 10
  wd : ∀ r ∈ M.R, ∀ p ∈ r, isWd p.2 = true
/-- a row's entry under a letter -/
def lookL (l : List Str) (r : Rw) (x : Str) : Nat × Str := (((l.zip r).find? fun p => decide (p.1 = x)).map (·.2)).getD (0, "")
def rs (M : Mc) (s : Nat) (x : Str) : Nat × Str := lookL M.L (M.R.getD s []) x
def runS (M : Mc) : List Str → Nat → Nat
  | [], s => s
  | x :: xs, s => runS M xs (rs M s x).1
def runW (M : Mc) : List Str → Nat → List Str
  | [], _ => []
  | x :: xs, s => (rs M s x).2 :: runW M xs (rs M s x).1
/-- states by their least pasts, in the order found -/
abbrev Ps := List (Nat × List Str)
def addP (past : List Str) (P : Ps) (c : Str × (Nat × Str)) : Ps := if c.2.1 ∈ P.map (·.1) then P else P ++ [(c.2.1, past ++ [c.1])]
def expandP (M : Mc) (P : Ps) (s : Nat) (past : List Str) : Ps := (M.L.zip (M.R.getD s [])).foldl (addP past) P
def bfs (M : Mc) : Nat → Nat → Ps → Ps
  | 0, _, P => P
  | n + 1, i, P => match P[i]? with
    | none => P
    | some c => bfs M n (i + 1) (expandP M P c.1 c.2)
def lp (M : Mc) : Ps := bfs M (M.R.length + 1) 0 [(0, [])]
def order (M : Mc) : List Nat := (lp M).map (·.1)
def relab (o : List Nat) (r : Rw) : Rw := r.map fun p => (o.idxOf p.1, p.2)
def walkedM (M : Mc) : Mc := ⟨M.L, (order M).map fun s => relab (order M) (M.R.getD s [])⟩
def mapW (f : Str → Str) (M : Mc) : Mc := ⟨M.L, M.R.map fun r => r.map fun p => (p.1, f p.2)⟩
def hush (ws : List Str) (x : Str) : Str := if x ∈ ws then "" else x
end K15

/-! part D2 -/
set_option Elab.async false
set_option linter.all false
set_option maxRecDepth 100000
set_option maxHeartbeats 1000000
namespace K15
open PySem PySem.Spec PyProof.Rows L2 RZ
def top (i : Nat) : Stmt := PySem.Challenge.pw_alwaysnew_k15_whole_other_names.main.body.getD i (.Pass ⟨0, 0, 0, 0⟩)
abbrev GC (mg : Str → Option Value) (x : Str) (v : V) : Prop := ∃ u, mg x = some u ∧ RelV v u
/-- what the top leaves: built-ins unbound, constants -/
structure Top (mg : Str → Option Value) : Prop where
  len_ : mg "len" = none
  all_ : mg "all" = none
  any_ : mg "any" = none
  isinstance_ : mg "isinstance" = none
  sorted_ : mg "sorted" = none
  max_ : mg "max" = none
  zip_ : mg "zip" = none
  enumerate_ : mg "enumerate" = none
  range_ : mg "range" = none
  super_ : mg "super" = none
  int_ : mg "int" = none
  bool_ : mg "bool" = none
  str_ : mg "str" = none
  tuple_ : mg "tuple" = none
  list_ : mg "list" = none
  dict_ : mg "dict" = none
  set_ : mg "set" = none
  LETTERS : GC mg "LETTERS" (.str "abcdefghijklmnopqrstuvwxyz")
  LONGEST_NAME : GC mg "LONGEST_NAME" (.int 8)
  SILENT : GC mg "SILENT" (.str "")
  NOTHING_WORD : GC mg "NOTHING_WORD" (.str "-")
  DIGITS : GC mg "DIGITS" (.str "0123456789")
  MOST_DIGITS : GC mg "MOST_DIGITS" (.int 60)
/-- a def of the top as it stands -/
structure Fn (K : PySem.W.Frag) (mg : Str → Option Value) (x nm : Str) (st : Stmt) : Prop where
  ex : ∃ (f : Addr) (fd : FuncData), mg x = some (.ref f) ∧ FunD K nm nm (defArgs st) (defBody st) (defScope st) [] [] f fd
/-- a pure def: data in, data out -/
def spQ {I : Type} (K : PySem.W.Frag) (pre : I → Prop) (arg : I → List PyData) (res : I → PyData) : Sp := fun vs H Q _ => ∃ i, pre i ∧ DtAll K H vs (arg i) ∧ ∀ v H', Same H H' → Dt K H' v (res i) → Q v H'
section
variable {P : Program} {w : World} {K : PySem.W.Frag} {mg : Str → Option Value} {base : Heap}
theorem evd_c1 {I : Type} {pre : I → Prop} {arg : I → List PyData} {res : I → PyData} {σ : L2.St} {H : Hp} {t : TA} (i : I) (hp : pre i) (h : EvA K t σ H (arg i)) : EvD K (tCallR (spQ K pre arg res) t) σ H (res i) := fun H1 e Q q =>
  h H1 e _ fun vs H2 e2 h2 => ⟨i, hp, h2, fun v H3 e3 h3 => q v H3 (e2.trans e3) h3⟩
/-- a def, by a promise of any form -/
theorem df_any {k : Nat} {x nm : Str} {st : Stmt} {N ps : List Str} {sp : Sp} (F : Fn K mg x nm st) (S : FnScope N ps (defScope st))
    (hb : ∀ (kV doc pm : Value) (an : Option Addr) (cdv ct : Value) (us : List Value), us.length = ps.length → bindArgs (PySem.W.fnOf nm nm (defArgs st) (defBody st) (defScope st) .none kV doc pm an cdv ct) ⟨us, []⟩ = pure (ps.zip us))
    (len : ∀ vs H Q E, sp vs H Q E → vs.length = ps.length)
    (hbody : ∀ (f : Addr) (cdv : Value) (A : Around) (outer : List Env) (s : Shared) (H : Hp) (vs : List V) (Q : VK) (E : XK), Room k (A.deeper (envOfC nm (defScope st) s.heap.objs.size f cdv)) → sp vs H Q E →
      ∃ t, PSs (cxOf CX0 P w K mg base N nm (defScope st) f cdv A outer s H E).nox (defBody st) t ∧ t { nx := fun _ H' => Q .non H', rt := Q } (L2.start N vs) H) : Df P w K mg base (k + 1) x sp := by
  obtain ⟨f, fd, hm, G⟩ := F.ex
  exact df_of hm G S hb len fun cdv A outer s H vs Q E hr h => hbody f cdv A outer s H vs Q E hr h
theorem df_pure {I : Type} {pre : I → Prop} {arg : I → List PyData} {res : I → PyData} {k : Nat} {x nm : Str} {st : Stmt} {N ps : List Str} (F : Fn K mg x nm st) (S : FnScope N ps (defScope st))
    (hb : ∀ (kV doc pm : Value) (an : Option Addr) (cdv ct : Value) (us : List Value), us.length = ps.length → bindArgs (PySem.W.fnOf nm nm (defArgs st) (defBody st) (defScope st) .none kV doc pm an cdv ct) ⟨us, []⟩ = pure (ps.zip us))
    (len : ∀ i, (arg i).length = ps.length)
    (hbody : ∀ (i : I) (f : Addr) (cdv : Value) (A : Around) (outer : List Env) (s : Shared) (H : Hp) (σ : L2.St) (E : XK), pre i → At K (.of H) (startG N.length (arg i)) [] σ H → Room k (A.deeper (envOfC nm (defScope st) s.heap.objs.size f cdv)) →
      ∃ t, PSs (cxOf CX0 P w K mg base N nm (defScope st) f cdv A outer s H E).nox (defBody st) t ∧ ∀ Q : VK, (∀ v H', Same H H' → Dt K H' v (res i) → Q v H') → t { nx := fun _ H' => Q .non H', rt := Q } σ H) :
    Df P w K mg base (k + 1) x (spQ K pre arg res) := by
  refine df_any F S hb (fun vs H Q E ⟨i, _, h, _⟩ => by rw [h.length, len i]) fun f cdv A outer s H vs Q E hr h => ?_
  obtain ⟨i, hp, hv, q⟩ := h
  obtain ⟨t, a, b⟩ := hbody i f cdv A outer s H _ E hp (At.start hv) hr
  exact ⟨t, a, b Q q⟩
end
/-! ### steps by a word -/
local macro_rules | `(tactic| walk_at "ov") => `(tactic| first
  | with_reducible exact ov_eqS
  | with_reducible exact ov_eqI
  | with_reducible exact ov_neS
  | with_reducible exact ov_neI
  | with_reducible exact ov_neB
  | with_reducible exact ov_ltS
  | with_reducible exact ov_inS
  | with_reducible exact ov_I0 (fun _ => Dt.int _)
  | with_reducible exact ov_I0 (fun _ => Dt.bl _))
local macro_rules | `(tactic| walk_at "ev") => `(tactic| first
  | with_reducible exact evd_i
  | with_reducible exact evd_s
  | with_reducible exact evd_b
  | with_reducible exact evd_n
  | ((with_reducible refine' evd_var (by assumption) ?hv); (case hv => rfl))
  | with_reducible assumption
  | ((with_reducible refine' evd_op ?ha ?hb ?hr); (case ha => walk_at "ev"); (case hb => walk_at "ev"); (case hr => walk_at "ov"))
  | ((with_reducible refine' evd_and ?ha (fun hc => ?hb)); (case ha => walk_at "ev"); (case hb => walk_at "ev"))
  | ((with_reducible refine' evd_or ?ha (fun hc => ?hb)); (case ha => walk_at "ev"); (case hb => walk_at "ev"))
  | ((with_reducible refine' evd_not ?ha); (case ha => walk_at "ev"))
  | ((with_reducible refine' evd_isi ?ha ?hb); (case ha => walk_at "ev"); (case hb => first | exact kb_ii | exact kb_ib | exact kb_ss | exact kb_tt))
  | ((with_reducible refine' evd_tup ?ha ?hb); (case ha => walk_at "ea"); (case hb => first | decide | (simp only [List.length_cons, List.length_nil]; omega)))
  | ((with_reducible refine' evd_chain ?ha ?hb ?hc ?h1 ?h2); (case ha => walk_at "ev"); (case hb => walk_at "ev"); (case hc => walk_at "ev"); (case h1 => walk_at "ov"); (case h2 => walk_at "ov"))
  | ((with_reducible refine' evd_cb ?ha ?hb); (case ha => walk_at "ea"); (case hb => first | with_reducible exact cv_len | with_reducible exact cv_max2 | with_reducible exact cv_int1 | ((with_reducible refine' cv_lenS ?hz); (case hz => omega))))
  | ((with_reducible refine' evd_c1 _ ?hp ?ha); (case ha => walk_at "ea"); (case hp => first | exact True.intro | assumption | (show _ ≤ _; omega))))
local macro_rules | `(tactic| walk_at "ea") => `(tactic| first
  | with_reducible exact eva_nil
  | ((with_reducible refine' eva_cons ?ha ?hb); (case ha => walk_at "ev"); (case hb => walk_at "ea")))
local macro_rules | `(tactic| walk_at "et") => `(tactic| first
  | with_reducible assumption
  | ((with_reducible refine' evt_test ?ha); (case ha => walk_at "ev"))
  | ((with_reducible refine' evt_B ?ha); (case ha => walk_at "ev"))
  | ((with_reducible refine' evt_and ?ha (fun hc => ?hb)); (case ha => walk_at "et"); (case hb => walk_at "et"))
  | ((with_reducible refine' evt_or ?ha (fun hc => ?hb)); (case ha => walk_at "et"); (case hb => walk_at "et"))
  | ((with_reducible refine' evt_not ?ha); (case ha => walk_at "et")))

/-! ### kinds -/
section
variable {P : Program} {w : World} {K : PySem.W.Frag} {mg : Str → Option Value} {base : Heap}
abbrev s_is_integer : Stmt := top 14
theorem sc_is_integer : FnScope ["thing"] ["thing"] (defScope s_is_integer) := ⟨rfl, rfl, rfl, by decide +kernel, rfl, by decide +kernel, by decide +kernel⟩
abbrev SpIsInteger (K : PySem.W.Frag) : Sp := spQ K (fun _ : Int => True) (fun i => [.int i]) (fun _ => .bool true)
theorem df_is_integer (T : Top mg) (F : Fn K mg "is_integer" "is_integer" s_is_integer) : Df P w K mg base 1 "is_integer" (SpIsInteger K) := by
  refine df_pure F sc_is_integer (fun _ _ _ _ _ _ us hl => match us, hl with | [_], _ => rfl) (fun _ => rfl) (fun i f cdv A outer s H σ E _ a hr => ?_)
  refine ⟨_, (pss_one (ps_ret (pe_and (pe_callB (c_isi' K (by rfl)) (by rfl) T.isinstance_ (by decide +kernel) (pa_cons (pv 0) (pa_cons (pe_bltn (v := .ty "int") (by rfl) T.int_ (by decide +kernel) rfl) pa_nil))) (pe_one (pe_not (pe_callB (c_isi' K (by rfl)) (by rfl) T.isinstance_ (by decide +kernel) (pa_cons (pv 0) (pa_cons (pe_bltn (v := .ty "bool") (by rfl) T.bool_ (by decide +kernel) rfl) pa_nil)))))))), fun Q k => ?_⟩
  try dsimp only [List.map]
  refine' f_ret a ?h ?k
  case h => walk_at "ev"
  exact k
abbrev s_is_number : Stmt := top 15
theorem sc_is_number : FnScope ["thing"] ["thing"] (defScope s_is_number) := ⟨rfl, rfl, rfl, by decide +kernel, rfl, by decide +kernel, by decide +kernel⟩
abbrev SpIsNumber (K : PySem.W.Frag) : Sp := spQ K (fun _ : Int => True) (fun i => [.int i]) (fun i => .bool (decide (0 ≤ i)))
theorem df_is_number (T : Top mg) (F : Fn K mg "is_number" "is_number" s_is_number) (d_is_integer : Df P w K mg base 1 "is_integer" (SpIsInteger K)) : Df P w K mg base 2 "is_number" (SpIsNumber K) := by
  refine df_pure F sc_is_number (fun _ _ _ _ _ _ us hl => match us, hl with | [_], _ => rfl) (fun _ => rfl) (fun i f cdv A outer s H σ E _ a hr => ?_)
  refine ⟨_, (pss_one (ps_ret (pe_and (pe_d d_is_integer hr (by decide) rfl (pa_cons (pv 0) pa_nil)) (pe_one (pe_cmpR op_ge (pv 0) pe_int (nomark _)))))), fun Q k => ?_⟩
  try dsimp only [List.map]
  refine' f_ret a (evd_and (evd_c1 i True.intro ?h1) fun _ => ?h2) ?k
  case h1 => walk_at "ea"
  case h2 => walk_at "ev"
  exact k
abbrev s_is_name : Stmt := top 16
theorem sc_is_name : FnScope ["thing", "char"] ["thing"] (defScope s_is_name) := ⟨rfl, rfl, rfl, by decide +kernel, rfl, by decide +kernel, by decide +kernel⟩
abbrev SpIsName (K : PySem.W.Frag) : Sp := spQ K (fun x : Str => x.length ≤ 1000) (fun x => [.str x]) (fun x => .bool (isNm x))
theorem df_is_name (T : Top mg) (F : Fn K mg "is_name" "is_name" s_is_name) : Df P w K mg base 1 "is_name" (SpIsName K) := by
  refine df_pure F sc_is_name (fun _ _ _ _ _ _ us hl => match us, hl with | [_], _ => rfl) (fun _ => rfl) (fun x f cdv A outer s H σ E hx a hr => ?_)
  refine ⟨_, (pss_cons (ps_if (PW.pt (pw_or (pt_not (pt_val (pe_callB (c_isi' K (by rfl)) (by rfl) T.isinstance_ (by decide +kernel) (pa_cons (pv 0) (pa_cons (pe_bltn (v := .ty "str") (by rfl) T.str_ (by decide +kernel) rfl) pa_nil))))) (pw_or1 (pt_not (pt_chain op_le op_le pe_int (pe_callB c_lenS (by rfl) T.len_ (by decide +kernel) (pa_cons (pv 0) pa_nil)) (C8.pe_gc rfl T.LONGEST_NAME)))))) (pss_one (ps_ret pe_bl)) pss_nil)
      (pss_one (ps_ret (pe_callB (c_all' K (by rfl) rfl) (by rfl) T.all_ (by decide +kernel) (pa_cons (pe_lc (own := [("char", 1)]) rfl sc_is_name.nd (pi_str (pv 0)) (blkOk_by (N := ["thing", "char"]) (sc := defScope s_is_name) (by decide +kernel)) (fun _ _ _ _ _ => by exact (pg_name (i := 1) sc_is_name.nd rfl (by first | exact Or.inl rfl | exact Or.inr rfl))) (fun _ _ _ _ _ => pts_nil) (fun _ _ _ _ _ => by exact (pe_cmpR o_inS (pv 1) (C8.pe_gc rfl T.LETTERS) (by rfl)))) pa_nil))))), fun Q k => ?_⟩
  try dsimp only [List.map]
  refine' q_when a ?ht (fun hb H1 a1 => ?_) (fun hb H1 a1 => ?_)
  case ht => walk_at "et"
  · refine f_ret a1 evd_b fun v H2 e2 hv => k v H2 e2 ?_
    have e0 : isNm x = false := by
      unfold isNm
      simp only [Bool.not_true, Bool.false_or, Bool.not_eq_true'] at hb
      rw [hb]
      rfl
    show Dt K H2 v (.bool (isNm x))
    rw [e0]
    exact hv
  · simp only [Bool.not_true, Bool.false_or, Bool.not_eq_false'] at hb
    refine' f_ret a1 (evd_all (p := fun c => decide (c ∈ lettersS.cps.toList)) (evl_lcn (l := x.cps.toList) (en := fun c => .str ⟨#[c]⟩) _ a1 (src_str ?h1) ?h2 ?h3 fun c σ' H2 hm a2 => ?h4)) fun v H2 e2 hv => k v H2 e2 ?h5
    case h1 => walk_at "ev"
    case h2 =>
      rw [Array.length_toList]
      exact Nat.le_trans (show x.length ≤ 1000 from hx) (by decide)
    case h3 => decide
    case h4 => walk_at "ev"
    case h5 =>
      have e0 : isNm x = x.cps.toList.all fun c => decide (c ∈ lettersS.cps.toList) := by
        unfold isNm
        rw [hb]
        rfl
      show Dt K H2 v (.bool (isNm x))
      rw [e0]
      exact hv
abbrev s_is_word : Stmt := top 17
theorem sc_is_word : FnScope ["thing"] ["thing"] (defScope s_is_word) := ⟨rfl, rfl, rfl, by decide +kernel, rfl, by decide +kernel, by decide +kernel⟩
abbrev SpIsWord (K : PySem.W.Frag) : Sp := spQ K (fun x : Str => x.length ≤ 1000) (fun x => [.str x]) (fun x => .bool (isWd x))
theorem df_is_word (T : Top mg) (F : Fn K mg "is_word" "is_word" s_is_word) (d_is_name : Df P w K mg base 1 "is_name" (SpIsName K)) : Df P w K mg base 2 "is_word" (SpIsWord K) := by --W
  refine df_pure F sc_is_word (fun _ _ _ _ _ _ us hl => match us, hl with | [_], _ => rfl) (fun _ => rfl) (fun x f cdv A outer s H σ E hx a hr => ?_)
  refine ⟨_, (pss_one (ps_ret (pe_or (pe_d d_is_name hr (by decide) rfl (pa_cons (pv 0) pa_nil)) (pe_one (pe_and (pe_callB (c_isi' K (by rfl)) (by rfl) T.isinstance_ (by decide +kernel) (pa_cons (pv 0) (pa_cons (pe_bltn (v := .ty "str") (by rfl) T.str_ (by decide +kernel) rfl) pa_nil))) (pe_one (pe_cmpR op_eq (pv 0) pe_str (nomark _)))))))), fun Q k => ?_⟩
  try dsimp only [List.map]
  refine' f_ret a ?h fun v H' e hv => k v H' e ?h2
  case h => walk_at "ev"
  case h2 => exact hv
abbrev s_is_ascending : Stmt := top 18
theorem sc_is_ascending : FnScope ["values", "one", "other"] ["values"] (defScope s_is_ascending) := ⟨rfl, rfl, rfl, by decide +kernel, rfl, by decide +kernel, by decide +kernel⟩
abbrev SpIsAscending (K : PySem.W.Frag) : Sp := spQ K (fun l : List Str => l.length ≤ 1000) (fun l => [.tuple (l.map .str)]) (fun l => .bool (ascB l))
theorem df_is_ascending (T : Top mg) (F : Fn K mg "is_ascending" "is_ascending" s_is_ascending) : Df P w K mg base 1 "is_ascending" (SpIsAscending K) := by
  refine df_pure F sc_is_ascending (fun _ _ _ _ _ _ us hl => match us, hl with | [_], _ => rfl) (fun _ => rfl) (fun l f cdv A outer s H σ E hx a hr => ?_)
  refine ⟨_, (pss_one (ps_ret (pe_callB (c_all' K (by rfl) rfl) (by rfl) T.all_ (by decide +kernel) (pa_cons (pe_lc (own := [("one", 1), ("other", 2)]) rfl sc_is_ascending.nd (pi_zipA' K (by rfl) (by rfl) T.zip_ (pa_cons (pv 0) (pa_cons (pe_slice (sl_tupA' K (by rfl)) (pv 0) (po_some pe_int) po_none) pa_nil))) (blkOk_by (N := ["values", "one", "other"]) (sc := defScope s_is_ascending) (by decide +kernel)) (fun _ _ _ _ _ => by exact (pg_pair K (by rfl) (i := 1) (j := 2) rfl sc_is_ascending.nd rfl rfl (by first | exact Or.inl rfl | exact Or.inr rfl) (by first | exact Or.inl rfl | exact Or.inr rfl) (by first | exact Or.inl rfl | exact Or.inr rfl) (by first | exact Or.inl rfl | exact Or.inr rfl))) (fun _ _ _ _ _ => pts_nil) (fun _ _ _ _ _ => by exact (pe_cmpR o_ltS (pv 1) (pv 2) (nomark _)))) pa_nil)))), fun Q k => ?_⟩
  try dsimp only [List.map]
  have e0 : ((l.map PyData.str).zip ((l.map PyData.str).drop 1)).map (fun p => PyData.tuple [p.1, p.2]) = (l.zip (l.drop 1)).map fun p => .tuple [.str p.1, .str p.2] := by
    rw [← List.map_drop, List.zip_map, List.map_map]
    rfl
  refine' f_ret a (evd_all (p := fun p : Str × Str => ltS p.1 p.2) (evl_lcp (l := l.zip (l.drop 1)) (f1 := fun p => .str p.1) (f2 := fun p => .str p.2) _ a ?h1 ?h2 ?h3 ?h4 fun p σ' H2 hm a2 => ?h5)) k
  case h1 =>
    rw [← e0]
    exact src_zipT (eva_cons (evd_var a rfl) (eva_cons (evd_sl1 (evd_var a rfl)) eva_nil))
  case h2 =>
    rw [List.length_zip]
    exact Nat.le_trans (Nat.min_le_left _ _) (Nat.le_trans (show l.length ≤ 1000 from hx) (by decide))
  case h3 => decide
  case h4 => decide
  case h5 => walk_at "ev"
abbrev s_is_reading : Stmt := top 19
theorem sc_is_reading : FnScope ["thing", "one"] ["thing"] (defScope s_is_reading) := ⟨rfl, rfl, rfl, by decide +kernel, rfl, by decide +kernel, by decide +kernel⟩
abbrev SpIsReading (K : PySem.W.Frag) : Sp := spQ K Short (fun l => [.tuple (l.map .str)]) (fun l => .bool (allNm l))
theorem df_is_reading (T : Top mg) (F : Fn K mg "is_reading" "is_reading" s_is_reading) (d_is_name : Df P w K mg base 1 "is_name" (SpIsName K)) : Df P w K mg base 2 "is_reading" (SpIsReading K) := by
  refine df_pure F sc_is_reading (fun _ _ _ _ _ _ us hl => match us, hl with | [_], _ => rfl) (fun _ => rfl) (fun l f cdv A outer s H σ E hx a hr => ?_)
  refine ⟨_, (pss_one (ps_ret (pe_and (pe_callB (c_isi' K (by rfl)) (by rfl) T.isinstance_ (by decide +kernel) (pa_cons (pv 0) (pa_cons (pe_bltn (v := .ty "tuple") (by rfl) T.tuple_ (by decide +kernel) rfl) pa_nil))) (pe_one (pe_callB (c_all' K (by rfl) rfl) (by rfl) T.all_ (by decide +kernel) (pa_cons (pe_lc (own := [("one", 1)]) rfl sc_is_reading.nd (pi_tup' K (by rfl) (pv 0)) (blkOk_by (N := ["thing", "one"]) (sc := defScope s_is_reading) (by decide +kernel)) (fun _ _ _ _ _ => by exact (pg_name (i := 1) sc_is_reading.nd rfl (by first | exact Or.inl rfl | exact Or.inr rfl))) (fun _ _ _ _ _ => pts_nil) (fun _ _ _ _ _ => by exact (pe_d d_is_name hr (by decide) rfl (pa_cons (pv 1) pa_nil)))) pa_nil)))))), fun Q k => ?_⟩
  try dsimp only [List.map]
  refine' f_ret a (evd_and (a := true) ?h0 fun _ => evd_all (p := isNm) (evl_lcn (l := l) (en := .str) _ a (src_tup ?h1) ?h2 ?h3 fun x σ' H2 hm a2 => ?h4)) k
  case h0 => walk_at "ev"
  case h1 => walk_at "ev"
  case h2 => exact Nat.le_trans hx.1 (by decide)
  case h3 => decide
  case h4 =>
    have h := hx.2 x hm
    walk_at "ev"
abbrev s_is_quiet : Stmt := top 20
theorem sc_is_quiet : FnScope ["thing"] ["thing"] (defScope s_is_quiet) := ⟨rfl, rfl, rfl, by decide +kernel, rfl, by decide +kernel, by decide +kernel⟩
abbrev SpIsQuiet (K : PySem.W.Frag) : Sp := spQ K Short (fun l => [.tuple (l.map .str)]) (fun l => .bool (allNm l && ascB l))
theorem df_is_quiet (T : Top mg) (F : Fn K mg "is_quiet" "is_quiet" s_is_quiet) (d_is_reading : Df P w K mg base 2 "is_reading" (SpIsReading K)) (d_is_ascending : Df P w K mg base 1 "is_ascending" (SpIsAscending K)) : Df P w K mg base 3 "is_quiet" (SpIsQuiet K) := by
  refine df_pure F sc_is_quiet (fun _ _ _ _ _ _ us hl => match us, hl with | [_], _ => rfl) (fun _ => rfl) (fun l f cdv A outer s H σ E hx a hr => ?_)
  refine ⟨_, (pss_one (ps_ret (pe_and (pe_d d_is_reading hr (by decide) rfl (pa_cons (pv 0) pa_nil)) (pe_one (pe_d d_is_ascending hr (by decide) rfl (pa_cons (pv 0) pa_nil)))))), fun Q k => ?_⟩
  try dsimp only [List.map]
  refine' f_ret a (evd_and (evd_c1 l hx ?h1) fun _ => evd_c1 l hx.1 ?h2) k
  case h1 => walk_at "ea"
  case h2 => walk_at "ea"
abbrev s_is_letters : Stmt := top 21
theorem sc_is_letters : FnScope ["thing"] ["thing"] (defScope s_is_letters) := ⟨rfl, rfl, rfl, by decide +kernel, rfl, by decide +kernel, by decide +kernel⟩
abbrev SpIsLetters (K : PySem.W.Frag) : Sp := spQ K Short (fun l => [.tuple (l.map .str)]) (fun l => .bool ((allNm l && ascB l) && decide (0 < (l.length : Int))))
theorem df_is_letters (T : Top mg) (F : Fn K mg "is_letters" "is_letters" s_is_letters) (d_is_quiet : Df P w K mg base 3 "is_quiet" (SpIsQuiet K)) : Df P w K mg base 4 "is_letters" (SpIsLetters K) := by
  refine df_pure F sc_is_letters (fun _ _ _ _ _ _ us hl => match us, hl with | [_], _ => rfl) (fun _ => rfl) (fun l f cdv A outer s H σ E hx a hr => ?_)
  refine ⟨_, (pss_one (ps_ret (pe_and (pe_d d_is_quiet hr (by decide) rfl (pa_cons (pv 0) pa_nil)) (pe_one (pe_cmpR op_gt (pe_callB (c_len' K (by rfl)) (by rfl) T.len_ (by decide +kernel) (pa_cons (pv 0) pa_nil)) pe_int (nomark _)))))), fun Q k => ?_⟩
  try dsimp only [List.map]
  refine' f_ret a (evd_and (evd_c1 l hx ?h1) fun _ => ?h2) fun v H' e hv => k v H' e ?h3
  case h1 => walk_at "ea"
  case h2 => walk_at "ev"
  case h3 =>
    rw [List.length_map] at hv
    exact hv
end
end K15

/-! part HA -/
set_option Elab.async false
set_option linter.all false
set_option maxRecDepth 100000
set_option maxHeartbeats 0
namespace K15
open PySem PySem.Spec PyProof.Rows L2
/-! ### what the top leaves, looked at -/
/-- an object that is told by a keyword's default -/
def quietAt (K : PySem.W.Frag) : Addr := match K.lookup (He.fAd K ("said", none)) with
  | some ⟨_, _, .func fd, _⟩ => (match fd.kwdefaults with
    | .ref D => (match PySem.W.nsIn K D "quiet" with
      | some (some (.ref a)) => a
      | _ => 0)
    | _ => 0)
  | _ => 0
def quietB (K : PySem.W.Frag) : Bool := match K.lookup (quietAt K) with
  | some ⟨.type c, _, .seq its _, _⟩ => decide (c = "tuple") && its.isEmpty
  | _ => false

def e_is_integer : He.DefD := ⟨("is_integer", none), "is_integer", "is_integer", defArgs (top 14), defBody (top 14), defScope (top 14), [], []⟩
def e_is_number : He.DefD := ⟨("is_number", none), "is_number", "is_number", defArgs (top 15), defBody (top 15), defScope (top 15), [], []⟩
def e_is_name : He.DefD := ⟨("is_name", none), "is_name", "is_name", defArgs (top 16), defBody (top 16), defScope (top 16), [], []⟩
def e_is_word : He.DefD := ⟨("is_word", none), "is_word", "is_word", defArgs (top 17), defBody (top 17), defScope (top 17), [], []⟩
def e_is_ascending : He.DefD := ⟨("is_ascending", none), "is_ascending", "is_ascending", defArgs (top 18), defBody (top 18), defScope (top 18), [], []⟩
def e_is_reading : He.DefD := ⟨("is_reading", none), "is_reading", "is_reading", defArgs (top 19), defBody (top 19), defScope (top 19), [], []⟩
def e_is_quiet : He.DefD := ⟨("is_quiet", none), "is_quiet", "is_quiet", defArgs (top 20), defBody (top 20), defScope (top 20), [], []⟩
def e_is_letters : He.DefD := ⟨("is_letters", none), "is_letters", "is_letters", defArgs (top 21), defBody (top 21), defScope (top 21), [], []⟩
def e_require_letters : He.DefD := ⟨("require_letters", none), "require_letters", "require_letters", defArgs (top 24), defBody (top 24), defScope (top 24), [], []⟩
def e_require_states : He.DefD := ⟨("require_states", none), "require_states", "require_states", defArgs (top 25), defBody (top 25), defScope (top 25), [], []⟩
def e_row_step : He.DefD := ⟨("row_step", none), "row_step", "row_step", defArgs (top 26), defBody (top 26), defScope (top 26), [], []⟩
def e_step : He.DefD := ⟨("step", none), "step", "step", defArgs (top 27), defBody (top 27), defScope (top 27), [], []⟩
def e_run : He.DefD := ⟨("run", none), "run", "run", defArgs (top 28), defBody (top 28), defScope (top 28), [], []⟩
def e_led : He.DefD := ⟨("led", none), "led", "led", defArgs (top 29), defBody (top 29), defScope (top 29), [], [("state", .int 0)]⟩
def e_said : He.DefD := ⟨("said", none), "said", "said", defArgs (top 30), defBody (top 30), defScope (top 30), [], [("state", .int 0), ("quiet", .adr quietAt)]⟩
def e_least_pasts : He.DefD := ⟨("least_pasts", none), "least_pasts", "least_pasts", defArgs (top 31), defBody (top 31), defScope (top 31), [], []⟩
def e_reached_states : He.DefD := ⟨("reached_states", none), "reached_states", "reached_states", defArgs (top 32), defBody (top 32), defScope (top 32), [], []⟩
def e_past_to : He.DefD := ⟨("past_to", none), "past_to", "past_to", defArgs (top 33), defBody (top 33), defScope (top 33), [], []⟩
def e_walked : He.DefD := ⟨("walked", none), "walked", "walked", defArgs (top 34), defBody (top 34), defScope (top 34), [], []⟩
def e_quieted : He.DefD := ⟨("quieted", none), "quieted", "quieted", defArgs (top 35), defBody (top 35), defScope (top 35), [], []⟩
def e_is_pair : He.DefD := ⟨("is_pair", none), "is_pair", "is_pair", defArgs (top 39), defBody (top 39), defScope (top 39), [], []⟩
def e_is_row : He.DefD := ⟨("is_row", none), "is_row", "is_row", defArgs (top 40), defBody (top 40), defScope (top 40), [], []⟩
def e_has_shape : He.DefD := ⟨("has_shape", none), "has_shape", "has_shape", defArgs (top 41), defBody (top 41), defScope (top 41), [], []⟩
def e_lets_machine : He.DefD := ⟨("lets_machine", none), "lets_machine", "lets_machine", defArgs (top 42), defBody (top 42), defScope (top 42), [], []⟩
def e_reading_text : He.DefD := ⟨("reading_text", none), "reading_text", "reading_text", defArgs (top 45), defBody (top 45), defScope (top 45), [], []⟩
def e_pair_word : He.DefD := ⟨("pair_word", none), "pair_word", "pair_word", defArgs (top 46), defBody (top 46), defScope (top 46), [], []⟩
def e_state_line : He.DefD := ⟨("state_line", none), "state_line", "state_line", defArgs (top 47), defBody (top 47), defScope (top 47), [], []⟩
def e_machine_text : He.DefD := ⟨("machine_text", none), "machine_text", "machine_text", defArgs (top 48), defBody (top 48), defScope (top 48), [], []⟩
def e_number_or_none : He.DefD := ⟨("number_or_none", none), "number_or_none", "number_or_none", defArgs (top 52), defBody (top 52), defScope (top 52), [], []⟩
def e_said_or_none : He.DefD := ⟨("said_or_none", none), "said_or_none", "said_or_none", defArgs (top 53), defBody (top 53), defScope (top 53), [], []⟩
def e_letters_or_none : He.DefD := ⟨("letters_or_none", none), "letters_or_none", "letters_or_none", defArgs (top 54), defBody (top 54), defScope (top 54), [], []⟩
def e_pair_or_none : He.DefD := ⟨("pair_or_none", none), "pair_or_none", "pair_or_none", defArgs (top 55), defBody (top 55), defScope (top 55), [], []⟩
def e_values_of : He.DefD := ⟨("values_of", none), "values_of", "values_of", defArgs (top 56), defBody (top 56), defScope (top 56), [], []⟩
def e_machine_read : He.DefD := ⟨("machine_read", none), "machine_read", "machine_read", defArgs (top 57), defBody (top 57), defScope (top 57), [], []⟩
def e__law_reader : He.DefD := ⟨("_law_reader", none), "_law_reader", "_law_reader", defArgs (top 69), defBody (top 69), defScope (top 69), [], []⟩
def e__law_draw : He.DefD := ⟨("_law_draw", none), "_law_draw", "_law_draw", defArgs (top 70), defBody (top 70), defScope (top 70), [], []⟩
def e__law_random_letters : He.DefD := ⟨("_law_random_letters", none), "_law_random_letters", "_law_random_letters", defArgs (top 71), defBody (top 71), defScope (top 71), [], []⟩
def e__law_random_machine : He.DefD := ⟨("_law_random_machine", none), "_law_random_machine", "_law_random_machine", defArgs (top 72), defBody (top 72), defScope (top 72), [], []⟩
def e__law_fixed_machines : He.DefD := ⟨("_law_fixed_machines", none), "_law_fixed_machines", "_law_fixed_machines", defArgs (top 73), defBody (top 73), defScope (top 73), [], []⟩
def e__law_readings : He.DefD := ⟨("_law_readings", none), "_law_readings", "_law_readings", defArgs (top 74), defBody (top 74), defScope (top 74), [], []⟩
def e__law_other_letters : He.DefD := ⟨("_law_other_letters", none), "_law_other_letters", "_law_other_letters", defArgs (top 75), defBody (top 75), defScope (top 75), [], []⟩
def e__law_other_words : He.DefD := ⟨("_law_other_words", none), "_law_other_words", "_law_other_words", defArgs (top 76), defBody (top 76), defScope (top 76), [], []⟩
def e__law_put : He.DefD := ⟨("_law_put", none), "_law_put", "_law_put", defArgs (top 77), defBody (top 77), defScope (top 77), [], []⟩
def e__law_check_letters : He.DefD := ⟨("_law_check_letters", none), "_law_check_letters", "_law_check_letters", defArgs (top 78), defBody (top 78), defScope (top 78), [], []⟩
def e__law_check_words : He.DefD := ⟨("_law_check_words", none), "_law_check_words", "_law_check_words", defArgs (top 79), defBody (top 79), defScope (top 79), [], []⟩
def e_law : He.DefD := ⟨("law", none), "law", "law", defArgs (top 80), defBody (top 80), defScope (top 80), [], []⟩
def e_require0 : He.DefD := ⟨("require_machinechecker", none), "require", "require", defArgs (top 37), defBody (top 37), defScope (top 37), [], []⟩
def e_require1 : He.DefD := ⟨("require_boxes", none), "require", "require", defArgs (top 59), defBody (top 59), defScope (top 59), [], []⟩
def e_Box___init__ : He.DefD := ⟨("Box", some "__init__"), "__init__", "Box.__init__", defArgs (inClass (top 61) 0), defBody (inClass (top 61) 0), defScope (inClass (top 61) 0), [], []⟩
def e_Box___call__ : He.DefD := ⟨("Box", some "__call__"), "__call__", "Box.__call__", defArgs (inClass (top 61) 7), defBody (inClass (top 61) 7), defScope (inClass (top 61) 7), [], []⟩
def e_Box___contains__ : He.DefD := ⟨("Box", some "__contains__"), "__contains__", "Box.__contains__", defArgs (inClass (top 61) 8), defBody (inClass (top 61) 8), defScope (inClass (top 61) 8), [], []⟩
def e_Box___eq__ : He.DefD := ⟨("Box", some "__eq__"), "__eq__", "Box.__eq__", defArgs (inClass (top 61) 13), defBody (inClass (top 61) 13), defScope (inClass (top 61) 13), [], []⟩
def defs0 : List He.DefD := [e_is_integer, e_is_number, e_is_name, e_is_word, e_is_ascending, e_is_reading, e_is_quiet, e_is_letters, e_require_letters, e_require_states, e_row_step, e_step]
def defs1 : List He.DefD := [e_run, e_led, e_said, e_least_pasts, e_reached_states, e_past_to, e_walked, e_quieted, e_is_pair, e_is_row, e_has_shape, e_lets_machine]
def defs2 : List He.DefD := [e_reading_text, e_pair_word, e_state_line, e_machine_text, e_number_or_none, e_said_or_none, e_letters_or_none, e_pair_or_none, e_values_of, e_machine_read, e__law_reader, e__law_draw]
def defs3 : List He.DefD := [e__law_random_letters, e__law_random_machine, e__law_fixed_machines, e__law_readings, e__law_other_letters, e__law_other_words, e__law_put, e__law_check_letters, e__law_check_words, e_law, e_require0, e_require1]
def defs4 : List He.DefD := [e_Box___init__, e_Box___call__, e_Box___contains__, e_Box___eq__]
def defs : List He.DefD := defs0 ++ defs1 ++ defs2 ++ defs3 ++ defs4
def facts0 : List He.Fa := [.glo "is_integer", .glo "is_number", .glo "is_name", .glo "is_word", .glo "is_ascending", .glo "is_reading", .glo "is_quiet", .glo "is_letters", .glo "require_letters", .glo "require_states", .glo "row_step", .glo "step"]
def facts1 : List He.Fa := [.glo "run", .glo "led", .glo "said", .glo "least_pasts", .glo "reached_states", .glo "past_to", .glo "walked", .glo "quieted", .glo "is_pair", .glo "is_row", .glo "has_shape", .glo "lets_machine"]
def facts2 : List He.Fa := [.glo "reading_text", .glo "pair_word", .glo "state_line", .glo "machine_text", .glo "number_or_none", .glo "said_or_none", .glo "letters_or_none", .glo "pair_or_none", .glo "values_of", .glo "machine_read", .glo "_law_reader", .glo "_law_draw"]
def facts3 : List He.Fa := [.glo "_law_random_letters", .glo "_law_random_machine", .glo "_law_fixed_machines", .glo "_law_readings", .glo "_law_other_letters", .glo "_law_other_words", .glo "_law_put", .glo "_law_check_letters", .glo "_law_check_words", .glo "law", .glo "require_machinechecker", .glo "require_boxes"]
def facts4 : List He.Fa := [.glo "Box", .glo "Renamed", .glo "Quiet", .free "len", .free "all", .free "any", .free "isinstance", .free "sorted", .free "max", .free "zip", .free "enumerate", .free "range"]
def facts5 : List He.Fa := [.free "super", .free "int", .free "bool", .free "str", .free "tuple", .free "list", .free "dict", .free "set", .str "LETTERS" "abcdefghijklmnopqrstuvwxyz", .str "SILENT" "", .str "NOTHING_WORD" "-", .str "DIGITS" "0123456789"]
def facts6 : List He.Fa := [.int "LONGEST_NAME" 8, .int "MOST_DIGITS" 60, .cls "Box", .noat "Box" "own_machine", .mkr "Box", .cls "Renamed", .noat "Renamed" "own_machine", .mkr "Renamed", .cls "Quiet", .noat "Quiet" "own_machine", .mkr "Quiet", .meth "Box" "__call__"]
def facts : List He.Fa := facts0 ++ facts1 ++ facts2 ++ facts3 ++ facts4 ++ facts5 ++ facts6
/-- a property's getter -/
def gAd (K : PySem.W.Frag) (C : Addr) (f : PySem.Str) : Addr := match PySem.W.recIn K (He.ma K C f) "property" with
  | some (.ref g :: _) => g
  | _ => 0
def propB (K : PySem.W.Frag) (x f : PySem.Str) : Bool := He.eqO (PySem.W.findIn K (.ref (He.ga K x)) f) (some (some (.ref (He.ma K (He.ga K "Box") f)))) && (He.eqO (PySem.W.specialIn K (.ref (He.ma K (He.ga K "Box") f)) "__get__") (some (some (.builtin "property.__get__"))) && (decide (PySem.W.takesIn K (.ref (He.ma K (He.ga K "Box") f)) = some true) && (match PySem.W.recIn K (He.ma K (He.ga K "Box") f) "property" with
  | some (.ref _ :: _) => true
  | _ => false)))
/-- a def as it stands at an address, the names of its cells -/
abbrev FnY : Type := Option (PySem.Str × PySem.Str × Arguments × FuncBody × Scope × Addr × List PySem.Str × Value × Addr)
def fnY (K : PySem.W.Frag) (a : Addr) : FnY := match K.lookup a with
  | some ⟨_, _, .func fd, _⟩ => some (fd.name, fd.qualname, fd.params, fd.body, fd.scope, fd.globals, fd.closure.map (·.1), fd.defaults, fd.builtins)
  | _ => none
structure DefY where
  at_ : PySem.W.Frag → Addr
  name : PySem.Str
  qual : PySem.Str
  st : Stmt
  cl : List PySem.Str
def DefY.val (d : DefY) : FnY := some (d.name, d.qual, defArgs d.st, .stmts (defBody d.st), defScope d.st, mainGlobals, d.cl, .none, builtinsNs)
def y_machine : DefY := ⟨fun K => gAd K (He.ga K "Box") "machine", "machine", "Box.machine", inClass (top 61) 3, []⟩
def y_letters : DefY := ⟨fun K => gAd K (He.ga K "Box") "letters", "letters", "Box.letters", inClass (top 61) 4, []⟩
def y_Renamed : DefY := ⟨fun K => He.ma K (He.ga K "Renamed") "__init__", "__init__", "Renamed.__init__", inClass (top 66) 0, ["__class__"]⟩
def y_Quiet : DefY := ⟨fun K => He.ma K (He.ga K "Quiet") "__init__", "__init__", "Quiet.__init__", inClass (top 67) 0, ["__class__"]⟩
def defY : List DefY := [y_machine, y_letters, y_Renamed, y_Quiet]
def codeB (K : PySem.W.Frag) (d : DefY) : Bool := PySem.W.keepIn K (.ref (d.at_ K)) && (match K.lookup (d.at_ K) with
  | some ⟨_, _, .func fd, _⟩ => PySem.W.codeIn K fd.code d.qual
  | _ => false)
/-- the file of an __init__ that says super().__init__, its cell, its class -/
def superB (K : PySem.W.Frag) (x : PySem.Str) : Bool := (match K.lookup (He.ma K (He.ga K x) "__init__") with
  | some ⟨_, _, .func fd, _⟩ => (match fd.closure with
    | [(_, cc)] => (match K.lookup cc with
      | some ⟨_, _, .cell (some (.ref D)), _⟩ => decide (D = He.ga K x)
      | _ => false)
    | _ => false) && (match fd.code with
      | .ref c => (match K.lookup c with
        | some ⟨_, _, .fields vs, _⟩ => (match (vs[2]? : Option Value) with
          | some (.str file _) => PySem.Challenge.pw_alwaysnew_k15_whole_other_names.main.file == file
          | _ => false)
        | _ => false)
      | _ => false)
  | _ => false) && ((PySem.W.clsIn K (He.ga K x)).isSome && (decide (PySem.W.mroIn K (He.ga K x) (.ref (He.ga K x)) = some true) && He.eqO (PySem.W.ks_superIn K (He.ga K x) (He.ga K x) "__init__") (some (some (.ref (He.ma K (He.ga K "Box") "__init__"))))))
def neB (K : PySem.W.Frag) (x : PySem.Str) : Bool := He.eqO (PySem.W.findIn K (.ref (He.ga K x)) "__ne__") (some (some (.builtin "object.__ne__"))) && (He.eqO (PySem.W.findIn K (.ref (He.ga K x)) "__eq__") (some (some (.ref (He.ma K (He.ga K "Box") "__eq__")))) && (decide (PySem.W.subIn K (.ref (He.ga K x)) (.type "object") = some true) && PySem.W.notFirst K (He.ga K x) (.ref (He.ga K "Box"))))
def insB (K : PySem.W.Frag) : Bool := He.eqO (PySem.W.findIn K (.ref (He.ga K "Box")) "__class__") (some (some (.builtin "object.__class__"))) && (He.eqO (PySem.W.specialIn K (.builtin "object.__class__") "__get__") (some (some (.builtin "getset_descriptor.__get__"))) && (decide (PySem.W.takesIn K (.builtin "object.__class__") = some true) && (decide (PySem.W.mroIn K (He.ga K "Box") (.type "object") = some true) && decide (PySem.W.kitOne K (.ref (He.ga K "Box")) (.ref (He.ga K "Box")) = some true))))
def contB (K : PySem.W.Frag) (x : PySem.Str) : Bool := He.eqO (PySem.W.findIn K (.ref (He.ga K x)) "__contains__") (some (some (.ref (He.ma K (He.ga K "Box") "__contains__"))))
def moreL (K : PySem.W.Frag) : List Bool := [quietB K, propB K "Box" "machine", propB K "Box" "letters", propB K "Renamed" "machine", propB K "Renamed" "letters", codeB K y_machine, codeB K y_letters, codeB K y_Renamed, codeB K y_Quiet, superB K "Renamed", superB K "Quiet", neB K "Renamed", neB K "Quiet", insB K, contB K "Box", contB K "Renamed",
  PySem.W.isFn K (.ref (He.ma K (He.ga K "Box") "__contains__")), PySem.W.isFn K (.ref (He.ma K (He.ga K "Box") "__eq__")), PySem.W.fnIn K (He.ma K (He.ga K "Box") "__call__"), decide (PySem.W.typeIn K (.ref (He.ma K (He.ga K "Box") "__init__")) = some (.type "function")), PySem.W.fnIn K (He.ma K (He.ga K "Box") "__init__"), He.eqO (PySem.W.nsIn K cStatics "thirdparty.any") (some none)]
def renAt : He.Defn := ("Renamed", some "__init__")
def tabK (g : Addr → Option Obj) (K : PySem.W.Frag) : Bool := PySem.W.codeHdIn K (He.cT K renAt).1 (He.cT K renAt).2 && (match g (He.cT K renAt).2 with
  | some o => He.emptyTab o
  | none => false)
/-- the objects that are looked at -/
def refsL (g : Addr → Option Obj) (as : List Addr) : List Addr := as.flatMap fun a => match g a with
  | some o => He.refsD o
  | none => []
def nsOf (g : Addr → Option Obj) (C : Addr) : List Addr := match g C with
  | some ⟨_, _, .cls cd, _⟩ => [cd.ns]
  | _ => []
def asN (g : Addr → Option Obj) (K : PySem.W.Frag) : List Addr := nsOf g (He.ga K "Box") ++ (nsOf g (He.ga K "Renamed") ++ nsOf g (He.ga K "Quiet"))
def as3 (g : Addr → Option Obj) : List Addr := refsL g (asN g (He.frG g [mainGlobals]))
def as4 (g : Addr → Option Obj) : List Addr := refsL g (as3 g)
def asK (g : Addr → Option Obj) : List Addr := cStatics :: mainGlobals :: (refsL g [mainGlobals] ++ (refsL g (refsL g [mainGlobals]) ++ (as3 g ++ (as4 g ++ (refsL g (as4 g) ++ refsL g (refsL g [He.ga (He.frG g [mainGlobals]) "said"]))))))
def frK (g : Addr → Option Obj) : PySem.W.Frag := He.frT g (asK g)
abbrev AlK : Type := He.AlD × (List Bool × List FnY)
def obsK (g : Addr → Option Obj) (K : PySem.W.Frag) : AlK := (He.obsD facts defs K, (tabK g K :: moreL K, defY.map fun d => fnY K (d.at_ K)))
def valK : AlK := (He.valD defs, (List.replicate 23 true, defY.map DefY.val))
/-- what the end leans on -/
structure SaysK (h : Heap) (K : PySem.W.Frag) : Prop where
  kin : K.In h
  obs : ∃ g : Addr → Option Obj, (∀ a o, g a = some o → h.get? a = some o) ∧ obsK g K = valK
  out : K.lookup (He.cT K renAt).2 = none
def hookK : PySem.W.Hook where
  α := AlK
  obs := fun s => obsK s.heap.get? (frK s.heap.get?)
  val := fun _ => valK
  says := fun _ h => ∃ K : PySem.W.Frag, SaysK h K
  of := fun _ s e => ⟨_, He.frT_in, ⟨s.heap.get?, fun _ _ z => z, e⟩, by
    have e1 : tabK s.heap.get? (frK s.heap.get?) = true := by
      have := congrArg (fun z : AlK => z.2.1.head?) e
      exact Option.some.inj this
    obtain ⟨_, e2⟩ := He.ba e1
    cases q : s.heap.get? (He.cT (frK s.heap.get?) renAt).2 with
    | none => rw [q] at e2; cases e2
    | some o =>
      rw [q] at e2
      exact He.frT_none q e2⟩
  keeps := fun _ _ _ ⟨K, c⟩ k => ⟨K, PySem.W.Frag.In.keeps c.kin k, let ⟨g, h1, h2⟩ := c.obs; ⟨g, fun a o z => k _ _ (h1 a o z), h2⟩, c.out⟩
def obK (s : PySem.W.SharedT) : AlK := obsK (HandSHeadRun.getT s) (frK (HandSHeadRun.getT s))
theorem obK_eq (s : PySem.W.SharedT) : obK s = hookK.obs s.abs := by
  have e : HandSHeadRun.getT s = s.abs.heap.get? := funext (HandSHeadRun.getT_eq s)
  unfold obK
  rw [e]
  rfl
abbrev RowK : PySem.W.OpenRow := PySem.W.OpenLaw.row PySem.Challenge.rw_alwaysnew_k15_whole_other_names
def loose0 : List PySem.Str := ["_wall", "NewError", "PaperError", "MachineError", "TextError", "InvalidPaper", "InvalidLetter", "InvalidState", "InvalidBox", "InvalidText", "LETTERS", "LONGEST_NAME"]
def loose1 : List PySem.Str := ["is_integer", "is_number", "is_name", "is_word", "is_ascending", "is_reading", "is_quiet", "is_letters", "SILENT", "require_letters", "require_states", "row_step"]
def loose2 : List PySem.Str := ["step", "run", "led", "said", "least_pasts", "reached_states", "past_to", "walked", "quieted", "require", "require_machinechecker", "is_pair"]
def loose3 : List PySem.Str := ["is_row", "has_shape", "lets_machine", "NOTHING_WORD", "reading_text", "pair_word", "state_line", "machine_text", "DIGITS", "MOST_DIGITS", "number_or_none", "said_or_none"]
def loose4 : List PySem.Str := ["letters_or_none", "pair_or_none", "values_of", "machine_read", "require_boxes", "Box", "words_in", "line_step", "line_machine", "Line", "Renamed", "Quiet"]
def loose5 : List PySem.Str := ["_law_reader", "_law_draw", "_law_random_letters", "_law_random_machine", "_law_fixed_machines", "_law_readings", "_law_other_letters", "_law_other_words", "_law_put", "_law_check_letters", "_law_check_words"]
def loose : List PySem.Str := loose0 ++ loose1 ++ loose2 ++ loose3 ++ loose4 ++ loose5
end K15

/-! part HR -/
set_option Elab.async false
set_option linter.all false
set_option maxRecDepth 100000
set_option maxHeartbeats 0
namespace K15
open PySem PySem.Spec PyProof.Rows L2
theorem runK (w : World) : HandSHeadRun.RunEq RowK (PySem.W.view RowK.prog [80]) hookK obK 6000 loose w := by
  intro os
  kernel_rfl
end K15

/-! part M1 -/
set_option Elab.async false
set_option linter.all false
set_option maxRecDepth 100000
set_option maxHeartbeats 1000000
namespace K15
open PySem
theorem lookL_cons {a : Str} {l : List Str} {p : Nat × Str} {r : Rw} {x : Str} : lookL (a :: l) (p :: r) x = if a = x then p else lookL l r x := by
  unfold lookL
  rw [List.zip_cons_cons, List.find?_cons]
  by_cases h : a = x
  · simp [h]
  · simp [h]
theorem lookL_mem {x : Str} : ∀ {l : List Str} {r : Rw}, r.length = l.length → x ∈ l → lookL l r x ∈ r
  | [], _, _, h => nomatch h
  | a :: l, [], e, _ => nomatch e
  | a :: l, p :: r, e, h => by
    rw [lookL_cons]
    by_cases c : a = x
    · rw [if_pos c]
      exact List.mem_cons_self ..
    · rw [if_neg c]
      exact List.mem_cons_of_mem _ (lookL_mem (Nat.succ.inj e) ((List.mem_cons.mp h).resolve_left fun z => c z.symm))
theorem Wf.row {M : Mc} (hw : Wf M) {s : Nat} (hs : s < M.R.length) : M.R.getD s [] ∈ M.R := by
  rw [List.getD_eq_getElem?_getD, List.getElem?_eq_getElem hs]
  exact List.getElem_mem hs
theorem Wf.rs_mem {M : Mc} (hw : Wf M) {s : Nat} (hs : s < M.R.length) {x : Str} (hx : x ∈ M.L) : rs M s x ∈ M.R.getD s [] := lookL_mem (hw.rl _ (hw.row hs)) hx
theorem Wf.rs_lt {M : Mc} (hw : Wf M) {s : Nat} (hs : s < M.R.length) {x : Str} (hx : x ∈ M.L) : (rs M s x).1 < M.R.length := hw.rn _ (hw.row hs) _ (hw.rs_mem hs hx)
theorem runS_snoc (M : Mc) (x : Str) : ∀ (l : List Str) (s : Nat), runS M (l ++ [x]) s = (rs M (runS M l s) x).1
  | [], s => rfl
  | y :: l, s => runS_snoc M x l _
theorem runW_snoc (M : Mc) (x : Str) : ∀ (l : List Str) (s : Nat), runW M (l ++ [x]) s = runW M l s ++ [(rs M (runS M l s) x).2]
  | [], s => rfl
  | y :: l, s => congrArg (List.cons _) (runW_snoc M x l _)
theorem Wf.runS_lt {M : Mc} (hw : Wf M) : ∀ {l : List Str} {s : Nat}, s < M.R.length → (∀ x ∈ l, x ∈ M.L) → runS M l s < M.R.length
  | [], s, h, _ => h
  | x :: l, s, h, hx => hw.runS_lt (l := l) (hw.rs_lt h (hx x (List.mem_cons_self ..))) fun y hy => hx y (List.mem_cons_of_mem _ hy)
theorem runW_length (M : Mc) : ∀ (l : List Str) (s : Nat), (runW M l s).length = l.length
  | [], _ => rfl
  | x :: l, s => congrArg Nat.succ (runW_length M l _)
theorem take_snoc {α : Type} {l : List α} {i : Nat} {x : α} (h : l[i]? = some x) : l.take (i + 1) = l.take i ++ [x] := by
  rw [List.take_add_one, h]
  rfl
/-- new keys only, each below n -/
structure PInv (n : Nat) (P : Ps) : Prop where
  nd : (P.map (·.1)).Nodup
  lt : ∀ c ∈ P, c.1 < n
theorem nodup_le : ∀ (n : Nat) (l : List Nat), l.Nodup → (∀ x ∈ l, x < n) → l.length ≤ n
  | 0, [], _, _ => Nat.le_refl _
  | 0, x :: l, _, h => absurd (h x (List.mem_cons_self ..)) (Nat.not_lt_zero _)
  | n + 1, l, nd, h => by
    have h1 := nodup_le n (l.filter (· ≠ n)) (nd.filter _) fun x hx => by
      obtain ⟨a, b⟩ := List.mem_filter.mp hx
      have := h x a
      have : x ≠ n := by simpa using b
      omega
    have h2 : (l.filter (· = n)).length ≤ 1 := by
      have nd2 := nd.filter (· = n)
      generalize hl : l.filter (· = n) = m at nd2
      match m, nd2, hl with
      | [], _, _ => simp
      | [_], _, _ => simp
      | a :: b :: m, nd2, hl =>
        have ha : a = n := by
          have : a ∈ l.filter (· = n) := by rw [hl]; simp
          simpa using (List.mem_filter.mp this).2
        have hb : b = n := by
          have : b ∈ l.filter (· = n) := by rw [hl]; simp
          simpa using (List.mem_filter.mp this).2
        rw [ha, hb] at nd2
        simp at nd2
    have h3 : l.length = (l.filter (· = n)).length + (l.filter (· ≠ n)).length := by
      have := List.length_eq_countP_add_countP (p := fun x => decide (x = n)) (l := l)
      rw [List.countP_eq_length_filter, List.countP_eq_length_filter] at this
      simpa using this
    omega
theorem PInv.len {n : Nat} {P : Ps} (h : PInv n P) : P.length ≤ n := by
  have := nodup_le n (P.map (·.1)) h.nd fun x hx => by
    obtain ⟨c, hc, rfl⟩ := List.mem_map.mp hx
    exact h.lt c hc
  rwa [List.length_map] at this
theorem PInv.add {n : Nat} {P : Ps} {past : List Str} {c : Str × (Nat × Str)} (h : PInv n P) (hc : c.2.1 < n) : PInv n (addP past P c) := by
  unfold addP
  split
  · exact h
  · next hn =>
    refine ⟨?_, fun d hd => ?_⟩
    · rw [List.map_append]
      refine List.nodup_append.mpr ⟨h.nd, by simp, fun a ha b hb e => ?_⟩
      have : b = c.2.1 := by simpa using hb
      exact hn (this ▸ e ▸ ha)
    · rcases List.mem_append.mp hd with hd | hd
      · exact h.lt d hd
      · have : d = (c.2.1, past ++ [c.1]) := by simpa using hd
        rw [this]
        exact hc
theorem PInv.fold {n : Nat} {past : List Str} : ∀ {l : List (Str × (Nat × Str))} {P : Ps}, PInv n P → (∀ c ∈ l, c.2.1 < n) → PInv n (l.foldl (addP past) P)
  | [], _, h, _ => h
  | c :: l, _, h, hl => PInv.fold (l := l) (h.add (hl c (List.mem_cons_self ..))) fun d hd => hl d (List.mem_cons_of_mem _ hd)
theorem Wf.zip_lt {M : Mc} (hw : Wf M) {s : Nat} (hs : s < M.R.length) : ∀ c ∈ M.L.zip (M.R.getD s []), c.2.1 < M.R.length := fun c hc => hw.rn _ (hw.row hs) _ (List.of_mem_zip hc).2
theorem PInv.expand {M : Mc} (hw : Wf M) {P : Ps} {s : Nat} {past : List Str} (h : PInv M.R.length P) (hs : s < M.R.length) : PInv M.R.length (expandP M P s past) := h.fold (hw.zip_lt hs)
theorem addP_prefix (past : List Str) (P : Ps) (c : Str × (Nat × Str)) : ∃ Q, addP past P c = P ++ Q ∧ ∀ d ∈ Q, d.2 = past ++ [c.1] := by
  unfold addP
  split
  · exact ⟨[], by simp, fun d hd => nomatch hd⟩
  · exact ⟨_, rfl, fun d hd => by
      have : d = (c.2.1, past ++ [c.1]) := by simpa using hd
      rw [this]⟩
theorem fold_prefix (past : List Str) : ∀ (l : List (Str × (Nat × Str))) (P : Ps), ∃ Q, l.foldl (addP past) P = P ++ Q ∧ ∀ d ∈ Q, ∃ c ∈ l, d.2 = past ++ [c.1]
  | [], P => ⟨[], by simp, fun d hd => nomatch hd⟩
  | c :: l, P => by
    obtain ⟨Q1, e1, h1⟩ := addP_prefix past P c
    obtain ⟨Q2, e2, h2⟩ := fold_prefix past l (addP past P c)
    refine ⟨Q1 ++ Q2, ?_, fun d hd => ?_⟩
    · show l.foldl (addP past) (addP past P c) = _
      rw [e2, e1, List.append_assoc]
    · rcases List.mem_append.mp hd with hd | hd
      · exact ⟨c, List.mem_cons_self .., h1 d hd⟩
      · obtain ⟨c', hc, e⟩ := h2 d hd
        exact ⟨c', List.mem_cons_of_mem _ hc, e⟩
theorem fold_len {past : List Str} {m : Nat} (hp : past.length ≤ m) (l : List (Str × (Nat × Str))) {P : Ps} (h : ∀ c ∈ P, c.2.length ≤ m + 1) : ∀ c ∈ l.foldl (addP past) P, c.2.length ≤ m + 1 := fun c hc => by
  obtain ⟨Q, e, hq⟩ := fold_prefix past l P
  rw [e] at hc
  rcases List.mem_append.mp hc with hc | hc
  · exact h c hc
  · obtain ⟨d, _, e⟩ := hq c hc
    rw [e, List.length_append, List.length_singleton]
    omega
theorem bfs_end {M : Mc} {n i : Nat} {P : Ps} (h : P.length ≤ i) : bfs M n i P = P := by
  cases n with
  | zero => rfl
  | succ n =>
    unfold bfs
    rw [List.getElem?_eq_none h]
theorem bfs_step {M : Mc} {n i : Nat} {P : Ps} {c : Nat × List Str} (h : P[i]? = some c) : bfs M (n + 1) i P = bfs M n (i + 1) (expandP M P c.1 c.2) := by
  show (match P[i]? with | none => P | some c => bfs M n (i + 1) (expandP M P c.1 c.2)) = _
  rw [h]
/-- the invariant of the search -/
structure BInv (M : Mc) (i : Nat) (P : Ps) : Prop where
  pi : PInv M.R.length P
  le : i ≤ P.length
  ln : ∀ c ∈ P, c.2.length ≤ i
  eq : bfs M (M.R.length + 1 - i) i P = lp M
theorem BInv.start {M : Mc} (hw : Wf M) : BInv M 0 [(0, [])] := ⟨⟨by simp, fun c hc => by
  have : c = (0, []) := by simpa using hc
  rw [this]
  exact hw.r0⟩, Nat.zero_le _, fun c hc => by
  have : c = (0, []) := by simpa using hc
  rw [this]
  exact Nat.le_refl _, rfl⟩
theorem BInv.next {M : Mc} (hw : Wf M) {i : Nat} {P : Ps} {c : Nat × List Str} (h : BInv M i P) (hc : P[i]? = some c) : BInv M (i + 1) (expandP M P c.1 c.2) := by
  have hm := List.mem_of_getElem? hc
  have hi : i < P.length := (List.getElem?_eq_some_iff.mp hc).1
  have hn := h.pi.len
  obtain ⟨Q, e, _⟩ := fold_prefix c.2 (M.L.zip (M.R.getD c.1 [])) P
  refine ⟨h.pi.expand hw (h.pi.lt c hm), ?_, fold_len (h.ln c hm) _ fun d hd => Nat.le_succ_of_le (h.ln d hd), ?_⟩
  · have e' : expandP M P c.1 c.2 = P ++ Q := e
    rw [e', List.length_append]
    omega
  · rw [← h.eq]
    have e1 : M.R.length + 1 - i = (M.R.length + 1 - (i + 1)) + 1 := by omega
    rw [e1, bfs_step hc]
theorem BInv.done {M : Mc} {i : Nat} {P : Ps} (h : BInv M i P) (hi : P.length ≤ i) : P = lp M := by
  rw [← h.eq, bfs_end hi]
theorem Wf.lp_inv {M : Mc} (hw : Wf M) : ∃ i, BInv M i (lp M) ∧ (lp M).length ≤ i := by
  have aux : ∀ (k i : Nat) (P : Ps), BInv M i P → k + i = M.R.length + 1 → ∃ i, BInv M i (lp M) ∧ (lp M).length ≤ i := by
    intro k
    induction k with
    | zero =>
      intro i P h e
      have hl := h.pi.len
      have := h.le
      omega
    | succ k ih =>
      intro i P h e
      by_cases hi : i < P.length
      · exact ih (i + 1) _ (h.next hw (List.getElem?_eq_getElem hi)) (by omega)
      · have := h.done (Nat.le_of_not_lt hi)
        exact ⟨i, this ▸ h, this ▸ Nat.le_of_not_lt hi⟩
  exact aux _ 0 _ (.start hw) (Nat.add_zero _)
end K15

/-! part M2 -/
set_option Elab.async false
set_option linter.all false
set_option maxRecDepth 100000
set_option maxHeartbeats 1000000
namespace K15
open PySem
/-- ways from state 0 by k steps -/
inductive Path (R : List Rw) : Nat → Nat → Prop
  | zero : Path R 0 0
  | step {k s : Nat} {p : Nat × Str} : Path R k s → p ∈ R.getD s [] → Path R (k + 1) p.1
/-- more of the search's invariant -/
structure CInv (M : Mc) (i : Nat) (P : Ps) : Prop where
  cl : ∀ (j : Nat) (c : Nat × List Str), j < i → P[j]? = some c → ∀ d ∈ M.L.zip (M.R.getD c.1 []), ∃ e ∈ P, e.1 = d.2.1 ∧ e.2.length ≤ c.2.length + 1
  mono : ∀ (j k : Nat) (c d : Nat × List Str), j ≤ k → P[j]? = some c → P[k]? = some d → c.2.length ≤ d.2.length
  up : ∀ c, P[i]? = some c → ∀ d ∈ P, d.2.length ≤ c.2.length + 1
  path : ∀ c ∈ P, Path M.R c.2.length c.1
  z : (0, []) ∈ P
theorem CInv.start (M : Mc) : CInv M 0 [(0, [])] where
  cl := fun j c h => absurd h (Nat.not_lt_zero _)
  mono := fun j k c d _ h1 h2 => by
    have a : c = (0, []) := by simpa using List.mem_of_getElem? h1
    rw [a]
    exact Nat.zero_le _
  up := fun c _ d hd => by
    have a : d = (0, []) := by simpa using hd
    rw [a]
    exact Nat.zero_le _
  path := fun c hc => by
    have a : c = (0, []) := by simpa using hc
    rw [a]
    exact .zero
  z := List.mem_singleton.mpr rfl
theorem fold_has (past : List Str) : ∀ (l : List (Str × (Nat × Str))) (P : Ps), ∀ d ∈ l, d.2.1 ∈ (l.foldl (addP past) P).map (·.1)
  | c :: l, P, d, hd => by
    show d.2.1 ∈ (l.foldl (addP past) (addP past P c)).map (·.1)
    rcases List.mem_cons.mp hd with rfl | hd
    · obtain ⟨Q, e, _⟩ := fold_prefix past l (addP past P d)
      rw [e, List.map_append]
      apply List.mem_append_left
      unfold addP
      split
      · assumption
      · rw [List.map_append]
        exact List.mem_append_right _ (List.mem_singleton.mpr rfl)
    · exact fold_has past l _ d hd
theorem fold_new (past : List Str) : ∀ (l : List (Str × (Nat × Str))) (P : Ps), ∃ Q, l.foldl (addP past) P = P ++ Q ∧ ∀ d ∈ Q, ∃ c ∈ l, d = (c.2.1, past ++ [c.1])
  | [], P => ⟨[], by simp, fun d hd => nomatch hd⟩
  | c :: l, P => by
    obtain ⟨Q2, e2, h2⟩ := fold_new past l (addP past P c)
    have h2' : ∀ d ∈ Q2, ∃ c' ∈ c :: l, d = (c'.2.1, past ++ [c'.1]) := fun d hd => let ⟨c', hc, e⟩ := h2 d hd; ⟨c', List.mem_cons_of_mem _ hc, e⟩
    by_cases h : c.2.1 ∈ P.map (·.1)
    · have e : addP past P c = P := if_pos h
      refine ⟨Q2, ?_, h2'⟩
      show l.foldl (addP past) (addP past P c) = _
      rw [e2, e]
    · have e : addP past P c = P ++ [(c.2.1, past ++ [c.1])] := if_neg h
      refine ⟨(c.2.1, past ++ [c.1]) :: Q2, ?_, fun d hd => ?_⟩
      · show l.foldl (addP past) (addP past P c) = _
        rw [e2, e, List.append_assoc]
        rfl
      · rcases List.mem_cons.mp hd with rfl | hd
        · exact ⟨c, List.mem_cons_self .., rfl⟩
        · exact h2' d hd
theorem CInv.next {M : Mc} {i : Nat} {P : Ps} {c : Nat × List Str} (h : CInv M i P) (hc : P[i]? = some c) : CInv M (i + 1) (expandP M P c.1 c.2) := by
  obtain ⟨Q, e, hq⟩ := fold_new c.2 (M.L.zip (M.R.getD c.1 [])) P
  have hs := fold_has c.2 (M.L.zip (M.R.getD c.1 [])) P
  have e : expandP M P c.1 c.2 = P ++ Q := e
  have hs : ∀ d ∈ M.L.zip (M.R.getD c.1 []), d.2.1 ∈ (expandP M P c.1 c.2).map (·.1) := hs
  rw [e] at hs ⊢
  have ql : ∀ d ∈ Q, d.2.length = c.2.length + 1 := fun d hd => by
    obtain ⟨c', _, rfl⟩ := hq d hd
    simp
  have all : ∀ d ∈ P ++ Q, d.2.length ≤ c.2.length + 1 := fun d hd => by
    rcases List.mem_append.mp hd with hd | hd
    · exact h.up c hc d hd
    · exact Nat.le_of_eq (ql d hd)
  have hi : i < P.length := (List.getElem?_eq_some_iff.mp hc).1
  have mono : ∀ (j k : Nat) (c d : Nat × List Str), j ≤ k → (P ++ Q)[j]? = some c → (P ++ Q)[k]? = some d → c.2.length ≤ d.2.length := by
    intro j k x y hjk hx hy
    by_cases hk : k < P.length
    · rw [List.getElem?_append_left hk] at hy
      rw [List.getElem?_append_left (by omega)] at hx
      exact h.mono j k x y hjk hx hy
    · rw [List.getElem?_append_right (by omega)] at hy
      rw [ql y (List.mem_of_getElem? hy)]
      exact all x (List.mem_of_getElem? hx)
  refine ⟨fun j x hj hx d hd => ?_, mono, fun x hx d hd => ?_, fun d hd => ?_, List.mem_append_left _ h.z⟩
  · by_cases ej : j = i
    · subst ej
      rw [List.getElem?_append_left hi, hc] at hx
      obtain rfl := Option.some.inj hx
      obtain ⟨y, hy, ey⟩ := List.mem_map.mp (hs d hd)
      exact ⟨y, hy, ey, all y hy⟩
    · have hj' : j < i := by omega
      rw [List.getElem?_append_left (by omega)] at hx
      obtain ⟨y, hy, e1, e2⟩ := h.cl j x hj' hx d hd
      exact ⟨y, List.mem_append_left _ hy, e1, e2⟩
  · have h1 := all d hd
    have hc2 : (P ++ Q)[i]? = some c := by rw [List.getElem?_append_left hi]; exact hc
    have := mono i (i + 1) c x (Nat.le_succ _) hc2 hx
    omega
  · rcases List.mem_append.mp hd with hd | hd
    · exact h.path d hd
    · obtain ⟨c', hc', rfl⟩ := hq d hd
      show Path M.R (c.2 ++ [c'.1]).length c'.2.1
      rw [List.length_append]
      exact .step (h.path c (List.mem_of_getElem? hc)) (List.of_mem_zip hc').2
theorem Wf.lp_cinv {M : Mc} (hw : Wf M) : ∃ i, CInv M i (lp M) ∧ (lp M).length ≤ i := by
  have aux : ∀ (k i : Nat) (P : Ps), BInv M i P → CInv M i P → k + i = M.R.length + 1 → ∃ i, CInv M i (lp M) ∧ (lp M).length ≤ i := by
    intro k
    induction k with
    | zero =>
      intro i P h c e
      have hl := h.pi.len
      have := h.le
      omega
    | succ k ih =>
      intro i P h c e
      by_cases hi : i < P.length
      · have hg := List.getElem?_eq_getElem hi
        exact ih (i + 1) _ (h.next hw hg) (c.next hg) (by omega)
      · have := h.done (Nat.le_of_not_lt hi)
        exact ⟨i, this ▸ c, this ▸ Nat.le_of_not_lt hi⟩
  exact aux _ 0 _ (.start hw) (.start M) (Nat.add_zero _)
theorem zip_right {α β : Type} {r : List β} : ∀ {l : List α}, r.length = l.length → ∀ p ∈ r, ∃ x, (x, p) ∈ l.zip r := by
  intro l hl p hp
  obtain ⟨i, hi, rfl⟩ := List.mem_iff_getElem.mp hp
  refine ⟨l[i]'(by omega), ?_⟩
  have : (l.zip r)[i]'(by simp; omega) = (l[i]'(by omega), r[i]) := by simp
  rw [← this]
  exact List.getElem_mem _
/-- what is recorded is a shortest way -/
theorem Wf.lp_short {M : Mc} (hw : Wf M) {k s : Nat} (h : Path M.R k s) : ∃ e ∈ lp M, e.1 = s ∧ e.2.length ≤ k := by
  obtain ⟨i, c, hi⟩ := hw.lp_cinv
  induction h with
  | zero => exact ⟨_, c.z, rfl, Nat.le_refl _⟩
  | step hp hm ih =>
    obtain ⟨e, he, rfl, hl⟩ := ih
    obtain ⟨j, hj, hje⟩ := List.mem_iff_getElem.mp he
    have he1 : e.1 < M.R.length := by
      obtain ⟨i2, b, _⟩ := hw.lp_inv
      exact b.pi.lt e he
    obtain ⟨x, hx⟩ := zip_right (hw.rl _ (hw.row he1)) _ hm
    obtain ⟨y, hy, e1, e2⟩ := c.cl j e (by omega) (by rw [List.getElem?_eq_getElem hj, hje]) _ hx
    exact ⟨y, hy, e1, by omega⟩
theorem Wf.lp_path {M : Mc} (hw : Wf M) {c : Nat × List Str} (h : c ∈ lp M) : Path M.R c.2.length c.1 := by
  obtain ⟨i, d, hi⟩ := hw.lp_cinv
  exact d.path c h
theorem Wf.order_iff {M : Mc} (hw : Wf M) {s : Nat} : s ∈ order M ↔ ∃ k, Path M.R k s :=
  ⟨fun h => let ⟨c, hc, e⟩ := List.mem_map.mp h; ⟨_, e ▸ hw.lp_path hc⟩, fun ⟨k, h⟩ => let ⟨e, he, e1, _⟩ := hw.lp_short h; List.mem_map.mpr ⟨e, he, e1⟩⟩
theorem Wf.order_cl {M : Mc} (hw : Wf M) {s : Nat} (hs : s ∈ order M) : ∀ p ∈ M.R.getD s [], p.1 ∈ order M := fun p hp => let ⟨k, h⟩ := hw.order_iff.mp hs; hw.order_iff.mpr ⟨_, h.step hp⟩
theorem Wf.order_nd {M : Mc} (hw : Wf M) : (order M).Nodup := by
  obtain ⟨i, h, _⟩ := hw.lp_inv
  exact h.pi.nd
theorem Wf.order_lt {M : Mc} (hw : Wf M) : ∀ s ∈ order M, s < M.R.length := fun s hs => by
  obtain ⟨i, h, _⟩ := hw.lp_inv
  obtain ⟨c, hc, rfl⟩ := List.mem_map.mp hs
  exact h.pi.lt c hc
theorem Wf.order_len {M : Mc} (hw : Wf M) : (order M).length ≤ M.R.length := by
  obtain ⟨i, h, _⟩ := hw.lp_inv
  have := h.pi.len
  show ((lp M).map _).length ≤ _
  rwa [List.length_map]
/-- the same ways -/
theorem path_same {R R' : List Rw} (h : ∀ s p, p ∈ R.getD s [] → ∃ q ∈ R'.getD s [], q.1 = p.1) {k s : Nat} (q : Path R k s) : Path R' k s := by
  induction q with
  | zero => exact .zero
  | step _ hm ih =>
    obtain ⟨q, hq, e⟩ := h _ _ hm
    exact e ▸ .step ih hq
end K15

/-! part M3 -/
set_option Elab.async false
set_option linter.all false
set_option maxRecDepth 100000
set_option maxHeartbeats 1000000
namespace K15
open PySem L2
/-! ### texts -/
abbrev tl (x : Str) : List Nat := x.cps.toList
theorem sp_join {c : Nat} (hc : c < 256) {parts : List Str} (hne : parts ≠ []) (h : ∀ p ∈ parts, c ∉ tl p) : Txt.split (Txt.join (SX.S [c]) parts) (SX.S [c]) = parts := by
  have e : parts = (parts.map tl).map SX.S := by
    rw [List.map_map]
    conv => lhs; rw [← List.map_id parts]
    exact List.map_congr_left fun x _ => (SX.S_tl x).symm
  have e2 : Txt.split (Txt.join (SX.S [c]) ((parts.map tl).map SX.S)) (SX.S [c]) = (parts.map tl).map SX.S := by
    rw [SX.join_S, SX.split_S (by simp) (by simp [hc]), SX.spl_join (sep := []) (by simpa using hne) fun p hp => by
      obtain ⟨x, hx, rfl⟩ := List.mem_map.mp hp
      exact h x hx]
  rw [← e] at e2
  exact e2
theorem join_len (c : Nat) : ∀ ys : List Str, (Txt.join (SX.S [c]) ys).length ≤ (ys.map (·.length)).sum + ys.length := by
  intro ys
  have e : ys = (ys.map tl).map SX.S := by
    rw [List.map_map]
    conv => lhs; rw [← List.map_id ys]
    exact List.map_congr_left fun x _ => (SX.S_tl x).symm
  have aux : ∀ ps : List (List Nat), (TL.joinL [c] ps).length ≤ (ps.map (·.length)).sum + ps.length := by
    intro ps
    induction ps with
    | nil => simp [TL.joinL]
    | cons p r ih =>
      cases r with
      | nil => simp [TL.joinL]
      | cons q r =>
        show (p ++ ([c] ++ TL.joinL [c] (q :: r))).length ≤ _
        simp only [List.length_append, List.length_cons, List.length_nil, List.map_cons, List.sum_cons] at ih ⊢
        omega
  have := aux (ys.map tl)
  rw [List.length_map, List.map_map] at this
  have e2 : Txt.join (SX.S [c]) ys = SX.S (TL.joinL [c] (ys.map tl)) := by
    conv => lhs; rw [e]
    exact SX.join_S _ _
  rw [e2, SX.S_len]
  have e3 : (ys.map ((fun x => x.length) ∘ tl)) = ys.map (·.length) := List.map_congr_left fun x _ => by simp [Str.length]
  rw [e3] at this
  exact this
theorem mem_join {c s : Nat} : ∀ {ys : List Str}, c ∈ tl (Txt.join (SX.S [s]) ys) → c = s ∨ ∃ y ∈ ys, c ∈ tl y := by
  intro ys h
  have e : ys = (ys.map tl).map SX.S := by
    rw [List.map_map]
    conv => lhs; rw [← List.map_id ys]
    exact List.map_congr_left fun x _ => (SX.S_tl x).symm
  have e2 : Txt.join (SX.S [s]) ys = SX.S (TL.joinL [s] (ys.map tl)) := by
    conv => lhs; rw [e]
    exact SX.join_S _ _
  rw [e2] at h
  have h : c ∈ TL.joinL [s] (ys.map tl) := by simpa [tl] using h
  have aux : ∀ ps : List (List Nat), c ∈ TL.joinL [s] ps → c = s ∨ ∃ p ∈ ps, c ∈ p := by
    intro ps
    induction ps with
    | nil => exact fun h => nomatch h
    | cons p r ih =>
      cases r with
      | nil => exact fun h => .inr ⟨p, List.mem_singleton.mpr rfl, h⟩
      | cons q r =>
        intro h
        have h : c ∈ p ++ ([s] ++ TL.joinL [s] (q :: r)) := h
        rcases List.mem_append.mp h with h | h
        · exact .inr ⟨p, List.mem_cons_self .., h⟩
        · rcases List.mem_append.mp h with h | h
          · exact .inl (List.mem_singleton.mp h)
          · rcases ih h with h | ⟨x, hx, h⟩
            · exact .inl h
            · exact .inr ⟨x, List.mem_cons_of_mem _ hx, h⟩
  rcases aux _ h with h | ⟨p, hp, h⟩
  · exact .inl h
  · obtain ⟨y, hy, rfl⟩ := List.mem_map.mp hp
    exact .inr ⟨y, hy, h⟩
/-! ### words -/
theorem letters_tl : tl lettersS = List.range' 97 26 := by decide +kernel
theorem isNm_chars {x : Str} (h : isNm x = true) : ∀ c ∈ tl x, 97 ≤ c ∧ c ≤ 122 := fun c hc => by
  unfold isNm at h
  rw [Bool.and_eq_true] at h
  have := List.all_eq_true.mp h.2 c hc
  have := of_decide_eq_true this
  have h2 : c ∈ tl lettersS := this
  rw [letters_tl, List.mem_range'_1] at h2
  omega
theorem isNm_len {x : Str} (h : isNm x = true) : 1 ≤ x.length ∧ x.length ≤ 8 := by
  unfold isNm at h
  simp only [Bool.and_eq_true, decide_eq_true_eq] at h
  omega
theorem isWd_chars {x : Str} (h : isWd x = true) : ∀ c ∈ tl x, 97 ≤ c ∧ c ≤ 122 := fun c hc => by
  unfold isWd at h
  rw [Bool.or_eq_true] at h
  rcases h with h | h
  · exact isNm_chars h c hc
  · have e := of_decide_eq_true h
    subst e
    exact nomatch hc
def dashW (w : Str) : Str := if w = "" then "-" else w
def numW (n : Nat) : Str := Str.ofString (toString ((n : Nat) : Int))
theorem numW_tl {n : Nat} (h : n < 10) : numW n = SX.S [48 + n] := by
  have := SX.num_S n
  unfold numW
  rw [this, TL.numL_lt h]
def pairW (p : Nat × Str) : Str := Txt.join (SX.S [58]) [numW p.1, dashW p.2]
def lineW (r : Rw) : Str := Txt.join (SX.S [32]) ("state" :: r.map pairW)
def headW (l : List Str) : Str := Txt.join (SX.S [32]) ["letters", Txt.join (SX.S [44]) l]
def textW (M : Mc) : Str := Txt.join (SX.S [10]) (headW M.L :: M.R.map lineW)
def rdW (l : List Str) : Str := if 0 < (l.length : Int) then Txt.join (SX.S [44]) l else "-"
theorem comma_S : ("," : Str) = SX.S [44] := by decide +kernel
theorem colon_S : (":" : Str) = SX.S [58] := by decide +kernel
theorem space_S : (" " : Str) = SX.S [32] := by decide +kernel
theorem line_S : ("\n" : Str) = SX.S [10] := by decide +kernel
theorem dash_S : ("-" : Str) = SX.S [45] := by decide +kernel
theorem join2 (c : Nat) (a b : Str) : Txt.join (SX.S [c]) [a, b] = (a ++ SX.S [c]) ++ b := by
  have e : Txt.join (SX.S [c]) ([tl a, tl b].map SX.S) = SX.S (TL.joinL [c] [tl a, tl b]) := SX.join_S _ _
  have e1 : ([tl a, tl b].map SX.S) = [a, b] := by
    simp only [List.map_cons, List.map_nil]
  rw [e1] at e
  rw [e]
  show SX.S (tl a ++ ([c] ++ tl b)) = _
  rw [← SX.S_cat, ← SX.S_cat, SX.S_tl, SX.S_tl]
  show SX.S (tl a) ++ (SX.S [c] ++ b) = (SX.S (tl a) ++ SX.S [c]) ++ b
  have : ∀ x y z : Str, x ++ (y ++ z) = (x ++ y) ++ z := fun x y z => TL.ext_tl (by rw [TL.tl_append, TL.tl_append, TL.tl_append, TL.tl_append, List.append_assoc])
  exact this _ _ _
/-! ### what is in the texts -/
theorem dashW_chars {w : Str} (h : isWd w = true) : ∀ c ∈ tl (dashW w), c = 45 ∨ (97 ≤ c ∧ c ≤ 122) := fun c hc => by
  unfold dashW at hc
  split at hc
  · rw [dash_S] at hc
    exact .inl (by simpa using hc)
  · exact .inr (isWd_chars h c hc)
theorem pairW_chars {p : Nat × Str} (hp : p.1 < 10) (h : isWd p.2 = true) : ∀ c ∈ tl (pairW p), 45 ≤ c ∧ c ≤ 122 := fun c hc => by
  rcases mem_join hc with rfl | ⟨y, hy, hc⟩
  · omega
  · simp only [List.mem_cons, List.not_mem_nil, or_false] at hy
    rcases hy with rfl | rfl
    · rw [numW_tl hp] at hc
      have : c = 48 + p.1 := by simpa using hc
      omega
    · rcases dashW_chars h c hc with rfl | ⟨h1, h2⟩
      · omega
      · omega
theorem state_tl : tl ("state" : Str) = [115, 116, 97, 116, 101] := by decide +kernel
theorem lettersw_tl : tl ("letters" : Str) = [108, 101, 116, 116, 101, 114, 115] := by decide +kernel
theorem lineW_chars {r : Rw} (h : ∀ p ∈ r, p.1 < 10 ∧ isWd p.2 = true) : ∀ c ∈ tl (lineW r), 32 ≤ c ∧ c ≤ 122 := fun c hc => by
  rcases mem_join hc with rfl | ⟨y, hy, hc⟩
  · omega
  · rcases List.mem_cons.mp hy with rfl | hy
    · rw [state_tl] at hc
      simp only [List.mem_cons, List.not_mem_nil, or_false] at hc
      omega
    · obtain ⟨p, hp, rfl⟩ := List.mem_map.mp hy
      have := pairW_chars (h p hp).1 (h p hp).2 c hc
      omega
theorem headW_chars {l : List Str} (h : ∀ x ∈ l, isNm x = true) : ∀ c ∈ tl (headW l), 32 ≤ c ∧ c ≤ 122 := fun c hc => by
  rcases mem_join hc with rfl | ⟨y, hy, hc⟩
  · omega
  · simp only [List.mem_cons, List.not_mem_nil, or_false] at hy
    rcases hy with rfl | rfl
    · rw [lettersw_tl] at hc
      simp only [List.mem_cons, List.not_mem_nil, or_false] at hc
      omega
    · rcases mem_join hc with rfl | ⟨y, hy, hc⟩
      · omega
      · have := isNm_chars (h y hy) c hc
        omega
theorem sum_le {l : List Nat} {b : Nat} (h : ∀ x ∈ l, x ≤ b) : l.sum ≤ l.length * b := by
  induction l with
  | nil => simp
  | cons a l ih =>
    have h1 := h a (List.mem_cons_self ..)
    have h2 := ih fun x hx => h x (List.mem_cons_of_mem _ hx)
    rw [List.sum_cons, List.length_cons, Nat.succ_mul]
    omega
theorem sumlen_le {l : List Str} {b : Nat} (h : ∀ x ∈ l, x.length ≤ b) : (l.map (·.length)).sum ≤ l.length * b := by
  have := sum_le (l := l.map (·.length)) (b := b) fun x hx => by
    obtain ⟨y, hy, rfl⟩ := List.mem_map.mp hx
    exact h y hy
  rwa [List.length_map] at this
theorem dashW_len {w : Str} (h : w.length ≤ 10) : (dashW w).length ≤ 10 := by
  unfold dashW
  split
  · decide +kernel
  · exact h
theorem numW_len {n : Nat} (h : n < 10) : (numW n).length = 1 := by
  rw [numW_tl h, SX.S_len]
  rfl
theorem pairW_len {p : Nat × Str} (hp : p.1 < 10) (h : p.2.length ≤ 10) : (pairW p).length ≤ 20 := by
  have := join_len 58 [numW p.1, dashW p.2]
  have h1 := numW_len hp
  have h2 := dashW_len h
  have e : (pairW p).length ≤ ([numW p.1, dashW p.2].map (·.length)).sum + 2 := this
  simp only [List.map_cons, List.map_nil, List.sum_cons, List.sum_nil] at e
  omega
theorem lineW_sum {r : Rw} (hr : r.length ≤ 10) (h : ∀ p ∈ r, p.1 < 10 ∧ p.2.length ≤ 10) : ((("state" : Str) :: r.map pairW).map (·.length)).sum + (("state" : Str) :: r.map pairW).length ≤ 300 := by
  have h1 := sumlen_le (l := r.map pairW) (b := 20) fun x hx => by
    obtain ⟨p, hp, rfl⟩ := List.mem_map.mp hx
    exact pairW_len (h p hp).1 (h p hp).2
  have h2 : ("state" : Str).length = 5 := by decide +kernel
  simp only [List.map_cons, List.sum_cons, List.length_cons, List.length_map] at h1 ⊢
  rw [h2]
  omega
theorem lineW_len {r : Rw} (hr : r.length ≤ 10) (h : ∀ p ∈ r, p.1 < 10 ∧ p.2.length ≤ 10) : (lineW r).length ≤ 300 := Nat.le_trans (join_len 32 _) (lineW_sum hr h)
theorem letters_sum {l : List Str} (hl : l.length ≤ 10) (h : ∀ x ∈ l, x.length ≤ 10) : (l.map (·.length)).sum + l.length ≤ 110 := by
  have := sumlen_le h
  have : l.length * 10 ≤ 100 := by omega
  omega
theorem headW_len {l : List Str} (hl : l.length ≤ 10) (h : ∀ x ∈ l, x.length ≤ 10) : (headW l).length ≤ 300 := by
  have h1 := join_len 32 ["letters", Txt.join (SX.S [44]) l]
  have h2 := join_len 44 l
  have h3 := letters_sum hl h
  have h4 : ("letters" : Str).length = 7 := by decide +kernel
  have e : (headW l).length ≤ ([("letters" : Str), Txt.join (SX.S [44]) l].map (·.length)).sum + 2 := h1
  simp only [List.map_cons, List.map_nil, List.sum_cons, List.sum_nil] at e
  rw [h4] at e
  omega
theorem Wf.pr {M : Mc} (hw : Wf M) {r : Rw} (hr : r ∈ M.R) {p : Nat × Str} (hp : p ∈ r) : p.1 < 10 ∧ p.2.length ≤ 10 ∧ isWd p.2 = true := ⟨by have := hw.rn r hr p hp; have := hw.r1; omega, hw.sz r hr p hp, hw.wd r hr p hp⟩
theorem Wf.text_sum {M : Mc} (hw : Wf M) : ((headW M.L :: M.R.map lineW).map (·.length)).sum + (headW M.L :: M.R.map lineW).length ≤ 4000 := by
  have h1 := sumlen_le (l := M.R.map lineW) (b := 300) fun x hx => by
    obtain ⟨r, hr, rfl⟩ := List.mem_map.mp hx
    exact lineW_len (by rw [hw.rl r hr]; exact hw.l1) fun p hp => ⟨(hw.pr hr hp).1, (hw.pr hr hp).2.1⟩
  have h2 := headW_len hw.l1 hw.l2
  have := hw.r1
  simp only [List.map_cons, List.sum_cons, List.length_cons, List.length_map] at h1 ⊢
  omega
theorem Wf.text_len {M : Mc} (hw : Wf M) : (textW M).length ≤ 4000 := Nat.le_trans (join_len 10 _) hw.text_sum
theorem Wf.text_split {M : Mc} (hw : Wf M) : Txt.split (textW M) (SX.S [10]) = headW M.L :: M.R.map lineW := sp_join (by decide) (by simp) fun p hp hc => by
  rcases List.mem_cons.mp hp with rfl | hp
  · have := headW_chars (fun x hx => List.all_eq_true.mp hw.nm x hx) 10 hc
    omega
  · obtain ⟨r, hr, rfl⟩ := List.mem_map.mp hp
    have := lineW_chars (fun p hp => ⟨(hw.pr hr hp).1, (hw.pr hr hp).2.2⟩) 10 hc
    omega
end K15

/-! part D3 -/
set_option Elab.async false
set_option linter.all false
set_option maxRecDepth 100000
set_option maxHeartbeats 1000000
namespace K15
open PySem PySem.Spec PyProof.Rows L2 RZ
section
variable {K : PySem.W.Frag} {σ : L2.St} {H : Hp} {ta tb te : TE} {d dx : PyData}
theorem evd_neg {i : Int} (h : EvD K ta σ H (.int i)) : EvD K (tUn (rU fun i => .int (-i)) ta) σ H (.int (-i)) := fun H1 e Q q => h H1 e _ fun v H2 e2 hv => by
  cases hv
  exact ⟨i, rfl, q _ H2 e2 (.int _)⟩
theorem ov_ix {ds : List PyData} (j : Nat) (h : ds[j]? = some d) : OvD K (rIxT K) (.tuple ds) (.int (j : Int)) d := ov_ixT rfl h
theorem evd_ix0 {ds : List PyData} (h : EvD K te σ H (.tuple (d :: ds))) : EvD K (tOp (rIxT K) te (tC (.int 0))) σ H d := evd_op h evd_i (ov_ix 0 rfl)
theorem evd_ix1 {ds : List PyData} (h : EvD K te σ H (.tuple (dx :: d :: ds))) : EvD K (tOp (rIxT K) te (tC (.int 1))) σ H d := evd_op h evd_i (ov_ix 1 rfl)
theorem enumD_map {α : Type} (f : α → PyData) (l : List α) : enumD (l.map f) = (((List.range l.length).zip l).map fun p => .tuple [.int (p.1 : Int), f p.2]) := by
  unfold enumD
  rw [List.length_map]
  apply List.ext_getElem?
  intro i
  rw [List.getElem?_zipWith, List.getElem?_map, List.getElem?_map, List.zip, List.getElem?_zipWith]
  cases (List.range l.length)[i]? <;> cases l[i]? <;> rfl
/-- a, b = e -/
theorem s_asgP {B : Base} {Γ : List Sl} {Θ : List (Addr × Ob)} {D : Ends} {i j : Nat} {dy : PyData} (a : At K B Γ Θ σ H) (h : EvD K te σ H (.tuple [dx, dy])) (k : ∀ σ' H', At K B ((Γ.set i (.d dx)).set j (.d dy)) Θ σ' H' → D.nx σ' H') : tAsg te (gTup K 2 (gCons (gName i) (gCons (gName j) gNil))) D σ H :=
  h H (Same.refl _) _ fun v H1 e hv => g_pair (a.up e) hv fun σ' a' => k σ' H1 a'
theorem q_asgP {B : Base} {Γ : List Sl} {Θ : List (Addr × Ob)} {D : Ends} {tz : TS} {i j : Nat} {dy : PyData} (a : At K B Γ Θ σ H) (h : EvD K te σ H (.tuple [dx, dy])) (k : ∀ σ' H', At K B ((Γ.set i (.d dx)).set j (.d dy)) Θ σ' H' → tz D σ' H') : tSeq (tAsg te (gTup K 2 (gCons (gName i) (gCons (gName j) gNil)))) tz D σ H := s_asgP (D := { D with nx := tz D }) a h k
/-- a for, then more -/
theorem q_forS {B : Base} {Γ : List Sl} {Θ : List (Addr × Ob)} {D : Ends} {tz tbody : TS} {g : TG} {wi : TI} {α : Type} {l : List α} {en : α → PyData} {Γf : Nat → List Sl} {Θf : Nat → List (Addr × Ob)} (a : At K B Γ Θ σ H) (S : SrcS K wi σ H (l.map en)) (hΓ : Weak Γ (Γf 0)) (hΘ : Θ = Θf 0)
    (hs : ∀ (G : Hp → Prop) st (i : Nat) (x : α) (v : V) σ' H', l[i]? = some x → At K (B.and G st) (Γf i) (Θf i) σ' H' → Dt K H' v (en x) → g v σ' H' fun σ2 H2 => tbody (Tn K (B.and G st) (Γf (i + 1)) (Θf (i + 1)) { D with nx := tz D }) σ2 H2)
    (hd : ∀ σ' H', At K B (Γf l.length) (Θf l.length) σ' H' → tz D σ' H') : tSeq (tFor wi g tbody) tz D σ H := s_forS (D := { D with nx := tz D }) a S hΓ hΘ hs hd
theorem q_forL {B : Base} {Γ : List Sl} {Θ : List (Addr × Ob)} {D : Ends} {tz tbody : TS} {g : TG} {tl : TE} {p : Addr} {α : Type} {l : List α} {en : α → PyData} {Γf : Nat → List Sl} {Θf : Nat → List (Addr × Ob)} (a : At K B Γ Θ σ H) (S : EvV tl σ H (.ref p)) (hp : ∀ i, ∃ k : Nat, (Θf i)[k]? = some (p, Ob.lst (l.map en))) (hΓ : Weak Γ (Γf 0)) (hΘ : Θ = Θf 0)
    (hs : ∀ (i : Nat) (x : α) (v : V) σ' H', l[i]? = some x → At K B (Γf i) (Θf i) σ' H' → Dt K H' v (en x) → g v σ' H' fun σ2 H2 => tbody (Tn K B (Γf (i + 1)) (Θf (i + 1)) { D with nx := tz D }) σ2 H2)
    (hd : ∀ σ' H', At K B (Γf l.length) (Θf l.length) σ' H' → tz D σ' H') : tSeq (tFor (iList K tl) g tbody) tz D σ H := s_forL (D := { D with nx := tz D }) a S hp hΓ hΘ hs hd
end
/-! ### steps by a word -/
local macro_rules | `(tactic| walk_at "ov") => `(tactic| first
  | with_reducible exact ov_eqS
  | with_reducible exact ov_eqI
  | with_reducible exact ov_neS
  | with_reducible exact ov_neI
  | with_reducible exact ov_neB
  | with_reducible exact ov_ltS
  | with_reducible exact ov_inS
  | with_reducible exact ov_I0 (fun _ => Dt.int _)
  | with_reducible exact ov_I0 (fun _ => Dt.bl _))
local macro_rules | `(tactic| walk_at "ev") => `(tactic| first
  | with_reducible exact evd_i
  | with_reducible exact evd_s
  | with_reducible exact evd_b
  | with_reducible exact evd_n
  | ((with_reducible refine' evd_var (by assumption) ?hv); (case hv => rfl))
  | with_reducible assumption
  | ((with_reducible refine' evd_op ?ha ?hb ?hr); (case ha => walk_at "ev"); (case hb => walk_at "ev"); (case hr => walk_at "ov"))
  | ((with_reducible refine' evd_and ?ha (fun hc => ?hb)); (case ha => walk_at "ev"); (case hb => walk_at "ev"))
  | ((with_reducible refine' evd_or ?ha (fun hc => ?hb)); (case ha => walk_at "ev"); (case hb => walk_at "ev"))
  | ((with_reducible refine' evd_not ?ha); (case ha => walk_at "ev"))
  | ((with_reducible refine' evd_isi ?ha ?hb); (case ha => walk_at "ev"); (case hb => first | exact kb_ii | exact kb_ib | exact kb_ss | exact kb_tt))
  | ((with_reducible refine' evd_tup ?ha ?hb); (case ha => walk_at "ea"); (case hb => first | decide | (simp only [List.length_cons, List.length_nil]; omega)))
  | ((with_reducible refine' evd_chain ?ha ?hb ?hc ?h1 ?h2); (case ha => walk_at "ev"); (case hb => walk_at "ev"); (case hc => walk_at "ev"); (case h1 => walk_at "ov"); (case h2 => walk_at "ov"))
  | ((with_reducible refine' evd_cb ?ha ?hb); (case ha => walk_at "ea"); (case hb => first | with_reducible exact cv_len | with_reducible exact cv_max2 | with_reducible exact cv_int1 | ((with_reducible refine' cv_lenS ?hz); (case hz => omega))))
  | ((with_reducible refine' evd_c1 _ ?hp ?ha); (case ha => walk_at "ea"); (case hp => first | exact True.intro | assumption | (show _ ≤ _; omega))))
local macro_rules | `(tactic| walk_at "ea") => `(tactic| first
  | with_reducible exact eva_nil
  | ((with_reducible refine' eva_cons ?ha ?hb); (case ha => walk_at "ev"); (case hb => walk_at "ea")))
local macro_rules | `(tactic| walk_at "et") => `(tactic| first
  | with_reducible assumption
  | ((with_reducible refine' evt_test ?ha); (case ha => walk_at "ev"))
  | ((with_reducible refine' evt_B ?ha); (case ha => walk_at "ev"))
  | ((with_reducible refine' evt_and ?ha (fun hc => ?hb)); (case ha => walk_at "et"); (case hb => walk_at "et"))
  | ((with_reducible refine' evt_or ?ha (fun hc => ?hb)); (case ha => walk_at "et"); (case hb => walk_at "et"))
  | ((with_reducible refine' evt_not ?ha); (case ha => walk_at "et")))

local macro_rules | `(tactic| walk_at "wk") => `(tactic| first
  | exact Weak.nil
  | ((refine' Weak.keep ?h); (case h => walk_at "wk"))
  | ((refine' Weak.drop ?h); (case h => walk_at "wk")))

section
variable {P : Program} {w : World} {K : PySem.W.Frag} {mg : Str → Option Value} {base : Heap}
theorem allNm_of {l : List Str} (h : allNm l = true) {x : Str} (hx : x ∈ l) : isNm x = true := List.all_eq_true.mp h x hx
abbrev s_require0 : Stmt := top 37
theorem sc_require0 : FnScope ["condition", "word", "at"] ["condition", "word", "at"] (defScope s_require0) := ⟨rfl, rfl, rfl, by decide +kernel, rfl, by decide +kernel, by decide +kernel⟩
abbrev SpRequireM (K : PySem.W.Frag) : Sp := spQ K (fun _ : Str × PyData => True) (fun i => [.bool true, .str i.1, i.2]) (fun _ => .none)
theorem df_require0 (T : Top mg) (F : Fn K mg "require_machinechecker" "require" s_require0) : Df P w K mg base 1 "require_machinechecker" (SpRequireM K) := by
  refine df_pure F sc_require0 (fun _ _ _ _ _ _ us hl => match us, hl with | [_, _, _], _ => rfl) (fun _ => rfl) (fun i f cdv A outer s H σ E _ a hr => ?_)
  refine ⟨_, (pss_one (ps_if (pt_not (pt_val (pv 0))) (pss_one ps_never) pss_nil)), fun Q k => ?_⟩
  try dsimp only [List.map]
  refine' s_no a ?h fun H' a1 => k _ H' a1.sm .non
  case h => exact evt_not (a := true) (evt_test (evd_var a rfl))
abbrev s_is_pair : Stmt := top 39
theorem sc_is_pair : FnScope ["thing"] ["thing"] (defScope s_is_pair) := ⟨rfl, rfl, rfl, by decide +kernel, rfl, by decide +kernel, by decide +kernel⟩
abbrev SpIsPair (K : PySem.W.Frag) : Sp := spQ K (fun p : Nat × Str => p.2.length ≤ 100) (fun p => [eP p]) (fun p => .bool (isWd p.2))
theorem df_is_pair (T : Top mg) (F : Fn K mg "is_pair" "is_pair" s_is_pair) (d_is_integer : Df P w K mg base 1 "is_integer" (SpIsInteger K)) (d_is_word : Df P w K mg base 2 "is_word" (SpIsWord K)) : Df P w K mg base 3 "is_pair" (SpIsPair K) := by
  refine df_pure F sc_is_pair (fun _ _ _ _ _ _ us hl => match us, hl with | [_], _ => rfl) (fun _ => rfl) (fun p f cdv A outer s H σ E hp a hr => ?_)
  refine ⟨_, (pss_one (ps_ret (pe_and (pe_callB (c_isi' K (by rfl)) (by rfl) T.isinstance_ (by decide +kernel) (pa_cons (pv 0) (pa_cons (pe_bltn (v := .ty "tuple") (by rfl) T.tuple_ (by decide +kernel) rfl) pa_nil))) (pe_and (pe_cmpR op_eq (pe_callB (c_len' K (by rfl)) (by rfl) T.len_ (by decide +kernel) (pa_cons (pv 0) pa_nil)) pe_int (nomark _)) (pe_and (pe_d d_is_integer hr (by decide) rfl (pa_cons (pe_ix (ix_tup' K (by rfl)) (pv 0) pe_int (fun _ _ => rfl)) pa_nil)) (pe_one (pe_d d_is_word hr (by decide) rfl (pa_cons (pe_ix (ix_tup' K (by rfl)) (pv 0) pe_int (fun _ _ => rfl)) pa_nil)))))))), fun Q k => ?_⟩
  try dsimp only [List.map]
  have hp : p.2.length ≤ 100 := hp
  refine' f_ret a (evd_and (a := true) ?h1 fun _ => evd_and (a := true) ?h2 fun _ => evd_and (a := true) (evd_c1 (p.1 : Int) True.intro ?h3) fun _ => evd_c1 p.2 (show _ ≤ 1000 by omega) ?h4) k
  case h1 => walk_at "ev"
  case h2 => exact evd_op (evd_cb (eva_cons (evd_var a rfl) eva_nil) cv_len) evd_i ov_eqI
  case h3 => exact eva_cons (evd_ix0 (evd_var a rfl)) eva_nil
  case h4 => exact eva_cons (evd_ix1 (evd_var a rfl)) eva_nil
abbrev s_is_row : Stmt := top 40
theorem sc_is_row : FnScope ["thing", "one"] ["thing"] (defScope s_is_row) := ⟨rfl, rfl, rfl, by decide +kernel, rfl, by decide +kernel, by decide +kernel⟩
abbrev SpIsRow (K : PySem.W.Frag) : Sp := spQ K (fun r : Rw => r.length ≤ 100 ∧ ∀ p ∈ r, p.2.length ≤ 100) (fun r => [eR r]) (fun r => .bool (r.all fun p => isWd p.2))
theorem df_is_row (T : Top mg) (F : Fn K mg "is_row" "is_row" s_is_row) (d_is_pair : Df P w K mg base 3 "is_pair" (SpIsPair K)) : Df P w K mg base 4 "is_row" (SpIsRow K) := by
  refine df_pure F sc_is_row (fun _ _ _ _ _ _ us hl => match us, hl with | [_], _ => rfl) (fun _ => rfl) (fun r f cdv A outer s H σ E hp a hr => ?_)
  refine ⟨_, (pss_one (ps_ret (pe_and (pe_callB (c_isi' K (by rfl)) (by rfl) T.isinstance_ (by decide +kernel) (pa_cons (pv 0) (pa_cons (pe_bltn (v := .ty "tuple") (by rfl) T.tuple_ (by decide +kernel) rfl) pa_nil))) (pe_one (pe_callB (c_all' K (by rfl) rfl) (by rfl) T.all_ (by decide +kernel) (pa_cons (pe_lc (own := [("one", 1)]) rfl sc_is_row.nd (pi_tup' K (by rfl) (pv 0)) (blkOk_by (N := ["thing", "one"]) (sc := defScope s_is_row) (by decide +kernel)) (fun _ _ _ _ _ => by exact (pg_name (i := 1) sc_is_row.nd rfl (by first | exact Or.inl rfl | exact Or.inr rfl))) (fun _ _ _ _ _ => pts_nil) (fun _ _ _ _ _ => by exact (pe_d d_is_pair hr (by decide) rfl (pa_cons (pv 1) pa_nil)))) pa_nil)))))), fun Q k => ?_⟩
  try dsimp only [List.map]
  refine' f_ret a (evd_and (a := true) ?h1 fun _ => evd_all (p := fun p : Nat × Str => isWd p.2) (evl_lcn (l := r) (en := eP) _ a (src_tup ?h2) (Nat.le_trans hp.1 (by decide)) ?h3 fun x σ' H2 hm a2 => evd_c1 x (hp.2 x hm) ?h4)) k
  case h1 => walk_at "ev"
  case h2 => walk_at "ev"
  case h3 => decide
  case h4 => walk_at "ea"
abbrev s_has_shape : Stmt := top 41
theorem sc_has_shape : FnScope ["thing", "one"] ["thing"] (defScope s_has_shape) := ⟨rfl, rfl, rfl, by decide +kernel, rfl, by decide +kernel, by decide +kernel⟩
abbrev SpHasShape (K : PySem.W.Frag) : Sp := spQ K Wf (fun M => [eM M]) (fun _ => .bool true)
theorem df_has_shape (T : Top mg) (F : Fn K mg "has_shape" "has_shape" s_has_shape) (d_is_reading : Df P w K mg base 2 "is_reading" (SpIsReading K)) (d_is_row : Df P w K mg base 4 "is_row" (SpIsRow K)) : Df P w K mg base 5 "has_shape" (SpHasShape K) := by
  refine df_pure F sc_has_shape (fun _ _ _ _ _ _ us hl => match us, hl with | [_], _ => rfl) (fun _ => rfl) (fun M f cdv A outer s H σ E hw a hr => ?_)
  refine ⟨_, (pss_cons (ps_if (PW.pt (pw_or (pt_not (pt_val (pe_callB (c_isi' K (by rfl)) (by rfl) T.isinstance_ (by decide +kernel) (pa_cons (pv 0) (pa_cons (pe_bltn (v := .ty "tuple") (by rfl) T.tuple_ (by decide +kernel) rfl) pa_nil))))) (pw_or (pt_cmpR op_ne (pe_callB (c_len' K (by rfl)) (by rfl) T.len_ (by decide +kernel) (pa_cons (pv 0) pa_nil)) pe_int (nomark _)) (pw_or (pt_not (pt_val (pe_d d_is_reading hr (by decide) rfl (pa_cons (pe_ix (ix_tup' K (by rfl)) (pv 0) pe_int (fun _ _ => rfl)) pa_nil)))) (pw_or1 (pt_not (pt_val (pe_callB (c_isi' K (by rfl)) (by rfl) T.isinstance_ (by decide +kernel) (pa_cons (pe_ix (ix_tup' K (by rfl)) (pv 0) pe_int (fun _ _ => rfl)) (pa_cons (pe_bltn (v := .ty "tuple") (by rfl) T.tuple_ (by decide +kernel) rfl) pa_nil)))))))))) (pss_one (ps_ret pe_bl)) pss_nil)
      (pss_one (ps_ret (pe_callB (c_all' K (by rfl) rfl) (by rfl) T.all_ (by decide +kernel) (pa_cons (pe_lc (own := [("one", 1)]) rfl sc_has_shape.nd (pi_tup' K (by rfl) (pe_ix (ix_tup' K (by rfl)) (pv 0) pe_int (fun _ _ => rfl))) (blkOk_by (N := ["thing", "one"]) (sc := defScope s_has_shape) (by decide +kernel)) (fun _ _ _ _ _ => by exact (pg_name (i := 1) sc_has_shape.nd rfl (by first | exact Or.inl rfl | exact Or.inr rfl))) (fun _ _ _ _ _ => pts_nil) (fun _ _ _ _ _ => by exact (pe_d d_is_row hr (by decide) rfl (pa_cons (pv 1) pa_nil)))) pa_nil))))), fun Q k => ?_⟩
  try dsimp only [List.map]
  refine' q_no a (evt_or (a := false) ?h1 fun _ => evt_or (a := false) ?h2 fun _ => evt_or (a := false) (EvT.is (evt_not (evt_test (evd_c1 M.L ?hs ?h3))) (by rw [hw.nm]; rfl)) fun _ => ?h4) fun H1 a1 => ?h5
  case h1 => exact evt_not (evt_test (b := true) (by walk_at "ev"))
  case h2 => exact evt_test (evd_op (evd_cb (eva_cons (evd_var a rfl) eva_nil) cv_len) evd_i ov_neI)
  case hs => exact ⟨Nat.le_trans hw.l1 (by decide), fun x hx => Nat.le_trans (hw.l2 x hx) (by decide)⟩
  case h3 => exact eva_cons (evd_ix0 (evd_var a rfl)) eva_nil
  case h4 => exact evt_not (evt_test (b := true) (evd_isi (d := .tuple (M.R.map eR)) (evd_ix1 (evd_var a rfl)) kb_tt))
  case h5 =>
    refine' f_ret a1 (evd_all (p := fun r : Rw => r.all fun p => isWd p.2) (evl_lcn (l := M.R) (en := eR) _ a1 (src_tup (evd_ix1 (evd_var a1 rfl))) (Nat.le_trans hw.r1 (by decide)) ?h3 fun x σ' H2 hm a2 => evd_c1 x ⟨by rw [hw.rl x hm]; exact Nat.le_trans hw.l1 (by decide), fun p hp => Nat.le_trans (hw.sz x hm p hp) (by decide)⟩ ?h4)) fun v H' e hv => k v H' e ?h6
    case h3 => decide
    case h4 => walk_at "ea"
    case h6 =>
      have e0 : (M.R.all fun r => r.all fun p => isWd p.2) = true := List.all_eq_true.mpr fun r hr => List.all_eq_true.mpr fun p hp => hw.wd r hr p hp
      rw [e0] at hv
      exact hv
abbrev s_lets_machine : Stmt := top 42
theorem sc_lets_machine : FnScope ["thing", "letters", "rows", "k", "row", "j", "after", "word"] ["thing"] (defScope s_lets_machine) := ⟨rfl, rfl, rfl, by decide +kernel, rfl, by decide +kernel, by decide +kernel⟩
abbrev SpLetsMachine (K : PySem.W.Frag) : Sp := spQ K Wf (fun M => [eM M]) (fun M => .int (M.R.length : Int))
theorem df_lets_machine (T : Top mg) (F : Fn K mg "lets_machine" "lets_machine" s_lets_machine) (d_has_shape : Df P w K mg base 5 "has_shape" (SpHasShape K)) (d_is_letters : Df P w K mg base 4 "is_letters" (SpIsLetters K)) (d_require_machinechecker : Df P w K mg base 1 "require_machinechecker" (SpRequireM K)) : Df P w K mg base 6 "lets_machine" (SpLetsMachine K) := by
  refine df_pure F sc_lets_machine (fun _ _ _ _ _ _ us hl => match us, hl with | [_], _ => rfl) (fun _ => rfl) (fun M f cdv A outer s H σ E hw a hr => ?_)
  refine ⟨_, (pss_cons (ps_expr (pe_d d_require_machinechecker hr (by decide) rfl (pa_cons (pe_d d_has_shape hr (by decide) rfl (pa_cons (pv 0) pa_nil)) (pa_cons pe_str (pa_cons (pe_un un_neg pe_int) pa_nil)))))
      (pss_cons (ps_asg (pv 0) (pg_pair K (by rfl) (i := 1) (j := 2) rfl sc_lets_machine.nd rfl rfl (by first | exact Or.inl rfl | exact Or.inr rfl) (by first | exact Or.inl rfl | exact Or.inr rfl) (by first | exact Or.inl rfl | exact Or.inr rfl) (by first | exact Or.inl rfl | exact Or.inr rfl)))
      (pss_cons (ps_expr (pe_d d_require_machinechecker hr (by decide) rfl (pa_cons (pe_d d_is_letters hr (by decide) rfl (pa_cons (pv 1) pa_nil)) (pa_cons pe_str (pa_cons (pe_un un_neg pe_int) pa_nil)))))
      (pss_cons (ps_expr (pe_d d_require_machinechecker hr (by decide) rfl (pa_cons (pe_cmpR op_gt (pe_callB (c_len' K (by rfl)) (by rfl) T.len_ (by decide +kernel) (pa_cons (pv 2) pa_nil)) pe_int (nomark _)) (pa_cons pe_str (pa_cons (pe_un un_neg pe_int) pa_nil)))))
      (pss_cons (ps_for PassesOwn.never rfl (pi_enumT K (by rfl) (by rfl) T.enumerate_ (pa_cons (pv 2) pa_nil)) (pg_pair K (by rfl) (i := 3) (j := 4) rfl sc_lets_machine.nd rfl rfl (by first | exact Or.inl rfl | exact Or.inr rfl) (by first | exact Or.inl rfl | exact Or.inr rfl) (by first | exact Or.inl rfl | exact Or.inr rfl) (by first | exact Or.inl rfl | exact Or.inr rfl)) (pss_cons (ps_expr (pe_d d_require_machinechecker hr (by decide) rfl (pa_cons (pe_cmpR op_eq (pe_callB (c_len' K (by rfl)) (by rfl) T.len_ (by decide +kernel) (pa_cons (pv 4) pa_nil)) (pe_callB (c_len' K (by rfl)) (by rfl) T.len_ (by decide +kernel) (pa_cons (pv 1) pa_nil)) (nomark _)) (pa_cons pe_str (pa_cons (pv 3) pa_nil)))))
      (pss_one (ps_for PassesOwn.never rfl (pi_enumT K (by rfl) (by rfl) T.enumerate_ (pa_cons (pv 4) pa_nil)) (pg_npair K (by rfl) (l := 5) (i := 6) (j := 7) rfl sc_lets_machine.nd rfl rfl rfl (by first | exact Or.inl rfl | exact Or.inr rfl) (by first | exact Or.inl rfl | exact Or.inr rfl) (by first | exact Or.inl rfl | exact Or.inr rfl) (by first | exact Or.inl rfl | exact Or.inr rfl) (by first | exact Or.inl rfl | exact Or.inr rfl) (by first | exact Or.inl rfl | exact Or.inr rfl)) (pss_one (ps_expr (pe_d d_require_machinechecker hr (by decide) rfl (pa_cons (pe_chain op_le op_lt pe_int (pv 6) (pe_callB (c_len' K (by rfl)) (by rfl) T.len_ (by decide +kernel) (pa_cons (pv 2) pa_nil))) (pa_cons pe_str (pa_cons (pe_tup (pa_cons (pv 3) (pa_cons (pv 5) pa_nil))) pa_nil))))))))))
      (pss_one (ps_ret (pe_callB (c_len' K (by rfl)) (by rfl) T.len_ (by decide +kernel) (pa_cons (pv 2) pa_nil))))))))), fun Q k => ?_⟩
  try dsimp only [List.map]
  refine' q_drop a (evd_c1 (("shape" : Str), PyData.int (-1)) True.intro (eva_cons (evd_c1 M hw (eva_cons (evd_var a rfl) eva_nil)) (eva_cons evd_s (eva_cons (evd_neg evd_i) eva_nil)))) fun H1 a1 => ?_
  refine' q_asgP a1 (evd_var a1 rfl) fun σ2 H2 a2 => ?_
  have hsh : Short M.L := ⟨Nat.le_trans hw.l1 (by decide), fun x hx => Nat.le_trans (hw.l2 x hx) (by decide)⟩
  have e1 : ((allNm M.L && ascB M.L) && decide (0 < (M.L.length : Int))) = true := by
    have := hw.l0
    rw [hw.nm, hw.asc]
    simp
    omega
  refine' q_drop a2 (evd_c1 (("letters" : Str), PyData.int (-1)) True.intro (eva_cons (EvD.is (evd_c1 M.L hsh (eva_cons (evd_var a2 rfl) eva_nil)) (by rw [e1])) (eva_cons evd_s (eva_cons (evd_neg evd_i) eva_nil)))) fun H3 a3 => ?_
  have e2 : decide (((M.R.map eR).length : Int) > 0) = true := by
    have := hw.r0
    simp
    omega
  refine' q_drop a3 (evd_c1 (("rows" : Str), PyData.int (-1)) True.intro (eva_cons (EvD.is (evd_op (evd_cb (eva_cons (evd_var a3 rfl) eva_nil) cv_len) evd_i (ov_I0 fun _ => Dt.bl _)) (by rw [e2])) (eva_cons evd_s (eva_cons (evd_neg evd_i) eva_nil)))) fun H4 a4 => ?_
  refine' q_forS (l := (List.range M.R.length).zip M.R) (en := fun p => .tuple [.int (p.1 : Int), eR p.2]) (Γf := fun _ => [.d (eM M), .d (.tuple (M.L.map .str)), .d (.tuple (M.R.map eR)), .o, .o, .o, .o, .o]) (Θf := fun _ => []) a4 ?hs ?hw rfl (fun G st i x v σ5 H5 hi a5 hv => g_pair a5 hv fun σ6 a6 => ?_) fun σ5 H5 a5 => ?_
  case hs =>
    rw [← enumD_map]
    exact srcS_enumT (eva_cons (evd_var a4 rfl) eva_nil)
  case hw => walk_at "wk"
  · obtain ⟨n, r⟩ := x
    have hr' : r ∈ M.R := (List.of_mem_zip (List.mem_of_getElem? hi)).2
    have e3 : decide (((r.map eP).length : Int) = ((M.L.map PyData.str).length : Int)) = true := by
      rw [List.length_map, List.length_map, hw.rl r hr']
      simp
    refine' q_drop a6 (evd_c1 (("row" : Str), PyData.int (n : Int)) True.intro (eva_cons (EvD.is (evd_op (evd_cb (eva_cons (evd_var a6 rfl) eva_nil) cv_len) (evd_cb (eva_cons (evd_var a6 rfl) eva_nil) cv_len) ov_eqI) (by rw [e3])) (eva_cons evd_s (eva_cons (evd_var a6 rfl) eva_nil)))) fun H7 a7 => ?_
    refine' s_forS (l := (List.range r.length).zip r) (en := fun p => .tuple [.int (p.1 : Int), eP p.2]) (Γf := fun _ => [.d (eM M), .d (.tuple (M.L.map .str)), .d (.tuple (M.R.map eR)), .d (.int (n : Int)), .d (eR r), .o, .o, .o]) (Θf := fun _ => []) a7 ?hs ?hw rfl (fun G st i x v σ8 H8 hi a8 hv => g_npair a8 hv fun σ9 a9 => ?_) fun σ8 H8 a8 => a8.weak ?_
    case hs =>
      rw [← enumD_map]
      exact srcS_enumT (eva_cons (evd_var a7 rfl) eva_nil)
    case hw => walk_at "wk"
    · obtain ⟨j, p⟩ := x
      have hp : p ∈ r := (List.of_mem_zip (List.mem_of_getElem? hi)).2
      have hlt := hw.rn r hr' p hp
      have e4 : (decide ((0 : Int) ≤ (p.1 : Int)) && decide ((p.1 : Int) < ((M.R.map eR).length : Int))) = true := by
        rw [List.length_map]
        simp
        omega
      refine' s_drop a9 (evd_c1 (("next" : Str), PyData.tuple [.int (n : Int), .int (j : Int)]) True.intro (eva_cons (EvD.is (evd_chain evd_i (evd_var a9 rfl) (evd_cb (eva_cons (evd_var a9 rfl) eva_nil) cv_len) (ov_I0 fun _ => Dt.bl _) (ov_I0 fun _ => Dt.bl _)) (by rw [e4])) (eva_cons evd_s (eva_cons (evd_tup (eva_cons (evd_var a9 rfl) (eva_cons (evd_var a9 rfl) eva_nil))) eva_nil)))) fun H10 a10 => a10.weak ?_
      walk_at "wk"
    · walk_at "wk"
  · refine' f_ret a5 (evd_cb (eva_cons (evd_var a5 rfl) eva_nil) cv_len) fun v H' e hv => k v H' e ?_
    rw [List.length_map] at hv
    exact hv
end
end K15

/-! part E2 -/
set_option Elab.async false
set_option linter.all false
set_option maxRecDepth 100000
set_option maxHeartbeats 1000000
/-! dict(zip(t, u)) of two tuples of the same length -/
namespace K15z
open PySem
section
variable {prog : Program} {w : World} {A : Around} {E : Value → Shared → Prop} {s : Shared} {z TI TO T i1 i2 l1 l2 : Addr} {f : Bool} {oT : Obj} {k : Nat} {xs ys : Array Value} {x y : Value}
theorem held_item {Q : Option Value → Shared → Prop} (D : ZipApart z TI TO i1 i2 l1 l2) (hz : IsZipHeld s.heap z TI TO T f) (hT : s.heap.get? T = some oT) (hTI : IsPair s.heap TI (.ref i1) (.ref i2))
    (h1 : s.heap.IsTupleIter i1 l1 k) (h2 : s.heap.IsTupleIter i2 l2 k) (t1 : s.heap.IsTuple l1 xs) (t2 : s.heap.IsTuple l2 ys) (hx : xs[k]? = some x) (hy : ys[k]? = some y)
    (hQ : ∀ h', IsZipHeld h' z TI TO T true → h'.IsTupleIter i1 l1 (k + 1) → h'.IsTupleIter i2 l2 (k + 1) → IsPair h' s.heap.objs.size x y →
      (∀ c o, c ≠ z → c ≠ i1 → c ≠ i2 → s.heap.get? c = some o → h'.get? c = some o) → Q (some (.ref s.heap.objs.size)) { s with heap := h' }) : wpAny (model prog w) A (pyNext (.ref z)) Q E s := by
  have ty : s.TypeIs (.ref z) "zip" := ⟨_, hz, rfl⟩
  unfold pyNext
  refine wpAny_bind (wpAny_attempt (wpAny_callSpecial?_slot (name := Str.ofString "__next__") ty F.slot_zip_next (wpAny_call_entry F.slot_zip_next ty F.entry_zip_next ?_ (F.args_zip_next_1 _))))
  show wpAny _ _ (field (.ref z) 2 >>= _) _ _ _
  refine wpAny_bind (wpAny_field hz rfl (x := .bool false) rfl ?_)
  show wpAny _ _ (field (.ref z) 3 >>= _) _ _ _
  refine wpAny_bind (wpAny_field hz rfl (x := .ref TI) rfl (wpAny_bind (wpAny_seqItems hTI rfl ?_)))
  show wpAny _ _ (Builtin.SmallTypes.ownedTupleIsFree (.ref z) >>= _) _ _ _
  refine wpAny_bind (wpAny_tupleHeld_zip hz hT fun ha za sa => ?_)
  simp only [Bool.false_eq_true, if_false]
  rw [← Array.forIn_toList]
  simp only [List.forIn_cons, List.forIn_nil]
  refine wpAny_bind (wpAny_bind (wpAny_bind (wpAny_holding ?_)))
  show wpAny _ _ (Builtin.SmallTypes.nextOf (.ref i1) >>= _) _ _ _
  refine wpAny_bind (wpAny_nextOf_tuple_item (s := { s with heap := ha }) (h1.extBut sa.extBut D.i1z) (t1.extBut sa.extBut D.l1z) hx fun hb i1b sb => wpAny_pure (wpAny_pure (wpAny_bind (wpAny_bind (wpAny_holding ?_)))))
  show wpAny _ _ (Builtin.SmallTypes.nextOf (.ref i2) >>= _) _ _ _
  refine wpAny_bind (wpAny_nextOf_tuple_item (s := { s with heap := hb }) ((h2.extBut sa.extBut D.i2z).extBut sb.extBut D.i12.symm) ((t2.extBut sa.extBut D.l2z).extBut sb.extBut D.l2i1) hy fun hc i2c sc => wpAny_pure (wpAny_pure (wpAny_pure ?_)))
  show wpAny _ _ (newTuple [x, y] >>= _) _ _ _
  have sz : hc.objs.size = s.heap.objs.size := by rw [sc.1, sb.1, sa.1]
  refine wpAny_bind (wpAny_newTuple (wpAny_pure ⟨_, rfl, ?_⟩))
  show wpAny _ _ (pure (some (Value.ref hc.objs.size))) _ _ _
  have hp : IsPair (hc.push { cls := .type "tuple", data := .seq #[x, y] }) hc.objs.size x y := Heap.get?_push_size _ rfl
  rw [sz] at hp ⊢
  exact wpAny_pure (hQ _ (Heap.get?_push_of_some _ (sc.extBut _ _ D.i2z.symm (sb.extBut _ _ D.i1z.symm za))) ((i1b.extBut sc.extBut D.i12).at fun o e => Heap.get?_push_of_some _ e) (i2c.at fun o e => Heap.get?_push_of_some _ e) hp
    fun c o c1 c2 c3 e => Heap.get?_push_of_some _ (sc.extBut _ _ c3 (sb.extBut _ _ c2 (sa.extBut _ _ c1 e))))
theorem held_end {Q : Option Value → Shared → Prop} (hh : A.handled = none) (D : ZipApart z TI TO i1 i2 l1 l2) (hz : IsZipHeld s.heap z TI TO T f) (hT : s.heap.get? T = some oT) (hTI : IsPair s.heap TI (.ref i1) (.ref i2))
    (h1 : s.heap.IsTupleIter i1 l1 k) (t1 : s.heap.IsTuple l1 xs) (hx : xs[k]? = none)
    (hQ : ∀ h', (∀ c o, c ≠ z → c ≠ i1 → c ≠ i2 → s.heap.get? c = some o → h'.get? c = some o) → Q none { s with heap := h' }) : wpAny (model prog w) A (pyNext (.ref z)) Q E s := by
  have ty : s.TypeIs (.ref z) "zip" := ⟨_, hz, rfl⟩
  unfold pyNext
  refine wpAny_bind (wpAny_attempt (wpAny_callSpecial?_slot (name := Str.ofString "__next__") ty F.slot_zip_next (wpAny_call_entry F.slot_zip_next ty F.entry_zip_next ?_ (F.args_zip_next_1 _))))
  show wpAny _ _ (field (.ref z) 2 >>= _) _ _ _
  refine wpAny_bind (wpAny_field hz rfl (x := .bool false) rfl ?_)
  show wpAny _ _ (field (.ref z) 3 >>= _) _ _ _
  refine wpAny_bind (wpAny_field hz rfl (x := .ref TI) rfl (wpAny_bind (wpAny_seqItems hTI rfl ?_)))
  show wpAny _ _ (Builtin.SmallTypes.ownedTupleIsFree (.ref z) >>= _) _ _ _
  refine wpAny_bind (wpAny_tupleHeld_zip hz hT fun ha za sa => ?_)
  simp only [Bool.false_eq_true, if_false]
  rw [← Array.forIn_toList]
  simp only [List.forIn_cons, List.forIn_nil]
  refine wpAny_bind (wpAny_bind (wpAny_bind (wpAny_holding ?_)))
  show wpAny _ _ (Builtin.SmallTypes.nextOf (.ref i1) >>= _) _ _ _
  refine wpAny_bind (wpAny_nextOf_tuple_end (s := { s with heap := ha }) hh (h1.extBut sa.extBut D.i1z) (t1.extBut sa.extBut D.l1z) hx fun hb e sb he => ?_)
  obtain ⟨o, ho, hc⟩ := he
  refine wpAny_bind (wpAny_isInstance (T := "StopIteration") (b := true) ⟨o, ho, hc⟩ isSubtype_stop ?_)
  exact wpAny_pure (hQ _ fun c o c1 c2 _ x => sb _ _ c2 (sa.extBut _ _ c1 x))
end
/-- the zip as what dict() takes -/
theorem arg {prog : Program} {w : World} (z TI TO i1 i2 l1 l2 : Addr) (D : ZipApart z TI TO i1 i2 l1 l2) (xs ys : Array Value) (hn : xs.size = ys.size) :
    PairArg prog w "zip" z [z, TI, TO, i1, i2, l1, l2] [z, TO, i1, i2] xs.size (fun i k v => xs[i]? = some k ∧ ys[i]? = some v)
      (fun h => IsZip h z TI TO .none ∧ IsPair h TI (.ref i1) (.ref i2) ∧ (∃ a b, IsPair h TO a b) ∧ h.IsTupleIter i1 l1 0 ∧ h.IsTupleIter i2 l2 0 ∧ h.IsTuple l1 xs ∧ h.IsTuple l2 ys) where
  type := fun s ok => ⟨_, ok.1, rfl⟩
  notDict := by decide
  keep := fun h h' ok kp => let ⟨a, b, ⟨p, q, c⟩, d, e, f, g⟩ := ok
    ⟨kp _ _ a, kp _ _ b, ⟨p, q, kp _ _ c⟩, d.at fun o e => kp _ o e, e.at fun o e => kp _ o e, f.at fun o e => kp _ o e, g.at fun o e => kp _ o e⟩
  there := fun h ok b hb => by
    obtain ⟨a, b, ⟨p, q, c⟩, ⟨_, d, _⟩, ⟨_, e, _⟩, ⟨_, f, _⟩, ⟨_, g, _⟩⟩ := ok
    simp only [List.mem_cons, List.not_mem_nil, or_false] at hb
    rcases hb with rfl | rfl | rfl | rfl | rfl | rfl | rfl
    all_goals first | exact ⟨_, a⟩ | exact ⟨_, b⟩ | exact ⟨_, c⟩ | exact ⟨_, d⟩ | exact ⟨_, e⟩ | exact ⟨_, f⟩ | exact ⟨_, g⟩
  sub := fun b hb => by simp at hb ⊢; rcases hb with rfl | rfl | rfl | rfl <;> simp
  noKeys := fun A s Q E hA ok h => getAttrOr_miss_zip ok.1 rfl rfl rfl zip_no_keys (by decide +kernel) hA h
  iter := fun A s d Q E hA ok hd hdf h => by
    obtain ⟨hz, hTI, ⟨a, b, hTO⟩, h1, h2, t1, t2⟩ := ok
    simp only [List.mem_cons, List.not_mem_nil, or_false, not_or] at hdf
    obtain ⟨dz, dTI, dTO, di1, di2, dl1, dl2⟩ := hdf
    refine wpAny_pyIter_zip hz (h z [z, TO, i1, i2] (fun i h => IsPair h TI (.ref i1) (.ref i2) ∧ h.IsTupleIter i1 l1 i ∧ h.IsTupleIter i2 l2 i ∧ h.IsTuple l1 xs ∧ h.IsTuple l2 ys ∧
      ((IsZip h z TI TO .none ∧ ∃ a b, IsPair h TO a b) ∨ ∃ T f oT, IsZipHeld h z TI TO T f ∧ h.get? T = some oT ∧ (T ≠ z ∧ T ≠ i1 ∧ T ≠ i2) ∧ T ≠ d)) s.heap s.toks ?_
      ⟨hTI, h1, h2, t1, t2, .inl ⟨hz, a, b, hTO⟩⟩ (fun _ _ e => e) fun b hb => .inl hb)
    refine { off := ?_, frame := ?_, item := ?_, done := ?_ }
    · simp only [List.mem_cons, List.not_mem_nil, or_false, not_or]
      exact ⟨dz, dTO, di1, di2⟩
    · rintro i ha hb ⟨pI, p1, p2, q1, q2, hz⟩ kp
      refine ⟨kp _ _ (Ne.symm dTI) pI, p1.at fun o e => kp _ o (Ne.symm di1) e, p2.at fun o e => kp _ o (Ne.symm di2) e, q1.at fun o e => kp _ o (Ne.symm dl1) e, q2.at fun o e => kp _ o (Ne.symm dl2) e, ?_⟩
      exact hz.imp (fun ⟨hz, a, b, hTO⟩ => ⟨kp _ _ (Ne.symm dz) hz, a, b, kp _ _ (Ne.symm dTO) hTO⟩) fun ⟨T, f, oT, hz, hT, r, r4⟩ => ⟨T, f, oT, kp _ _ (Ne.symm dz) hz, kp _ _ r4 hT, r, r4⟩
    · rintro i s1 Q1 E1 hi ⟨pI, p1, p2, q1, q2, hz⟩ hds hQ
      have ex := Array.getElem?_eq_getElem hi
      have ey := Array.getElem?_eq_getElem (show i < ys.size by omega)
      have lt : ∀ {c o}, s1.heap.get? c = some o → s1.heap.objs.size ≠ c := fun e => Nat.ne_of_gt (Heap.lt_size e)
      have n1 : s1.heap.objs.size ≠ i1 := let ⟨_, e, _⟩ := p1; lt e
      have n2 : s1.heap.objs.size ≠ i2 := let ⟨_, e, _⟩ := p2; lt e
      rcases hz with ⟨hz, a, b, hTO⟩ | ⟨T, f, oT, hz, hT, ⟨r1, r2, r3⟩, r4⟩
      · refine RZ.pyNext_zipT_item D hz pI hTO p1 p2 q1 q2 ex ey fun h' a1 a2 a3 a4 a5 a6 kp => ?_
        exact hQ s1.heap.objs.size _ _ h' s1.toks ⟨ex, ey⟩ (.inl ⟨_, a5, rfl, _, rfl⟩)
          ⟨kp _ _ D.TIz D.TITO D.TIi1 D.TIi2 pI, a3, a4, q1.at fun o e => kp _ o D.l1z D.l1TO D.l1i1 D.l1i2 e, q2.at fun o e => kp _ o D.l2z D.l2TO D.l2i1 D.l2i2 e, .inr ⟨s1.heap.objs.size, false, _, a1, a5, ⟨lt hz, n1, n2⟩, Nat.ne_of_gt hds⟩⟩
          fun c o hc e => kp c o (fun x => hc (by simp [x])) (fun x => hc (by simp [x])) (fun x => hc (by simp [x])) (fun x => hc (by simp [x])) e
      · refine held_item D hz hT pI p1 p2 q1 q2 ex ey fun h' a1 a3 a4 a5 kp => ?_
        exact hQ s1.heap.objs.size _ _ h' s1.toks ⟨ex, ey⟩ (.inl ⟨_, a5, rfl, _, rfl⟩)
          ⟨kp _ _ D.TIz D.TIi1 D.TIi2 pI, a3, a4, q1.at fun o e => kp _ o D.l1z D.l1i1 D.l1i2 e, q2.at fun o e => kp _ o D.l2z D.l2i1 D.l2i2 e, .inr ⟨T, true, oT, a1, kp _ _ r1 r2 r3 hT, ⟨r1, r2, r3⟩, r4⟩⟩
          fun c o hc e => kp c o (fun x => hc (by simp [x])) (fun x => hc (by simp [x])) (fun x => hc (by simp [x])) e
    · rintro s1 Q1 E1 ⟨pI, p1, p2, q1, q2, hz⟩ hQ
      have he : xs[xs.size]? = none := Array.getElem?_eq_none (Nat.le_refl _)
      rcases hz with ⟨hz, a, b, hTO⟩ | ⟨T, f, oT, hz, hT, _, _⟩
      · exact RZ.pyNext_zipT_end hA D hz pI hTO p1 p2 q1 q2 (.inl he) fun h' kp => hQ h' s1.toks fun c o hc e => kp c o (fun x => hc (by simp [x])) (fun x => hc (by simp [x])) (fun x => hc (by simp [x])) (fun x => hc (by simp [x])) e
      · exact held_end hA D hz hT pI p1 q1 he fun h' kp => hQ h' s1.toks fun c o hc e => kp c o (fun x => hc (by simp [x])) (fun x => hc (by simp [x])) (fun x => hc (by simp [x])) e
end K15z
namespace K15
open PySem PySem.Spec PyProof.Rows L2 RZ
/-- the pairs of keys and values -/
theorem kv_zip {P : Program} {w : World} : ∀ {ks : List Key} {ys : List V} {us ws : List Value}, ks.length = ys.length → Vals (ks.map kV) us → Vals ys ws →
    ∃ prs : List (Key × Value), KV (ks.zip ys) prs ∧ prs.length = us.length ∧ ∀ (i : Nat) (k v : Value), us[i]? = some k → ws[i]? = some v → ∃ q, prs[i]? = some (q, v) ∧ (mixKind P w).is q k = true
  | [], [], _, _, _, .nil, .nil => ⟨[], .nil, rfl, fun i k v e => by simp at e⟩
  | k :: ks, y :: ys, _, _, hl, .cons r1 r2, .cons s1 s2 => by
    obtain ⟨prs, a, b, c⟩ := kv_zip (P := P) (w := w) (Nat.succ.inj hl) r2 s2
    refine ⟨(k, _) :: prs, .cons ⟨rfl, s1⟩ a, congrArg Nat.succ b, fun i u v e f => ?_⟩
    cases i with
    | zero =>
      cases Option.some.inj e
      cases Option.some.inj f
      exact ⟨k, rfl, kV_is r1⟩
    | succ i => exact c i u v (by simpa using e) (by simpa using f)
def tDictZip (K : PySem.W.Frag) (ta : TA) : TE := fun σ H Q => ta σ H fun vs H1 => ∃ (a b : Addr) (ks : List Key) (ys : List V), vs = [.ref a, .ref b] ∧ SqT K H1 a (ks.map kV) ∧ SqT K H1 b ys ∧ ks.length = ys.length ∧ ∀ p, H1 p = none → Q (.ref p) (upd H1 p (.dK (mergeK [] (ks.zip ys))))
theorem pe_dictZip {X : Cx} (K : PySem.W.Frag) (hK : X.K = K) (hc : X.calm = true) {e e2 : Expr} {ta : TA} {p p2 pos pos2 : Pos} (hgd : Gl X "dict") (hmd : X.mg "dict" = none) (hg : Gl X "zip") (hm : X.mg "zip" = none) (ha : PA X [e, e2] ta)
    (hs : starEach [e, e2] X.env = (false, eval e X.env) :: starEach [e2] X.env := by rfl) (hpl : (backTo pos (starEach [e2] X.env)).any (·.1) = false := by rfl)
    (hs2 : starEach [.Call (.Name "zip" p) [e, e2] [] pos] X.env = (false, eval (.Call (.Name "zip" p) [e, e2] [] pos) X.env) :: starEach [] X.env := by rfl) : PE X (.Call (.Name "dict" p2) [.Call (.Name "zip" p) [e, e2] [] pos] [] pos2) (tDictZip K ta) := by
  subst hK
  refine ⟨fun pins s σ H Q I h => ?_⟩
  refine Call_ (ld_blt I hgd hmd PyProof.Rows.boot_dict (PyProof.Rows.callWith_type1 (args_cons ?_ hs2) hs2))
  refine Call_ (ld_blt I hg hm PyProof.Rows.boot_zip (PyProof.Rows.callWith_type1 (thn (ha.run pos pins s σ H _ I h) fun us s1 ⟨vs, H1, I1, r1, q1⟩ => ?_) hs hpl))
  obtain ⟨a, b, ks, ys, ex, hqx, hqy, hl, q⟩ := q1
  subst ex
  cases r1 with
  | cons r rr =>
    cases rr with
    | cons r' rr =>
      cases rr
      cases r
      cases r'
      obtain ⟨its, rv, p1, hz1⟩ := I1.tuple hqx
      obtain ⟨its2, rv2, p2, _⟩ := I1.tuple hqy
      obtain ⟨o1, ho1, _⟩ := id p1
      obtain ⟨o2, ho2, _⟩ := id p2
      have p1 : s1.heap.IsTuple a its.toArray := p1
      have p2 : s1.heap.IsTuple b its2.toArray := p2
      refine call_zipT p1 p2 fun h' hz hTI hTO h1 h2 hsz hk => args_nil ?_
      have D := PySem.W.ktu_apart s1.heap.objs.size a b (Heap.lt_size ho1) (Heap.lt_size ho2)
      have e1 : its.length = ks.length := by
        have := rv.length
        rw [List.length_map] at this
        exact this.symm
      have e2 : its2.length = ys.length := rv2.length.symm
      obtain ⟨prs, kv, lp, hp⟩ := kv_zip (P := X.prog) (w := X.w) hl rv rv2
      have I2 : Inv X pins σ H1 { s1 with heap := h' } := I1.kept (t' := s1.toks) hk
      have hlen : prs.length ≤ sizeLine := by
        rw [lp, e1]
        rw [List.length_map] at hz1
        exact hz1
      refine call_dict_pairs (s := { s1 with heap := h' }) (knd := mixKind X.prog X.w) (kvs := prs) (K15z.arg (prog := X.prog) (w := X.w) _ _ _ _ _ _ _ D its.toArray its2.toArray (by simp; omega)) (I1.ok.hd hc)
        ⟨hz, hTI, ⟨_, _, hTO⟩, h1, h2, p1.at fun o e => hk _ _ e, p2.at fun o e => hk _ _ e⟩ ⟨by simp [lp], fun i k v e => ?_⟩ (by simp; omega) fun h'' tk hd kp => ?_
      · exact hp i k v (by simpa using e.1) (by simpa using e.2)
      · have fr : ∀ c, c ∈ [s1.heap.objs.size + 4, s1.heap.objs.size + 3, s1.heap.objs.size, s1.heap.objs.size + 1] → FpOk X pins H1 c := fun c hcm => by
          have hle : s1.heap.objs.size ≤ c := by
            simp only [List.mem_cons, List.not_mem_nil, or_false] at hcm
            rcases hcm with z | z | z | z <;> rw [z]
            · exact Nat.le_add_right _ _
            · exact Nat.le_add_right _ _
            · exact Nat.le_refl _
            · exact Nat.le_add_right _ _
          exact I1.fpOk hle (I1.hok.fresh hle)
        have hb : (h'.objs.size == sysModules) = false := beq_eq_false_iff_ne.mpr (Nat.ne_of_gt I2.big)
        have hlen2 : (mergeK [] (ks.zip ys)).length ≤ sizeLine := by
          refine Nat.le_trans (length_mergeK _ []) ?_
          rw [kv.length]
          simpa using hlen
        have new : ObjOk X.prog X.w (upd H1 h'.objs.size (.dK (mergeK [] (ks.zip ys)))) h'' h'.objs.size (.dK (mergeK [] (ks.zip ys))) := ⟨hlen2, hb, merged [] prs, KV.merge kv .nil, hd⟩
        exact ⟨.ref h'.objs.size, upd H1 h'.objs.size (.dK (mergeK [] (ks.zip ys))), I2.turnedNew (t' := tk) (ch := [s1.heap.objs.size + 4, s1.heap.objs.size + 3, s1.heap.objs.size, s1.heap.objs.size + 1]) (fun b o hb q => kp b o hb q) fr (Nat.le_refl _) new, rfl, q _ (I2.hok.fresh (Nat.le_refl _))⟩
end K15

/-! part E3 -/
set_option Elab.async false
set_option linter.all false
set_option maxRecDepth 100000
set_option maxHeartbeats 1000000
namespace K15
open PySem PySem.Spec PyProof.Rows L2 RZ
section
variable {P : Program} {w : World} {K : PySem.W.Frag} {mg : Str → Option Value} {base : Heap}
theorem Df.imp {k : Nat} {x : Str} {sp sp' : Sp} (D : Df P w K mg base k x sp) (h : ∀ vs H Q E, sp' vs H Q E → sp vs H Q E) : Df P w K mg base k x sp' := let ⟨f, a, b, c⟩ := D.ex; ⟨f, a, b, c.imp h⟩
theorem DtAll.split {H : Hp} : ∀ {ds es : List PyData} {vs : List V}, DtAll K H vs (ds ++ es) → ∃ v1 v2, vs = v1 ++ v2 ∧ DtAll K H v1 ds ∧ DtAll K H v2 es
  | [], _, vs, h => ⟨[], vs, rfl, .nil, h⟩
  | d :: ds, _, _, h => by
    cases h with
    | cons h1 h2 =>
      obtain ⟨a, b, e, h3, h4⟩ := DtAll.split h2
      exact ⟨_ :: a, b, by rw [e]; rfl, .cons h1 h3, h4⟩
/-- def f(a, *v): data in, data out; the star parameter a tuple of data -/
theorem df_pureS {I : Type} {pre : I → Prop} {arg rest : I → List PyData} {res : I → PyData} {k : Nat} {x nm pv : Str} {st : Stmt} {N ps : List Str} (F : Fn K mg x nm st) (S : FnScope N (ps ++ [pv]) (defScope st))
    (hb : ∀ (kV doc pm : Value) (an : Option Addr) (cdv ct : Value) (us rest : List Value), us.length = ps.length → bindArgs (PySem.W.fnOf nm nm (defArgs st) (defBody st) (defScope st) .none kV doc pm an cdv ct) ⟨us ++ rest, []⟩ = (newTuple rest >>= fun t => pure (ps.zip us ++ [(pv, t)])))
    (len : ∀ i, (arg i).length = ps.length) (hz : ∀ i, pre i → (rest i).length ≤ 100000)
    (hbody : ∀ (i : I) (f : Addr) (cdv : Value) (A : Around) (outer : List Env) (s : Shared) (H : Hp) (σ : L2.St) (E : XK), pre i → At K (.of H) (startG N.length (arg i ++ [.tuple (rest i)])) [] σ H → Room k (A.deeper (envOfC nm (defScope st) s.heap.objs.size f cdv)) →
      ∃ t, PSs (cxOf CX0 P w K mg base N nm (defScope st) f cdv A outer s H E).nox (defBody st) t ∧ ∀ Q : VK, (∀ v H', Same H H' → Dt K H' v (res i) → Q v H') → t { nx := fun _ H' => Q .non H', rt := Q } σ H) :
    Df P w K mg base (k + 1) x (spQ K pre (fun i => arg i ++ rest i) res) := by
  obtain ⟨f, fd, hm, G⟩ := F.ex
  have kp := G.kp
  obtain ⟨oc, od, dV, kV, doc, pm, an, cdv, ct, osl, rfl, lk, hcd, hD, hK⟩ := G.ex
  rcases hD with ⟨_, rfl⟩ | ⟨e, _⟩
  · refine ⟨f, hm, kp, ?_⟩
    refine (StX.fn_star (sp := fun vs H Q E => ∃ i, pre i ∧ DtAll K H vs (arg i ++ [.tuple (rest i)]) ∧ ∀ v H', Same H H' → Dt K H' v (res i) → Q v H') lk hcd S StX.cxUp_none (hb kV doc pm an cdv ct) fun A outer s H vs Q E hr h => ?_).imp fun vs H Q E h => ?_
    · obtain ⟨i, hp, hv, q⟩ := h
      obtain ⟨t, a, b⟩ := hbody i f cdv A outer s H _ E hp (At.start hv) hr
      exact ⟨t, a.nox, b Q q⟩
    · obtain ⟨i, hp, hv, q⟩ := h
      obtain ⟨v1, v2, rfl, h1, h2⟩ := hv.split
      refine ⟨v1, v2, rfl, by rw [h1.length, len i], by rw [h2.length]; exact sz_of (hz i hp), fun p hpn => ⟨i, hp, ?_, fun v H' e hd => q v H' ((sm_new hpn).trans e) hd⟩⟩
      exact (h1.mono (sm_new hpn)).append (.cons (.tup (SqT.of upd_same) (h2.mono (sm_new hpn))) .nil)
  · exact absurd rfl e
/-! ### keyword-only parameters -/
theorem kbinds0 {x qual : Str} {params : Arguments} {body : List Stmt} {scope : Scope} {kws : List (Str × V)} {f : Addr} {fd : FuncData} {ps : List Str} (F : FunD K x qual params body scope [] kws f fd) (n : Nat) (ks : List Str) (ms : List (Str × V)) (g : {α : Type} → List α → List α → List α → List α) (hk : kws ≠ []) (hms : ∀ q ∈ ms, q ∈ kws)
    (hrel : ∀ {vs mz zs : List V} {us mv ws : List Value}, Vals vs us → Vals mz mv → Vals zs ws → Vals (g vs mz zs) (g us mv ws))
    (h : ∀ (D : Addr) (doc pm : Value) (an : Option Addr) (cdv ct : Value) (us mv ws : List Value), us.length = n → mv.length = ms.length → ws.length = ks.length →
      KwChain D ((ms.map (·.1)).zip mv) (bindArgs (PySem.W.fnOf x qual params body scope .none (.ref D) doc pm an cdv ct) ⟨us, ks.zip ws⟩) (ps.zip (g us mv ws))) :
    ∃ mv : List Value, KBn K fd ps n ks (fun us ws => g us mv ws) (fun vs zs => g vs (ms.map (·.2)) zs) := by
  obtain ⟨oc, od, dV, kV, doc, pm, an, cdv, ct, osl, rfl, lk, hcd, hD, hK⟩ := F.ex
  rcases hD with ⟨_, rfl⟩ | ⟨e, _⟩
  · rcases hK with e | ⟨D, rfl, hq⟩
    · exact absurd e hk
    · obtain ⟨mv, hl, rk, hks⟩ := kwd_vals (ms := ms) fun q hm => hq q (hms q hm)
      exact ⟨mv, ⟨fun s us ws X l1 l2 => BindsTo.of_looks fun M => KwChain.looks X hks (h D doc pm an cdv ct us mv ws l1 hl l2), fun r1 r2 => hrel r1 rk r2⟩⟩
  · exact absurd rfl e
abbrev SpK := List V → List V → Hp → VK → XK → Prop
structure Dk (P : Program) (w : World) (K : PySem.W.Frag) (mg : Str → Option Value) (base : Heap) (k : Nat) (x : Str) (n : Nat) (ks : List Str) (sp : SpK) : Prop where
  ex : ∃ (f : Addr) (fd : FuncData) (ps : List Str) (sp0 : Sp) (g : List Value → List Value → List Value) (gV : List V → List V → List V), mg x = some (.ref f) ∧ PySem.W.keepIn K (.ref f) = true ∧ FnOk P w K mg base CX0 k f fd ps sp0 ∧ KBn K fd ps n ks g gV ∧ ∀ vs zs H Q E, sp vs zs H Q E → sp0 (gV vs zs) H Q E
def tCallKR (n m : Nat) (sp : SpK) (t tk : TA) : TE := fun σ H Q => t σ H fun vs H1 => tk σ H1 fun zs H2 => vs.length = n ∧ zs.length = m ∧ sp vs zs H2 Q E0
end
theorem pe_dk {X : Cx} {j k n : Nat} {x : Str} {ks : List Str} {sp : SpK} {p pos : Pos} {e : Expr} {es : List Expr} {kws : List Keyword} {t tk : TA} (D : Dk X.prog X.w X.K X.mg X.base k x n ks sp) (hr : Room j X.A) (hk : k ≤ j) (hg : Gl X x)
    (ha : PA X (e :: es) t) (hkw : PK X kws tk) (hall : (backToKw pos (keywordEach kws X.env)).all (·.1.isSome) = true := by rfl) (hks : (backToKw pos (keywordEach kws X.env)).filterMap (·.1) = ks := by rfl)
    (hdb : (x == ("__debug__" : Str)) = false := by decide) (he : starEach (e :: es) X.env = (false, eval e X.env) :: starEach es X.env := by rfl)
    (hpl : ((backTo pos (starEach (e :: es) X.env)).any (·.1) || (backToKw pos (keywordEach kws X.env)).any (·.1.isNone)) = false := by rfl) :
    PE X (.Call (.Name x p) (e :: es) kws pos) (tCallKR n ks.length sp t tk) := by
  obtain ⟨f, fd, ps, sp0, g, gV, hm, hkp, F, hb, hs⟩ := D.ex
  refine ⟨fun pins s σ H Q I h => ?_⟩
  refine wpAny_Call_Name_kw (ld_glob I hg hm ?_ hdb)
  refine PySem.W.callWith_KW (h₀ := X.base) I.ok.mod.kin hkp hall (thn (ha.run pos pins s σ H _ I h) fun us s1 ⟨vs, H1, I1, r, q⟩ => ?_) hpl he
  refine thn (hkw.run pos pins s1 σ H1 _ I1 q) fun ws s2 ⟨zs, H2, I2, rz, l1, l2, q2⟩ => ⟨I2.kIn, ?_⟩
  rw [hks]
  exact run_fnN F (hr.mono hk) hb pass0 I2 r rz l1 l2 (hs _ _ _ _ _ q2)
def spKQ {I : Type} (K : PySem.W.Frag) (pre : I → Prop) (arg kw : I → List PyData) (res : I → PyData) : SpK := fun vs zs H Q _ => ∃ i, pre i ∧ DtAll K H vs (arg i) ∧ DtAll K H zs (kw i) ∧ ∀ v H', Same H H' → Dt K H' v (res i) → Q v H'
theorem evd_k1 {K : PySem.W.Frag} {I : Type} {pre : I → Prop} {arg kw : I → List PyData} {res : I → PyData} {σ : L2.St} {H : Hp} {t tk : TA} {n m : Nat} (i : I) (hp : pre i) (h : EvA K t σ H (arg i)) (h2 : EvA K tk σ H (kw i)) (hn : (arg i).length = n) (hm : (kw i).length = m) : EvD K (tCallKR n m (spKQ K pre arg kw res) t tk) σ H (res i) := fun H1 e Q q =>
  h H1 e _ fun vs H2 e2 hv => h2 H2 (e.trans e2) _ fun zs H3 e3 hz => ⟨by rw [hv.length, hn], by rw [hz.length, hm], i, hp, hv.mono e3, hz, fun v H4 e4 h4 => q v H4 ((e2.trans e3).trans e4) h4⟩
end K15

/-! part D4 -/
set_option Elab.async false
set_option linter.all false
set_option maxRecDepth 100000
set_option maxHeartbeats 1000000
namespace K15
open PySem PySem.Spec PyProof.Rows L2 RZ
/-! ### steps by a word -/
local macro_rules | `(tactic| walk_at "ov") => `(tactic| first
  | with_reducible exact ov_eqS
  | with_reducible exact ov_eqI
  | with_reducible exact ov_neS
  | with_reducible exact ov_neI
  | with_reducible exact ov_neB
  | with_reducible exact ov_ltS
  | with_reducible exact ov_inS
  | with_reducible exact ov_I0 (fun _ => Dt.int _)
  | with_reducible exact ov_I0 (fun _ => Dt.bl _))
local macro_rules | `(tactic| walk_at "ev") => `(tactic| first
  | with_reducible exact evd_i
  | with_reducible exact evd_s
  | with_reducible exact evd_b
  | with_reducible exact evd_n
  | ((with_reducible refine' evd_var (by assumption) ?hv); (case hv => rfl))
  | with_reducible assumption
  | ((with_reducible refine' evd_op ?ha ?hb ?hr); (case ha => walk_at "ev"); (case hb => walk_at "ev"); (case hr => walk_at "ov"))
  | ((with_reducible refine' evd_and ?ha (fun hc => ?hb)); (case ha => walk_at "ev"); (case hb => walk_at "ev"))
  | ((with_reducible refine' evd_or ?ha (fun hc => ?hb)); (case ha => walk_at "ev"); (case hb => walk_at "ev"))
  | ((with_reducible refine' evd_not ?ha); (case ha => walk_at "ev"))
  | ((with_reducible refine' evd_isi ?ha ?hb); (case ha => walk_at "ev"); (case hb => first | exact kb_ii | exact kb_ib | exact kb_ss | exact kb_tt))
  | ((with_reducible refine' evd_tup ?ha ?hb); (case ha => walk_at "ea"); (case hb => first | decide | (simp only [List.length_cons, List.length_nil]; omega)))
  | ((with_reducible refine' evd_chain ?ha ?hb ?hc ?h1 ?h2); (case ha => walk_at "ev"); (case hb => walk_at "ev"); (case hc => walk_at "ev"); (case h1 => walk_at "ov"); (case h2 => walk_at "ov"))
  | ((with_reducible refine' evd_cb ?ha ?hb); (case ha => walk_at "ea"); (case hb => first | with_reducible exact cv_len | with_reducible exact cv_max2 | with_reducible exact cv_int1 | ((with_reducible refine' cv_lenS ?hz); (case hz => omega))))
  | ((with_reducible refine' evd_c1 _ ?hp ?ha); (case ha => walk_at "ea"); (case hp => first | exact True.intro | assumption | (show _ ≤ _; omega))))
local macro_rules | `(tactic| walk_at "ea") => `(tactic| first
  | with_reducible exact eva_nil
  | ((with_reducible refine' eva_cons ?ha ?hb); (case ha => walk_at "ev"); (case hb => walk_at "ea")))
local macro_rules | `(tactic| walk_at "et") => `(tactic| first
  | with_reducible assumption
  | ((with_reducible refine' evt_test ?ha); (case ha => walk_at "ev"))
  | ((with_reducible refine' evt_B ?ha); (case ha => walk_at "ev"))
  | ((with_reducible refine' evt_and ?ha (fun hc => ?hb)); (case ha => walk_at "et"); (case hb => walk_at "et"))
  | ((with_reducible refine' evt_or ?ha (fun hc => ?hb)); (case ha => walk_at "et"); (case hb => walk_at "et"))
  | ((with_reducible refine' evt_not ?ha); (case ha => walk_at "et")))

local macro_rules | `(tactic| walk_at "wk") => `(tactic| first
  | exact Weak.nil
  | ((refine' Weak.keep ?h); (case h => walk_at "wk"))
  | ((refine' Weak.drop ?h); (case h => walk_at "wk")))

/-! ### more readings -/
section
variable {K : PySem.W.Frag} {σ : L2.St} {H : Hp} {ta tb te td ty tl : TE} {d dx : PyData} {l : List (Key × PyData)} {ds : List PyData}
theorem mergeK_new : ∀ (l acc : List (Key × V)), ((acc ++ l).map (·.1)).Nodup → mergeK acc l = acc ++ l
  | [], acc, _ => (List.append_nil acc).symm
  | p :: l, acc, h => by
    have hn : ¬ p.1 ∈ acc.map (·.1) := fun hm => by
      rw [List.map_append, List.map_cons] at h
      exact (List.nodup_append.mp h).2.2 _ hm _ (List.mem_cons_self ..) rfl
    have e : putK acc p.1 p.2 = acc ++ [p] := putK_new p.2 (by
      cases hv : valV acc p.1 with
      | none => rfl
      | some v => exact absurd (valV_in hv) hn)
    show mergeK (putK acc p.1 p.2) l = _
    rw [e, mergeK_new l (acc ++ [p]) (by rwa [List.append_assoc]), List.append_assoc]
    rfl
theorem keyD_back {H : Hp} : ∀ {ks : List Key} {vs : List V}, DtAll K H vs (ks.map keyD) → vs = ks.map kV
  | [], _, h => by cases h; rfl
  | k :: ks, _, h => by
    cases h with
    | cons h1 h2 =>
      rw [keyD_back h2, keyD_inv h1]
      rfl
theorem dv_zip {H : Hp} : ∀ {ks : List Key} {ys : List V} {ds : List PyData}, DtAll K H ys ds → DV K H (ks.zip ys) (ks.zip ds)
  | [], _, _, _ => .nil
  | _ :: _, _, [], h => by cases h; exact .nil
  | k :: ks, _, d :: ds, h => by
    cases h with
    | cons h1 h2 => exact .cons ⟨rfl, h1⟩ (dv_zip h2)
theorem evk_dictZip {ta : TA} {ks : List Key} (h : EvA K ta σ H [.tuple (ks.map keyD), .tuple ds]) (hn : ks.Nodup) (hl : ks.length = ds.length) : EvK K (tDictZip K ta) σ H (ks.zip ds) := fun H1 e Q q => h H1 e _ fun vs H2 e2 hv => by
  obtain ⟨v, w, rfl, h1, h2⟩ := hv.two
  obtain ⟨a, xs, rfl, hs, ha⟩ := h1.tup_inv
  obtain ⟨b, ys, rfl, ht, hb⟩ := h2.tup_inv
  obtain rfl := keyD_back ha
  have ly : ks.length = ys.length := hl.trans hb.length.symm
  refine ⟨a, b, ks, ys, rfl, hs, ht, ly, fun p hp => q p _ (e2.free hp) (e2.trans (sm_new hp)) ⟨_, upd_same, ?_⟩⟩
  have e0 : ((ks.zip ys).map (·.1)).Nodup := by
    rw [List.map_fst_zip (by omega)]
    exact hn
  rw [mergeK_new (ks.zip ys) [] (by simpa using e0)]
  exact dv_zip (hb.mono (sm_new hp))
theorem evd_dgetK {key : Key} (h : EvK K td σ H l) (hk : EvD K ty σ H (keyD key)) (hg : getK l key = some d) : EvD K (tDGet td ty) σ H d := fun H1 e1 Q q =>
  h H1 e1 _ fun p H2 hp e2 hh => hk H2 (e1.trans e2) _ fun v H3 e3 hv => by
    obtain ⟨ks, hx, hd⟩ := hh.mono e3
    obtain ⟨w, hw, hwd⟩ := hd.some hg
    obtain rfl := keyD_inv hv
    exact ⟨p, w, rfl, hw ▸ DGet.k hx, q w H3 (e2.trans e3) hwd⟩
theorem evd_dget2K {key : Key} {tx : TE} (ho : EvK K td σ H l) (hk : EvD K ty σ H (keyD key)) (hx : EvD K tx σ H dx) (hg : (getK l key).getD dx = d) : EvD K (tDGet2 td ty tx) σ H d := fun H1 e1 Q q =>
  ho H1 e1 _ fun p H2 hp e2 h => by
    obtain ⟨ks0, hx0, _⟩ := h
    refine ⟨p, rfl, .inl ⟨ks0, .inl hx0⟩, hk H2 (e1.trans e2) _ fun v H3 e3 hv => hx H3 ((e1.trans e2).trans e3) _ fun w H4 e4 hw => ?_⟩
    obtain ⟨ks, hx, hd⟩ := (HasK.mono e4 (HasK.mono e3 ⟨ks0, hx0, by assumption⟩))
    obtain rfl := keyD_inv hv
    refine ⟨_, DGet.k hx, q _ H4 ((e2.trans e3).trans e4) ?_⟩
    cases hc : getK l key with
    | none =>
      rw [hd.none hc]
      rw [hc] at hg
      subst hg
      exact hw
    | some z =>
      obtain ⟨w', hw', hwd⟩ := hd.some hc
      rw [hw']
      rw [hc] at hg
      subst hg
      exact hwd
/-- a display of one pair -/
theorem evk_disp1 {tk tv : TE} {key : Key} (hk : EvD K tk σ H (keyD key)) (hv : EvD K tv σ H d) : EvK K (tDisp [(tk, tv)]) σ H [(key, d)] := fun H1 e Q q p hp =>
  hk _ (e.trans (sm_new hp)) _ fun y H2 e2 hy => hv H2 ((e.trans (sm_new hp)).trans e2) _ fun z H3 e3 hz => by
    obtain rfl := keyD_inv hy
    have h3 : H3 p = some (.dK []) := e3 _ _ (e2 _ _ upd_same)
    have es : Same H1 H3 := ((sm_new hp).trans e2).trans e3
    refine ⟨h3, [(key, z)], rfl, by simp, q p _ hp (sm_mut es hp) ⟨_, upd_same, ?_⟩⟩
    have im : Im H3 (upd H3 p (.dK (mergeK [] [(key, z)]))) := im_upd fun o e => by
      rw [h3] at e
      cases e
      exact True.intro
    exact .cons ⟨rfl, Dt.im im _ _ hz⟩ .nil
/-- enumerate of a list -/
theorem src_enumL {p : Addr} (ho : EvV tl σ H (.ref p)) (h : HasL K H p ds) : Src K (iEnum K (tCons tl tNil)) σ H (enumD ds) := ⟨fun H1 e R k => ho H1 e _ fun H2 e2 => by
  obtain ⟨xs, hx, hd⟩ := h.mono (e.trans e2)
  have W := walk_enum (K := K) (a := p) (xs := xs)
  have el : xs.length = (enumD ds).length := by simp [enumD, hd.length]
  rw [el] at W
  refine ⟨p, xs, rfl, SqL.of hx, k _ _ _ H2 e2 W (fun H3 e3 => SqL.of (e3 _ _ hx)) fun i x H3 H4 hi e3 y => ?_⟩
  have i1 : i < ds.length := by rw [← el, hd.length] at hi; exact hi
  have g1 : ds[i]? = some ds[i] := List.getElem?_eq_getElem i1
  obtain ⟨s, q⟩ := pair_yield (K := K) (d := .int (i : Int)) (e := ds[i]) (fun v hv => by cases hv; exact .int _) (fun v hv => by
    obtain ⟨d, hdd, hv⟩ := hd.getV hv
    rw [g1] at hdd
    cases hdd
    exact hv.mono e3) y
  refine ⟨s, _, ?_, q⟩
  unfold enumD
  rw [List.getElem?_zipWith]
  simp [i1]⟩
theorem flat_strs : ∀ ws : List Str, (ws.map V.str).all flatV = true
  | [] => rfl
  | w :: ws => by
    rw [List.map_cons, List.all_cons, flat_strs ws]
    rfl
theorem ov_inT {x : Str} {ws : List Str} : OvD K (rIn K false) (.str x) (.tuple (ws.map .str)) (.bool (decide (x ∈ ws))) := fun v u H Q hv hu q => by
  obtain ⟨a, xs, rfl, hs, ha⟩ := hu.tup_inv
  obtain rfl := ha.strs
  cases hv
  refine ⟨a, _, rfl, .inr hs, rfl, flat_strs ws, ?_⟩
  have e : inV (.str x) (ws.map V.str) = decide (x ∈ ws) := by
    clear q hs ha
    induction ws with
    | nil => rfl
    | cons w ws ih =>
      have he : ∀ y : Str, (eqV (.str y) (.str x) = true) ↔ y = x := fun y => beq_iff_eq (a := y) (b := x)
      rw [Bool.eq_iff_iff]
      simp only [inV, List.map_cons, List.any_cons, Bool.or_eq_true, he, List.any_map, List.any_eq_true, Function.comp, decide_eq_true_eq, List.mem_cons]
      constructor
      · rintro (h | ⟨y, h1, h2⟩)
        · exact .inl h.symm
        · exact .inr (h2 ▸ h1)
      · rintro (h | h)
        · exact .inl h.symm
        · exact .inr ⟨x, h, rfl⟩
  simp only [Bool.false_eq_true, if_false]
  rw [e]
  exact q _ H (Same.refl _) (.bl _)
end
section
variable {P : Program} {w : World} {K : PySem.W.Frag} {mg : Str → Option Value} {base : Heap}
theorem hu_of {A : Around} {k : Nat} (h : Room k A) : A.units + 1 < cLine := by
  have := h.units
  omega
abbrev s_require_letters : Stmt := top 24
theorem sc_require_letters : FnScope ["letters", "readings", "reading", "letter", "own"] ["letters", "readings"] (defScope s_require_letters) := ⟨rfl, rfl, rfl, by decide +kernel, rfl, by decide +kernel, by decide +kernel⟩
abbrev SpReqLetters (K : PySem.W.Frag) : Sp := spQ K (fun i : List Str × List Str => i.1.length ≤ 1000 ∧ ∀ x ∈ i.2, x ∈ i.1) (fun i => [eL i.1] ++ [eL i.2]) (fun _ => .none)
theorem df_require_letters (T : Top mg) (F : Fn K mg "require_letters" "require_letters" s_require_letters) : Df P w K mg base 1 "require_letters" (SpReqLetters K) := by
  refine df_pureS F sc_require_letters (fun kV doc pm an cdv ct => StX.bind_star1 (B := fun l => bindArgs (PySem.W.fnOf "require_letters" "require_letters" (defArgs s_require_letters) (defBody s_require_letters) (defScope s_require_letters) .none kV doc pm an cdv ct) ⟨l, []⟩) (fun _ => rfl) fun _ _ _ => rfl) (fun _ => rfl) (fun _ _ => by show 1 ≤ 100000; decide) (fun i f cdv A outer s H σ E hp a hr => ?_)
  refine ⟨_, (pss_one (ps_for PassesOwn.never rfl (pi_tup' K (by rfl) (pv 1)) (pg_name (i := 2) sc_require_letters.nd rfl (by first | exact Or.inl rfl | exact Or.inr rfl)) (pss_one (ps_for PassesOwn.never rfl (pi_tup' K (by rfl) (pv 2)) (pg_name (i := 3) sc_require_letters.nd rfl (by first | exact Or.inl rfl | exact Or.inr rfl)) (pss_one (ps_if (pt_not (pt_val (pe_callB (c_any' K (by rfl) rfl) (by rfl) T.any_ (by decide +kernel) (pa_cons (pe_lc (own := [("own", 4)]) rfl sc_require_letters.nd (pi_tup' K (by rfl) (pv 0)) (blkOk_by (N := ["letters", "readings", "reading", "letter", "own"]) (sc := defScope s_require_letters) (by decide +kernel)) (fun _ _ _ _ _ => by exact (pg_name (i := 4) sc_require_letters.nd rfl (by first | exact Or.inl rfl | exact Or.inr rfl))) (fun _ _ _ _ _ => pts_nil) (fun _ _ _ _ _ => by exact (pe_cmpR op_eq (pv 3) (pv 4) (nomark _)))) pa_nil)))) (pss_one ps_never) pss_nil)))))), fun Q k => ?_⟩
  try dsimp only [List.map, List.cons_append, List.nil_append]
  obtain ⟨L, r⟩ := i
  refine' s_forS (l := [r]) (en := eL) (Γf := fun _ => [.d (eL L), .d (.tuple [eL r]), .o, .o, .o]) (Θf := fun _ => []) a (srcS_tup ?hs) ?hw rfl (fun G st i x v σ5 H5 hi a5 hv => g_name a5 hv fun σ6 a6 => ?_) fun σ5 H5 a5 => k _ H5 a5.sm .non
  case hs => exact evd_var a rfl
  case hw => walk_at "wk"
  · obtain rfl : r = x := (List.mem_singleton.mp (List.mem_of_getElem? hi)).symm
    refine' s_forS (l := r) (en := .str) (Γf := fun _ => [.d (eL L), .d (.tuple [eL r]), .d (eL r), .o, .o]) (Θf := fun _ => []) a6 (srcS_tup ?hs) ?hw rfl (fun G st i x v σ8 H8 hi8 a8 hv => g_name a8 hv fun σ9 a9 => ?_) fun σ8 H8 a8 => a8.weak ?_
    case hs => exact evd_var a6 rfl
    case hw => walk_at "wk"
    · have hx : L.any (fun own => decide (x = own)) = true := List.any_eq_true.mpr ⟨x, hp.2 x (List.mem_of_getElem? hi8), by simp⟩
      refine' s_no a9 (EvT.is (evt_not (evt_test (evd_any (p := fun own => decide (x = own)) (evl_lcn (l := L) (en := .str) _ a9 (src_tup ?h1) (Nat.le_trans hp.1 (by decide)) ?h2 fun own σ' H2 hm a10 => ?h3)))) (by rw [hx]; rfl)) fun H10 a10 => a10.weak ?_
      case h1 => exact evd_var a9 rfl
      case h2 => decide
      case h3 => walk_at "ev"
      walk_at "wk"
    · walk_at "wk"
abbrev s_require_states : Stmt := top 25
theorem sc_require_states : FnScope ["machine", "states", "state"] ["machine", "states"] (defScope s_require_states) := ⟨rfl, rfl, rfl, by decide +kernel, rfl, by decide +kernel, by decide +kernel⟩
abbrev SpReqStates (K : PySem.W.Frag) : Sp := spQ K (fun i : Mc × Nat => i.2 < i.1.R.length) (fun i => [eM i.1] ++ [.int (i.2 : Int)]) (fun _ => .none)
theorem df_require_states (T : Top mg) (F : Fn K mg "require_states" "require_states" s_require_states) (d_is_number : Df P w K mg base 2 "is_number" (SpIsNumber K)) : Df P w K mg base 3 "require_states" (SpReqStates K) := by
  refine df_pureS F sc_require_states (fun kV doc pm an cdv ct => StX.bind_star1 (B := fun l => bindArgs (PySem.W.fnOf "require_states" "require_states" (defArgs s_require_states) (defBody s_require_states) (defScope s_require_states) .none kV doc pm an cdv ct) ⟨l, []⟩) (fun _ => rfl) fun _ _ _ => rfl) (fun _ => rfl) (fun _ _ => by show 1 ≤ 100000; decide) (fun i f cdv A outer s H σ E hp a hr => ?_)
  refine ⟨_, (pss_one (ps_for PassesOwn.never rfl (pi_tup' K (by rfl) (pv 1)) (pg_name (i := 2) sc_require_states.nd rfl (by first | exact Or.inl rfl | exact Or.inr rfl)) (pss_one (ps_if (PW.pt (pw_or (pt_not (pt_val (pe_d d_is_number hr (by decide) rfl (pa_cons (pv 2) pa_nil)))) (pw_or1 (pt_cmpR op_ge (pv 2) (pe_callB (c_len' K (by rfl)) (by rfl) T.len_ (by decide +kernel) (pa_cons (pe_ix (ix_tup' K (by rfl)) (pv 0) pe_int (fun _ _ => rfl)) pa_nil)) (nomark _))))) (pss_one ps_never) pss_nil)))), fun Q k => ?_⟩
  try dsimp only [List.map, List.cons_append, List.nil_append]
  obtain ⟨M, n⟩ := i
  refine' s_forS (l := [n]) (en := fun (n : Nat) => .int (n : Int)) (Γf := fun _ => [.d (eM M), .d (.tuple [.int (n : Int)]), .o]) (Θf := fun _ => []) a (srcS_tup ?hs) ?hw rfl (fun G st i x v σ5 H5 hi a5 hv => g_name a5 hv fun σ6 a6 => ?_) fun σ5 H5 a5 => k _ H5 a5.sm .non
  case hs => exact evd_var a rfl
  case hw => walk_at "wk"
  · obtain rfl : n = x := (List.mem_singleton.mp (List.mem_of_getElem? hi)).symm
    have hp : n < M.R.length := hp
    refine' s_no a6 (evt_or (a := false) (EvT.is (evt_not (evt_test (evd_c1 (n : Int) True.intro (eva_cons (evd_var a6 rfl) eva_nil)))) ?h1) fun _ => EvT.is (evt_test (evd_op (evd_var a6 rfl) (evd_cb (eva_cons (evd_ix1 (evd_var a6 rfl)) eva_nil) cv_len) (ov_I0 fun _ => Dt.bl _))) ?h2) fun H10 a10 => a10.weak ?_
    case h1 => simp
    case h2 =>
      rw [List.length_map]
      simp
      omega
    walk_at "wk"
abbrev s_row_step : Stmt := top 26
theorem sc_row_step : FnScope ["machine", "state", "letter"] ["machine", "state", "letter"] (defScope s_row_step) := ⟨rfl, rfl, rfl, by decide +kernel, rfl, by decide +kernel, by decide +kernel⟩
theorem get_look (l : List Str) (r : Rw) (x : Str) (hx : x ∈ l) (hl : r.length = l.length) : getK ((l.map (Sum.inr : Str → Key)).zip (r.map eP)) (.inr x) = some (eP (lookL l r x)) := by
  induction l generalizing r with
  | nil => exact nomatch hx
  | cons a l ih =>
    cases r with
    | nil => exact nomatch hl
    | cons p r =>
      rw [lookL_cons, List.map_cons, List.map_cons, List.zip_cons_cons]
      unfold getK
      rw [List.find?_cons]
      by_cases c : a = x
      · simp [c]
      · have c2 : decide ((Sum.inr a : Key) = Sum.inr x) = false := by simp [c]
        simp only [c2, if_neg c]
        exact ih r ((List.mem_cons.mp hx).resolve_left fun z => c z.symm) (Nat.succ.inj hl)
abbrev SpRowStep (K : PySem.W.Frag) : Sp := spQ K (fun i : Mc × Nat × Str => Wf i.1 ∧ i.2.1 < i.1.R.length ∧ i.2.2 ∈ i.1.L) (fun i => [eM i.1, .int (i.2.1 : Int), .str i.2.2]) (fun i => eP (rs i.1 i.2.1 i.2.2))
theorem Wf.getR {M : Mc} (hw : Wf M) {n : Nat} (hn : n < M.R.length) : (M.R.map eR)[n]? = some (eR (M.R.getD n [])) := by
  rw [List.getElem?_map, List.getD_eq_getElem?_getD, List.getElem?_eq_getElem hn]
  rfl
theorem df_row_step (T : Top mg) (F : Fn K mg "row_step" "row_step" s_row_step) : Df P w K mg base 1 "row_step" (SpRowStep K) := by
  refine df_pure F sc_row_step (fun _ _ _ _ _ _ us hl => match us, hl with | [_, _, _], _ => rfl) (fun _ => rfl) (fun i f cdv A outer s H σ E hp a hr => ?_)
  have hu := hu_of hr
  refine ⟨_, (pss_one (ps_ret (pe_dget hu (pe_dictZip K (by rfl) rfl (by rfl) T.dict_ (by rfl) T.zip_ (pa_cons (pe_ix (ix_tup' K (by rfl)) (pv 0) pe_int (fun _ _ => rfl)) (pa_cons (pe_ix (ix_tup' K (by rfl)) (pe_ix (ix_tup' K (by rfl)) (pv 0) pe_int (fun _ _ => rfl)) (pv 1) (fun _ _ => rfl)) pa_nil))) (pv 2) (fun _ _ => rfl)))), fun Q k => ?_⟩
  try dsimp only [List.map]
  obtain ⟨M, n, x⟩ := i
  obtain ⟨hw, hn, hx⟩ := hp
  have hn : n < M.R.length := hn
  have hx : x ∈ M.L := hx
  have e0 : M.L.map PyData.str = (M.L.map (Sum.inr : Str → Key)).map keyD := by rw [List.map_map]; rfl
  refine' f_ret a (evd_dgetK (key := .inr x) (evk_dictZip (ks := M.L.map .inr) (ds := (M.R.getD n []).map eP) (eva_cons ?h1 (eva_cons ?h2 eva_nil)) ?h3 ?h4) (evd_var a rfl) ?h5) k
  case h1 =>
    rw [← e0]
    exact evd_ix0 (evd_var a rfl)
  case h2 => exact evd_op (evd_ix1 (evd_var a rfl)) (evd_var a rfl) (ov_ix n (hw.getR hn))
  case h3 => exact List.Pairwise.map _ (fun a b hab e => hab (Sum.inr.inj e)) hw.nd
  case h4 =>
    rw [List.length_map, List.length_map]
    exact (hw.rl _ (hw.row hn)).symm
  case h5 => exact get_look _ _ _ hx (hw.rl _ (hw.row hn))
abbrev s_step : Stmt := top 27
theorem sc_step : FnScope ["machine", "state", "letter"] ["machine", "state", "letter"] (defScope s_step) := ⟨rfl, rfl, rfl, by decide +kernel, rfl, by decide +kernel, by decide +kernel⟩
abbrev SpStep (K : PySem.W.Frag) : Sp := spQ K (fun i : Mc × Nat × Str => Wf i.1 ∧ i.2.1 < i.1.R.length ∧ i.2.2 ∈ i.1.L) (fun i => [eM i.1, .int (i.2.1 : Int), .str i.2.2]) (fun i => eP (rs i.1 i.2.1 i.2.2))
theorem Wf.le1000 {M : Mc} (hw : Wf M) : M.L.length ≤ 1000 := Nat.le_trans hw.l1 (by decide)
theorem df_step (T : Top mg) (F : Fn K mg "step" "step" s_step) (d_require_letters : Df P w K mg base 1 "require_letters" (SpReqLetters K)) (d_require_states : Df P w K mg base 3 "require_states" (SpReqStates K)) (d_row_step : Df P w K mg base 1 "row_step" (SpRowStep K)) : Df P w K mg base 4 "step" (SpStep K) := by
  refine df_pure F sc_step (fun _ _ _ _ _ _ us hl => match us, hl with | [_, _, _], _ => rfl) (fun _ => rfl) (fun i f cdv A outer s H σ E hp a hr => ?_)
  refine ⟨_, (pss_cons (ps_expr (pe_d d_require_letters hr (by decide) rfl (pa_cons (pe_ix (ix_tup' K (by rfl)) (pv 0) pe_int (fun _ _ => rfl)) (pa_cons (pe_tup (pa_cons (pv 2) pa_nil)) pa_nil))))
      (pss_cons (ps_expr (pe_d d_require_states hr (by decide) rfl (pa_cons (pv 0) (pa_cons (pv 1) pa_nil))))
      (pss_one (ps_ret (pe_d d_row_step hr (by decide) rfl (pa_cons (pv 0) (pa_cons (pv 1) (pa_cons (pv 2) pa_nil)))))))), fun Q k => ?_⟩
  try dsimp only [List.map]
  obtain ⟨M, n, x⟩ := i
  obtain ⟨hw, hn, hx⟩ := hp
  refine' q_drop a (evd_c1 (M.L, [x]) ⟨hw.le1000, fun y hy => ?h0⟩ (eva_cons (evd_ix0 (evd_var a rfl)) (eva_cons (evd_tup (ds := [.str x]) (eva_cons (evd_var a rfl) eva_nil)) eva_nil))) fun H1 a1 => ?_
  case h0 =>
    have : y = x := by simpa using hy
    rw [this]
    exact hx
  refine' q_drop a1 (evd_c1 (M, n) hn (eva_cons (evd_var a1 rfl) (eva_cons (evd_var a1 rfl) eva_nil))) fun H2 a2 => ?_
  exact f_ret a2 (evd_c1 (M, n, x) ⟨hw, hn, hx⟩ (eva_cons (evd_var a2 rfl) (eva_cons (evd_var a2 rfl) (eva_cons (evd_var a2 rfl) eva_nil)))) k
end
end K15

/-! part D5 -/
set_option Elab.async false
set_option linter.all false
set_option maxRecDepth 100000
set_option maxHeartbeats 1000000
namespace K15
open PySem PySem.Spec PyProof.Rows L2 RZ
/-! ### steps by a word -/
local macro_rules | `(tactic| walk_at "ov") => `(tactic| first
  | with_reducible exact ov_eqS
  | with_reducible exact ov_eqI
  | with_reducible exact ov_neS
  | with_reducible exact ov_neI
  | with_reducible exact ov_neB
  | with_reducible exact ov_ltS
  | with_reducible exact ov_inS
  | with_reducible exact ov_I0 (fun _ => Dt.int _)
  | with_reducible exact ov_I0 (fun _ => Dt.bl _))
local macro_rules | `(tactic| walk_at "ev") => `(tactic| first
  | with_reducible exact evd_i
  | with_reducible exact evd_s
  | with_reducible exact evd_b
  | with_reducible exact evd_n
  | ((with_reducible refine' evd_var (by assumption) ?hv); (case hv => rfl))
  | with_reducible assumption
  | ((with_reducible refine' evd_op ?ha ?hb ?hr); (case ha => walk_at "ev"); (case hb => walk_at "ev"); (case hr => walk_at "ov"))
  | ((with_reducible refine' evd_and ?ha (fun hc => ?hb)); (case ha => walk_at "ev"); (case hb => walk_at "ev"))
  | ((with_reducible refine' evd_or ?ha (fun hc => ?hb)); (case ha => walk_at "ev"); (case hb => walk_at "ev"))
  | ((with_reducible refine' evd_not ?ha); (case ha => walk_at "ev"))
  | ((with_reducible refine' evd_isi ?ha ?hb); (case ha => walk_at "ev"); (case hb => first | exact kb_ii | exact kb_ib | exact kb_ss | exact kb_tt))
  | ((with_reducible refine' evd_tup ?ha ?hb); (case ha => walk_at "ea"); (case hb => first | decide | (simp only [List.length_cons, List.length_nil]; omega)))
  | ((with_reducible refine' evd_chain ?ha ?hb ?hc ?h1 ?h2); (case ha => walk_at "ev"); (case hb => walk_at "ev"); (case hc => walk_at "ev"); (case h1 => walk_at "ov"); (case h2 => walk_at "ov"))
  | ((with_reducible refine' evd_cb ?ha ?hb); (case ha => walk_at "ea"); (case hb => first | with_reducible exact cv_len | with_reducible exact cv_max2 | with_reducible exact cv_int1 | ((with_reducible refine' cv_lenS ?hz); (case hz => omega))))
  | ((with_reducible refine' evd_c1 _ ?hp ?ha); (case ha => walk_at "ea"); (case hp => first | exact True.intro | assumption | (show _ ≤ _; omega))))
local macro_rules | `(tactic| walk_at "ea") => `(tactic| first
  | with_reducible exact eva_nil
  | ((with_reducible refine' eva_cons ?ha ?hb); (case ha => walk_at "ev"); (case hb => walk_at "ea")))
local macro_rules | `(tactic| walk_at "et") => `(tactic| first
  | with_reducible assumption
  | ((with_reducible refine' evt_test ?ha); (case ha => walk_at "ev"))
  | ((with_reducible refine' evt_B ?ha); (case ha => walk_at "ev"))
  | ((with_reducible refine' evt_and ?ha (fun hc => ?hb)); (case ha => walk_at "et"); (case hb => walk_at "et"))
  | ((with_reducible refine' evt_or ?ha (fun hc => ?hb)); (case ha => walk_at "et"); (case hb => walk_at "et"))
  | ((with_reducible refine' evt_not ?ha); (case ha => walk_at "et")))

local macro_rules | `(tactic| walk_at "wk") => `(tactic| first
  | exact Weak.nil
  | ((refine' Weak.keep ?h); (case h => walk_at "wk"))
  | ((refine' Weak.drop ?h); (case h => walk_at "wk")))

section
variable {P : Program} {w : World} {K : PySem.W.Frag} {mg : Str → Option Value} {base : Heap}
/-- run's promise: a pair of a state and a new list of words -/
def SpRun (K : PySem.W.Frag) : Sp := fun vs H Q _ => ∃ (M : Mc) (rd : List Str) (n : Nat), (Wf M ∧ n < M.R.length ∧ rd.length ≤ 1000 ∧ ∀ x ∈ rd, x ∈ M.L) ∧ DtAll K H vs [eM M, eL rd, .int (n : Int)] ∧
  ∀ a p H', Same H H' → H p = none → SqT K H' a [.int (runS M rd n : Int), .ref p] → HasL K H' p ((runW M rd n).map .str) → Q (.ref a) H'
abbrev s_run : Stmt := top 28
theorem sc_run : FnScope ["machine", "reading", "state", "words", "letter", "word"] ["machine", "reading", "state"] (defScope s_run) := ⟨rfl, rfl, rfl, by decide +kernel, rfl, by decide +kernel, by decide +kernel⟩
theorem df_run (T : Top mg) (F : Fn K mg "run" "run" s_run) (d_row_step : Df P w K mg base 1 "row_step" (SpRowStep K)) : Df P w K mg base 2 "run" (SpRun K) := by
  refine df_any F sc_run (fun _ _ _ _ _ _ us hl => match us, hl with | [_, _, _], _ => rfl) (fun vs H Q E ⟨_, _, _, _, h, _⟩ => h.length) (fun f cdv A outer s H vs Q E hr h => ?_)
  refine ⟨_, (pss_cons (ps_set (i := 3) sc_run.nd rfl (by first | exact Or.inl rfl | exact Or.inr rfl) (pe_lst pa_nil))
      (pss_cons (ps_for PassesOwn.never rfl (pi_tup' K (by rfl) (pv 1)) (pg_name (i := 4) sc_run.nd rfl (by first | exact Or.inl rfl | exact Or.inr rfl)) (pss_cons (ps_asg (pe_d d_row_step hr (by decide) rfl (pa_cons (pv 0) (pa_cons (pv 2) (pa_cons (pv 4) pa_nil)))) (pg_pair K (by rfl) (i := 2) (j := 5) rfl sc_run.nd rfl rfl (by first | exact Or.inl rfl | exact Or.inr rfl) (by first | exact Or.inl rfl | exact Or.inr rfl) (by first | exact Or.inl rfl | exact Or.inr rfl) (by first | exact Or.inl rfl | exact Or.inr rfl)))
      (pss_one (ps_expr (pe_bm PySem.F.plainAttrs_list PySem.F.slot_list_append PySem.F.type_list_append mt_append (pv 3) (pa_cons (pv 5) pa_nil))))))
      (pss_one (ps_ret (pe_tup (pa_cons (pv 2) (pa_cons (pv 3) pa_nil))))))), ?_⟩
  obtain ⟨M, rd, n, ⟨hw, hn, hz, hx⟩, hv, k⟩ := h
  have a := At.start (N := ["machine", "reading", "state", "words", "letter", "word"]) hv
  refine' q_asgL (ds := []) a (evl_lst eva_nil) fun p σ1 H1 a1 => ?_
  refine' q_forS (l := rd) (en := .str) (Γf := fun i => [.d (eM M), .d (eL rd), .d (.int (runS M (rd.take i) n : Int)), .v (.ref p), .o, .o]) (Θf := fun i => [(p, .lst ((runW M (rd.take i) n).map .str))]) a1 (srcS_tup ?hs) ?hw rfl (fun G st i x v σ5 H5 hi a5 hv => g_name a5 hv fun σ6 a6 => ?_) fun σ5 H5 a5 => ?_
  case hs => exact evd_var a1 rfl
  case hw => walk_at "wk"
  · have hs : runS M (rd.take i) n < M.R.length := hw.runS_lt hn fun y hy => hx y (List.mem_of_mem_take hy)
    refine' q_asgP a6 (evd_c1 (M, runS M (rd.take i) n, x) ⟨hw, hs, hx x (List.mem_of_getElem? hi)⟩ (eva_cons (evd_var a6 rfl) (eva_cons (evd_var a6 rfl) (eva_cons (evd_var a6 rfl) eva_nil)))) fun σ7 H7 a7 => ?_
    refine' s_append (k := 0) a7 (evv_var a7 rfl) rfl (evd_var a7 rfl) ?hl fun H8 a8 => ?_
    case hl =>
      rw [List.length_map, runW_length, List.length_take]
      omega
    have e1 := runS_snoc M x (rd.take i) n
    have e2 := runW_snoc M x (rd.take i) n
    rw [← take_snoc hi] at e1 e2
    show At K (Base.and _ G st) [_, _, _, _, _, _] [(p, .lst ((runW M (rd.take (i + 1)) n).map .str))] σ7 H8
    rw [e1, e2, List.map_append]
    exact a8.weak (by walk_at "wk")
  · rw [List.take_length] at a5
    have a5 : At K (.of H) [.d (eM M), .d (eL rd), .d (.int (runS M rd n : Int)), .v (.ref p), .o, .o] [(p, .lst ((runW M rd n).map .str))] σ5 H5 := a5
    show tVar 2 σ5 H5 fun x H1 => tVar 3 σ5 H1 fun y H2 => [x, y].length ≤ sizeLine ∧ ∀ q, H2 q = none → Q (.ref q) (upd H2 q (.tup [x, y]))
    refine' evd_var a5 (i := 2) rfl H5 (Same.refl _) _ fun v H6 e6 hv => ?_
    cases hv
    refine' (evv_var (a5.up e6) (i := 3) rfl) H6 (Same.refl _) _ fun H7 e7 => ?_
    refine ⟨by show 2 ≤ sizeLine; decide, fun q hq => ?_⟩
    have a7 := ((a5.up e6).up e7).up (sm_new (o := .tup [.int (runS M rd n : Int), .ref p]) hq)
    exact k q p _ a7.sm (a7.own.at_ (k := 0) rfl).none (SqT.of upd_same) (a7.hasL (k := 0) rfl)
theorem evd_run0 {σ : L2.St} {H : Hp} {t : TA} {M : Mc} {rd : List Str} {n : Nat} (hp : Wf M ∧ n < M.R.length ∧ rd.length ≤ 1000 ∧ ∀ x ∈ rd, x ∈ M.L) (h : EvA K t σ H [eM M, eL rd, .int (n : Int)]) :
    EvD K (tOp (rIxT K) (tCallR (SpRun K) t) (tC (.int 0))) σ H (.int (runS M rd n : Int)) := fun H1 e Q q =>
  h H1 e _ fun vs H2 e2 h2 => ⟨M, rd, n, hp, h2, fun a p H3 e3 _ hs hL => ⟨a, _, 0, _, rfl, rfl, hs, atI_nat (j := 0) rfl, q _ H3 (e2.trans e3) (.int _)⟩⟩
theorem evl_run1 {σ : L2.St} {H : Hp} {t : TA} {M : Mc} {rd : List Str} {n : Nat} (hp : Wf M ∧ n < M.R.length ∧ rd.length ≤ 1000 ∧ ∀ x ∈ rd, x ∈ M.L) (h : EvA K t σ H [eM M, eL rd, .int (n : Int)]) :
    EvL K (tOp (rIxT K) (tCallR (SpRun K) t) (tC (.int 1))) σ H ((runW M rd n).map .str) := fun H1 e Q q =>
  h H1 e _ fun vs H2 e2 h2 => ⟨M, rd, n, hp, h2, fun a p H3 e3 hp hs ⟨xs, hx, hd⟩ => ⟨a, _, 1, _, rfl, rfl, hs, atI_nat (j := 1) rfl, q p xs H3 (e2.free hp) (e2.trans e3) hx hd⟩⟩
/-! ### keyword-only defs -/
structure FnK (K : PySem.W.Frag) (mg : Str → Option Value) (x : Str) (st : Stmt) (kws : List (Str × V)) : Prop where
  ex : ∃ (f : Addr) (fd : FuncData), mg x = some (.ref f) ∧ FunD K x x (defArgs st) (defBody st) (defScope st) [] kws f fd
abbrev RunIx := Mc × List Str × Nat
abbrev RunOk (i : RunIx) : Prop := Wf i.1 ∧ i.2.2 < i.1.R.length ∧ i.2.1.length ≤ 1000 ∧ ∀ x ∈ i.2.1, x ∈ i.1.L
theorem fnok_pure {I : Type} {pre : I → Prop} {arg : I → List PyData} {res : I → PyData} {k : Nat} {x : Str} {st : Stmt} {N ps : List Str} {kws : List (Str × V)} {f : Addr} {fd : FuncData} (F : FunD K x x (defArgs st) (defBody st) (defScope st) [] kws f fd) (S : FnScope N ps (defScope st))
    (len : ∀ i, (arg i).length = ps.length)
    (hbody : ∀ (i : I) (cdv : Value) (A : Around) (outer : List Env) (s : Shared) (H : Hp) (σ : L2.St) (E : XK), pre i → At K (.of H) (startG N.length (arg i)) [] σ H → Room k (A.deeper (envOfC x (defScope st) s.heap.objs.size f cdv)) →
      ∃ t, PSs (cxOf CX0 P w K mg base N x (defScope st) f cdv A outer s H E).nox (defBody st) t ∧ ∀ Q : VK, (∀ v H', Same H H' → Dt K H' v (res i) → Q v H') → t { nx := fun _ H' => Q .non H', rt := Q } σ H) :
    FnOk P w K mg base CX0 (k + 1) f fd ps (spQ K pre arg res) := F.ok S (fun vs H Q E ⟨i, _, h, _⟩ => by rw [h.length, len i]) fun cdv A outer s H vs Q E hr h => by
  obtain ⟨i, hp, hv, q⟩ := h
  obtain ⟨t, a, b⟩ := hbody i cdv A outer s H _ E hp (At.start hv) hr
  exact ⟨t, a.nox, b Q q⟩
abbrev s_led : Stmt := top 29
theorem sc_led : FnScope ["machine", "reading", "state"] ["machine", "reading", "state"] (defScope s_led) := ⟨rfl, rfl, rfl, by decide +kernel, rfl, by decide +kernel, by decide +kernel⟩
abbrev SpLed (K : PySem.W.Frag) : Sp := spQ K (fun i : Mc × List Str => RunOk (i.1, i.2, 0)) (fun i => [eM i.1, eL i.2]) (fun i => .int (runS i.1 i.2 0 : Int))
abbrev SpLedK (K : PySem.W.Frag) : SpK := spKQ K (fun i : RunIx => RunOk i) (fun i => [eM i.1, eL i.2.1]) (fun i => [.int (i.2.2 : Int)]) (fun i => .int (runS i.1 i.2.1 i.2.2 : Int))
theorem ok_led {f : Addr} {fd : FuncData} {kws : List (Str × V)} (T : Top mg) (F : FunD K "led" "led" (defArgs s_led) (defBody s_led) (defScope s_led) [] kws f fd) (d_require_letters : Df P w K mg base 1 "require_letters" (SpReqLetters K)) (d_require_states : Df P w K mg base 3 "require_states" (SpReqStates K)) (d_run : Df P w K mg base 2 "run" (SpRun K)) :
    FnOk P w K mg base CX0 4 f fd ["machine", "reading", "state"] (spQ K (fun i : RunIx => RunOk i) (fun i => [eM i.1, eL i.2.1, .int (i.2.2 : Int)]) (fun i => .int (runS i.1 i.2.1 i.2.2 : Int))) := by
  refine fnok_pure F sc_led (fun _ => rfl) (fun i cdv A outer s H σ E hp a hr => ?_)
  refine ⟨_, (pss_cons (ps_expr (pe_d d_require_letters hr (by decide) rfl (pa_cons (pe_ix (ix_tup' K (by rfl)) (pv 0) pe_int (fun _ _ => rfl)) (pa_cons (pv 1) pa_nil))))
      (pss_cons (ps_expr (pe_d d_require_states hr (by decide) rfl (pa_cons (pv 0) (pa_cons (pv 2) pa_nil))))
      (pss_one (ps_ret (pe_ix (ix_tup' K (by rfl)) (pe_d d_run hr (by decide) rfl (pa_cons (pv 0) (pa_cons (pv 1) (pa_cons (pv 2) pa_nil)))) pe_int (fun _ _ => rfl)))))), fun Q k => ?_⟩
  try dsimp only [List.map]
  obtain ⟨M, rd, n⟩ := i
  obtain ⟨hw, hn, hz, hx⟩ := id hp
  refine' q_drop a (evd_c1 (M.L, rd) ⟨hw.le1000, hx⟩ (eva_cons (evd_ix0 (evd_var a rfl)) (eva_cons (evd_var a rfl) eva_nil))) fun H1 a1 => ?_
  refine' q_drop a1 (evd_c1 (M, n) hn (eva_cons (evd_var a1 rfl) (eva_cons (evd_var a1 rfl) eva_nil))) fun H2 a2 => ?_
  exact f_ret a2 (evd_run0 hp (eva_cons (evd_var a2 rfl) (eva_cons (evd_var a2 rfl) (eva_cons (evd_var a2 rfl) eva_nil)))) k
theorem df_led (T : Top mg) (F : FnK K mg "led" s_led [("state", .int 0)]) (d_require_letters : Df P w K mg base 1 "require_letters" (SpReqLetters K)) (d_require_states : Df P w K mg base 3 "require_states" (SpReqStates K)) (d_run : Df P w K mg base 2 "run" (SpRun K)) :
    Df P w K mg base 4 "led" (SpLed K) ∧ Dk P w K mg base 4 "led" 2 ["state"] (SpLedK K) := by
  obtain ⟨f, fd, hm, G⟩ := F.ex
  have O := ok_led (P := P) (w := w) (base := base) T G d_require_letters d_require_states d_run
  obtain ⟨ds, hd, hb⟩ := G.binds0 (ps := ["machine", "reading", "state"]) 2 (by simp) rfl fun D doc pm an cdv ct us ks l1 l2 => match us, ks, l1, l2 with | [_, _], [_], _, _ => ⟨_, _, _, _, _, _, rfl, rfl, rfl⟩
  obtain ⟨mv, kb⟩ := kbinds0 (ps := ["machine", "reading", "state"]) G 2 ["state"] [] (fun vs mz zs => vs ++ zs) (by simp) (by simp) (fun a _ c => a.append c) fun D doc pm an cdv ct us mv ws l1 l2 l3 => match us, mv, ws, l1, l2, l3 with | [_, _], [], [_], _, _, _ => rfl
  refine ⟨⟨f, hm, G.kp, (O.raw hb hd).imp fun vs H Q E ⟨i, hp, hv, q⟩ => ⟨(i.1, i.2, 0), hp, hv.append (.cons (.int 0) .nil), q⟩⟩, ⟨f, fd, _, _, _, _, hm, G.kp, O, kb, fun vs zs H Q E ⟨i, hp, hv, hz, q⟩ => ⟨i, hp, hv.append hz, q⟩⟩⟩
abbrev s_said : Stmt := top 30
theorem sc_said : FnScope ["machine", "reading", "state", "quiet", "word"] ["machine", "reading", "state", "quiet"] (defScope s_said) := ⟨rfl, rfl, rfl, by decide +kernel, rfl, by decide +kernel, by decide +kernel⟩
abbrev SpSaid (K : PySem.W.Frag) : Sp := spQ K (fun i : Mc × List Str => RunOk (i.1, i.2, 0)) (fun i => [eM i.1, eL i.2]) (fun i => eL (runW i.1 i.2 0))
abbrev SpSaidK (K : PySem.W.Frag) : SpK := spKQ K (fun i : RunIx => RunOk i) (fun i => [eM i.1, eL i.2.1]) (fun i => [.int (i.2.2 : Int)]) (fun i => eL (runW i.1 i.2.1 i.2.2))
theorem ok_said {f : Addr} {fd : FuncData} {kws : List (Str × V)} (T : Top mg) (F : FunD K "said" "said" (defArgs s_said) (defBody s_said) (defScope s_said) [] kws f fd) (d_require_letters : Df P w K mg base 1 "require_letters" (SpReqLetters K)) (d_require_states : Df P w K mg base 3 "require_states" (SpReqStates K)) (d_run : Df P w K mg base 2 "run" (SpRun K)) :
    FnOk P w K mg base CX0 4 f fd ["machine", "reading", "state", "quiet"] (spQ K (fun i : RunIx => RunOk i) (fun i => [eM i.1, eL i.2.1, .int (i.2.2 : Int), .tuple []]) (fun i => eL (runW i.1 i.2.1 i.2.2))) := by
  refine fnok_pure F sc_said (fun _ => rfl) (fun i cdv A outer s H σ E hp a hr => ?_)
  refine ⟨_, (pss_cons (ps_expr (pe_d d_require_letters hr (by decide) rfl (pa_cons (pe_ix (ix_tup' K (by rfl)) (pv 0) pe_int (fun _ _ => rfl)) (pa_cons (pv 1) pa_nil))))
      (pss_cons (ps_expr (pe_d d_require_states hr (by decide) rfl (pa_cons (pv 0) (pa_cons (pv 2) pa_nil))))
      (pss_one (ps_ret (pe_callTy (c_tup' K (by rfl)) (by rfl) T.tuple_ (by decide +kernel) (pa_cons (pe_lc (own := [("word", 4)]) rfl sc_said.nd (pi_list' K (by rfl) (pe_ix (ix_tup' K (by rfl)) (pe_d d_run hr (by decide) rfl (pa_cons (pv 0) (pa_cons (pv 1) (pa_cons (pv 2) pa_nil)))) pe_int (fun _ _ => rfl))) (blkOk_by (N := ["machine", "reading", "state", "quiet", "word"]) (sc := defScope s_said) (by decide +kernel)) (fun _ _ _ _ _ => by exact (pg_name (i := 4) sc_said.nd rfl (by first | exact Or.inl rfl | exact Or.inr rfl))) (fun _ _ _ _ _ => pts_nil) (fun _ _ _ _ _ => by exact (pe_ifExp (pt_cmpR (op_in' K (by rfl)) (pv 4) (pv 3) (by rfl)) (C8.pe_gc rfl T.SILENT) (pv 4)))) pa_nil)))))), fun Q k => ?_⟩
  try dsimp only [List.map]
  obtain ⟨M, rd, n⟩ := i
  obtain ⟨hw, hn, hz, hx⟩ := id hp
  refine' q_drop a (evd_c1 (M.L, rd) ⟨hw.le1000, hx⟩ (eva_cons (evd_ix0 (evd_var a rfl)) (eva_cons (evd_var a rfl) eva_nil))) fun H1 a1 => ?_
  refine' q_drop a1 (evd_c1 (M, n) hn (eva_cons (evd_var a1 rfl) (eva_cons (evd_var a1 rfl) eva_nil))) fun H2 a2 => ?_
  refine f_ret a2 (evd_tupL (evl_lcn (l := runW M rd n) (en := .str) .str a2 (src_list (evl_run1 hp (eva_cons (evd_var a2 rfl) (eva_cons (evd_var a2 rfl) (eva_cons (evd_var a2 rfl) eva_nil))))) ?h1 ?h2 fun x σ' H3 hm a3 => ?h3)) k
  case h1 =>
    rw [runW_length]
    exact Nat.le_trans hz (by decide)
  case h2 => decide
  case h3 => exact evd_if (b := false) (evt_test (EvD.is (evd_op (evd_var a3 rfl) (evd_var a3 rfl) (ov_inT (ws := []))) (by simp))) (fun h => nomatch h) fun _ => evd_var a3 rfl
structure FnSaid (K : PySem.W.Frag) (mg : Str → Option Value) : Prop where
  ex : ∃ (f T : Addr) (fd : FuncData), mg "said" = some (.ref f) ∧ FunD K "said" "said" (defArgs s_said) (defBody s_said) (defScope s_said) [] [("state", .int 0), ("quiet", .ref T)] f fd ∧ ∀ H, SqT K H T []
theorem df_said (T : Top mg) (F : FnSaid K mg) (d_require_letters : Df P w K mg base 1 "require_letters" (SpReqLetters K)) (d_require_states : Df P w K mg base 3 "require_states" (SpReqStates K)) (d_run : Df P w K mg base 2 "run" (SpRun K)) :
    Df P w K mg base 4 "said" (SpSaid K) ∧ Dk P w K mg base 4 "said" 2 ["state"] (SpSaidK K) := by
  obtain ⟨f, t, fd, hm, G, ht⟩ := F.ex
  have O := ok_said (P := P) (w := w) (base := base) T G d_require_letters d_require_states d_run
  obtain ⟨ds, hd, hb⟩ := G.binds0 (ps := ["machine", "reading", "state", "quiet"]) 2 (by simp) rfl fun D doc pm an cdv ct us ks l1 l2 => match us, ks, l1, l2 with | [_, _], [_, _], _, _ => ⟨_, _, _, _, _, _, rfl, rfl, ⟨_, _, _, _, _, _, rfl, rfl, rfl⟩⟩
  obtain ⟨mv, kb⟩ := kbinds0 (ps := ["machine", "reading", "state", "quiet"]) G 2 ["state"] [("quiet", .ref t)] (fun vs mz zs => vs ++ (zs ++ mz)) (by simp) (by simp) (fun a b c => a.append (c.append b)) fun D doc pm an cdv ct us mv ws l1 l2 l3 => match us, mv, ws, l1, l2, l3 with | [_, _], [_], [_], _, _, _ => ⟨_, _, _, _, _, _, rfl, rfl, rfl⟩
  refine ⟨⟨f, hm, G.kp, (O.raw hb hd).imp fun vs H Q E ⟨i, hp, hv, q⟩ => ⟨(i.1, i.2, 0), hp, hv.append (.cons (.int 0) (.cons (.tup (ht H) .nil) .nil)), q⟩⟩, ⟨f, fd, _, _, _, _, hm, G.kp, O, kb, fun vs zs H Q E ⟨i, hp, hv, hz, q⟩ => ⟨i, hp, hv.append (hz.append (.cons (.tup (ht H) .nil) .nil)), q⟩⟩⟩
end
end K15

/-! part D6 -/
set_option Elab.async false
set_option linter.all false
set_option maxRecDepth 100000
set_option maxHeartbeats 1000000
namespace K15
open PySem PySem.Spec PyProof.Rows L2 RZ
/-! ### steps by a word -/
local macro_rules | `(tactic| walk_at "ov") => `(tactic| first
  | with_reducible exact ov_eqS
  | with_reducible exact ov_eqI
  | with_reducible exact ov_neS
  | with_reducible exact ov_neI
  | with_reducible exact ov_neB
  | with_reducible exact ov_ltS
  | with_reducible exact ov_inS
  | with_reducible exact ov_I0 (fun _ => Dt.int _)
  | with_reducible exact ov_I0 (fun _ => Dt.bl _))
local macro_rules | `(tactic| walk_at "ev") => `(tactic| first
  | with_reducible exact evd_i
  | with_reducible exact evd_s
  | with_reducible exact evd_b
  | with_reducible exact evd_n
  | ((with_reducible refine' evd_var (by assumption) ?hv); (case hv => rfl))
  | with_reducible assumption
  | ((with_reducible refine' evd_op ?ha ?hb ?hr); (case ha => walk_at "ev"); (case hb => walk_at "ev"); (case hr => walk_at "ov"))
  | ((with_reducible refine' evd_and ?ha (fun hc => ?hb)); (case ha => walk_at "ev"); (case hb => walk_at "ev"))
  | ((with_reducible refine' evd_or ?ha (fun hc => ?hb)); (case ha => walk_at "ev"); (case hb => walk_at "ev"))
  | ((with_reducible refine' evd_not ?ha); (case ha => walk_at "ev"))
  | ((with_reducible refine' evd_isi ?ha ?hb); (case ha => walk_at "ev"); (case hb => first | exact kb_ii | exact kb_ib | exact kb_ss | exact kb_tt))
  | ((with_reducible refine' evd_tup ?ha ?hb); (case ha => walk_at "ea"); (case hb => first | decide | (simp only [List.length_cons, List.length_nil]; omega)))
  | ((with_reducible refine' evd_chain ?ha ?hb ?hc ?h1 ?h2); (case ha => walk_at "ev"); (case hb => walk_at "ev"); (case hc => walk_at "ev"); (case h1 => walk_at "ov"); (case h2 => walk_at "ov"))
  | ((with_reducible refine' evd_cb ?ha ?hb); (case ha => walk_at "ea"); (case hb => first | with_reducible exact cv_len | with_reducible exact cv_max2 | with_reducible exact cv_int1 | ((with_reducible refine' cv_lenS ?hz); (case hz => omega))))
  | ((with_reducible refine' evd_c1 _ ?hp ?ha); (case ha => walk_at "ea"); (case hp => first | exact True.intro | assumption | (show _ ≤ _; omega))))
local macro_rules | `(tactic| walk_at "ea") => `(tactic| first
  | with_reducible exact eva_nil
  | ((with_reducible refine' eva_cons ?ha ?hb); (case ha => walk_at "ev"); (case hb => walk_at "ea")))
local macro_rules | `(tactic| walk_at "et") => `(tactic| first
  | with_reducible assumption
  | ((with_reducible refine' evt_test ?ha); (case ha => walk_at "ev"))
  | ((with_reducible refine' evt_B ?ha); (case ha => walk_at "ev"))
  | ((with_reducible refine' evt_and ?ha (fun hc => ?hb)); (case ha => walk_at "et"); (case hb => walk_at "et"))
  | ((with_reducible refine' evt_or ?ha (fun hc => ?hb)); (case ha => walk_at "et"); (case hb => walk_at "et"))
  | ((with_reducible refine' evt_not ?ha); (case ha => walk_at "et")))

local macro_rules | `(tactic| walk_at "wk") => `(tactic| first
  | exact Weak.nil
  | ((refine' Weak.keep ?h); (case h => walk_at "wk"))
  | ((refine' Weak.drop ?h); (case h => walk_at "wk")))

/-! ### pasts as a dict -/
abbrev encP (P : Ps) : List (Key × PyData) := P.map fun c => ((.inl (c.1 : Int) : Key), eL c.2)
theorem encP_none {P : Ps} {a : Nat} (h : ¬ a ∈ P.map (·.1)) : getK (encP P) (.inl (a : Int)) = none := getK_none fun hm => by
  obtain ⟨x, hx, e⟩ := List.mem_map.mp hm
  obtain ⟨c, hc, rfl⟩ := List.mem_map.mp hx
  have e2 : (c.1 : Int) = (a : Int) := Sum.inl.inj e
  exact h (List.mem_map.mpr ⟨c, hc, by omega⟩)
theorem encP_at {a : Nat} {past : List Str} : ∀ {P : Ps}, (P.map (·.1)).Nodup → (a, past) ∈ P → getK (encP P) (.inl (a : Int)) = some (eL past)
  | [], _, h => nomatch h
  | c :: P, nd, h => by
    have e0 : encP (c :: P) = (.inl (c.1 : Int), eL c.2) :: encP P := rfl
    rw [e0]
    unfold getK
    rw [List.find?_cons]
    by_cases e : c.1 = a
    · have : c = (a, past) := by
        rcases List.mem_cons.mp h with h | h
        · exact h.symm
        · exfalso
          rw [List.map_cons, List.nodup_cons] at nd
          exact nd.1 (List.mem_map.mpr ⟨(a, past), h, e.symm⟩)
      subst this
      simp
    · have e2 : decide ((Sum.inl (c.1 : Int) : Key) = Sum.inl (a : Int)) = false := by
        apply decide_eq_false
        intro z
        have := Sum.inl.inj z
        omega
      simp only [e2]
      rw [List.map_cons, List.nodup_cons] at nd
      exact encP_at nd.2 ((List.mem_cons.mp h).resolve_left fun z => e (by rw [← z]))
theorem encP_some {P : Ps} (nd : (P.map (·.1)).Nodup) {a : Nat} : (getK (encP P) (.inl (a : Int))).isSome = decide (a ∈ P.map (·.1)) := by
  by_cases h : a ∈ P.map (·.1)
  · obtain ⟨c, hc, rfl⟩ := List.mem_map.mp h
    rw [encP_at (past := c.2) nd hc, decide_eq_true h]
    rfl
  · rw [encP_none h, decide_eq_false h]
    rfl
section
variable {K : PySem.W.Frag} {σ : L2.St} {H : Hp} {B : Base} {Γ : List Sl} {Θ : List (Addr × Ob)} {D : Ends} {tz : TS} {te : TE}
theorem s_aug {g : Int → Int → Int} {k : Nat} {i j : Int} (a : At K B Γ Θ σ H) (h : Γ[k]? = some (.d (.int i))) (he : EvD K te σ H (.int j)) (q : ∀ σ' H', At K B (Γ.set k (.d (.int (g i j)))) Θ σ' H' → D.nx σ' H') : tAug k te (ipI g) D σ H := by
  obtain ⟨v, hv, hd⟩ := a.env.data h
  cases hd
  exact ⟨_, hv, he H (Same.refl _) _ fun y H1 e hy => by
    cases hy
    exact ⟨i, j, rfl, rfl, q _ H1 ((a.up e).setD (.int _))⟩⟩
theorem s_retK {p : Addr} {l : List (Key × PyData)} {k : Nat} {i : Nat} (a : At K B Γ Θ σ H) (h : Γ[i]? = some (.v (.ref p))) (hk : Θ[k]? = some (p, .dk l)) {Q : VK} {nx bk ct : L2.St → Hp → Prop} (q : ∀ H', Same B.H0 H' → B.H0 p = none → HasK K H' p l → Q (.ref p) H') : tRet (tVar i) ⟨nx, Q, bk, ct⟩ σ H :=
  ⟨.ref p, a.env.val h, q H a.sm (a.own.at_ hk).none (a.hasK hk)⟩
end
section
variable {P : Program} {w : World} {K : PySem.W.Frag} {mg : Str → Option Value} {base : Heap}
/-- least_pasts' promise: a new dict -/
def SpLeast (K : PySem.W.Frag) : Sp := fun vs H Q _ => ∃ M : Mc, Wf M ∧ DtAll K H vs [eM M] ∧ ∀ p H', Same H H' → H p = none → HasK K H' p (encP (lp M)) → Q (.ref p) H'
theorem evk_least {σ : L2.St} {H : Hp} {t : TA} {M : Mc} (hw : Wf M) (h : EvA K t σ H [eM M]) : EvK K (tCallR (SpLeast K) t) σ H (encP (lp M)) := fun H1 e Q q =>
  h H1 e _ fun vs H2 e2 h2 => ⟨M, hw, h2, fun p H3 e3 hp hk => q p H3 (e2.free hp) (e2.trans e3) hk⟩
abbrev s_least_pasts : Stmt := top 31
theorem sc_least_pasts : FnScope ["machine", "pasts", "queue", "at", "state", "letter", "after", "word"] ["machine"] (defScope s_least_pasts) := ⟨rfl, rfl, rfl, by decide +kernel, rfl, by decide +kernel, by decide +kernel⟩
theorem df_least_pasts (T : Top mg) (F : Fn K mg "least_pasts" "least_pasts" s_least_pasts) : Df P w K mg base 1 "least_pasts" (SpLeast K) := by
  refine df_any F sc_least_pasts (fun _ _ _ _ _ _ us hl => match us, hl with | [_], _ => rfl) (fun vs H Q E ⟨_, _, h, _⟩ => h.length) (fun f cdv A outer s H vs Q E hr h => ?_)
  have hu := hu_of hr
  refine ⟨_, (pss_cons (ps_set (i := 1) sc_least_pasts.nd rfl (by first | exact Or.inl rfl | exact Or.inr rfl) (pe_disp (pps_cons pe_int (pe_tup pa_nil) pps_nil) (by rfl) (by rfl) (fun z => by cases z) (by decide)))
      (pss_cons (ps_set (i := 2) sc_least_pasts.nd rfl (by first | exact Or.inl rfl | exact Or.inr rfl) (pe_lst (pa_cons pe_int pa_nil)))
      (pss_cons (ps_set (i := 3) sc_least_pasts.nd rfl (by first | exact Or.inl rfl | exact Or.inr rfl) pe_int)
      (pss_cons (ps_while PassesOwn.never (pt_cmpR op_lt (pv 3) (pe_callB (c_len' K (by rfl)) (by rfl) T.len_ (by decide +kernel) (pa_cons (pv 2) pa_nil)) (nomark _)) (pss_cons (ps_set (i := 4) sc_least_pasts.nd rfl (by first | exact Or.inl rfl | exact Or.inr rfl) (pe_ix (ix_list' K (by rfl)) (pv 2) (pv 3) (fun _ _ => rfl)))
      (pss_cons (ps_for PassesOwn.never rfl (pi_zipA' K (by rfl) (by rfl) T.zip_ (pa_cons (pe_ix (ix_tup' K (by rfl)) (pv 0) pe_int (fun _ _ => rfl)) (pa_cons (pe_ix (ix_tup' K (by rfl)) (pe_ix (ix_tup' K (by rfl)) (pv 0) pe_int (fun _ _ => rfl)) (pv 4) (fun _ _ => rfl)) pa_nil))) (pg_npair K (by rfl) (l := 5) (i := 6) (j := 7) rfl sc_least_pasts.nd rfl rfl rfl (by first | exact Or.inl rfl | exact Or.inr rfl) (by first | exact Or.inl rfl | exact Or.inr rfl) (by first | exact Or.inl rfl | exact Or.inr rfl) (by first | exact Or.inl rfl | exact Or.inr rfl) (by first | exact Or.inl rfl | exact Or.inr rfl) (by first | exact Or.inl rfl | exact Or.inr rfl)) (pss_one (ps_if (pt_cmp (pc_dnotin hu (pv 6) (pv 1))) (pss_cons (ps_dput hu (pv 1) (pv 6) (pe_op (op_catA' K (by rfl)) (pe_dget hu (pv 1) (pv 4) (fun _ _ => rfl)) (pe_tup (pa_cons (pv 5) pa_nil))) rfl)
      (pss_one (ps_expr (pe_bm PySem.F.plainAttrs_list PySem.F.slot_list_append PySem.F.type_list_append mt_append (pv 2) (pa_cons (pv 6) pa_nil))))) pss_nil)))
      (pss_one (ps_aug (i := 3) sc_least_pasts.nd rfl (by first | exact Or.inl rfl | exact Or.inr rfl) pe_int ip_add)))))
      (pss_one (ps_ret (pv 1))))))), ?_⟩
  obtain ⟨M, hw, hv, k⟩ := h
  have a := At.start (N := ["machine", "pasts", "queue", "at", "state", "letter", "after", "word"]) hv
  refine' q_asgK (l := encP [(0, [])]) a (evk_disp1 (key := .inl ((0 : Nat) : Int)) (d := eL []) evd_i (evd_tup eva_nil)) fun pd σ1 H1 a1 => ?_
  refine' q_asgL (ds := [.int ((0 : Nat) : Int)]) a1 (evl_lst (eva_cons evd_i eva_nil)) fun pq σ2 H2 a2 => ?_
  refine' q_asg (d := .int ((0 : Nat) : Int)) a2 evd_i fun σ3 H3 a3 => ?_
  show tWhile _ _ _ σ3 H3
  refine' s_while (K := K) (fun m σ H' => ∃ (i : Nat) (S : Ps), m + i = M.R.length + 1 ∧ BInv M i S ∧ At K (.of H) [.d (eM M), .v (.ref pd), .v (.ref pq), .d (.int (i : Int)), .o, .o, .o, .o] [(pq, .lst (S.map fun c => .int (c.1 : Int))), (pd, .dk (encP S))] σ H') (M.R.length + 1) ⟨0, [(0, [])], rfl, .start hw, a3.weak ?hwA⟩ ?hsA
  case hwA => walk_at "wk"
  rintro m σ4 H4 ⟨i, S, hm, hb, a4⟩
  refine ⟨decide ((i : Int) < (S.length : Int)), ?_, fun hlt H5 e5 => ?_, fun hge H5 e5 => ?_⟩
  · refine' evt_test (evd_op (evd_var a4 rfl) (EvD.is (evd_lenV (evv_var a4 rfl) (a4.hasL (k := 0) rfl)) ?_) (ov_I0 fun _ => Dt.bl _))
    rw [List.length_map]
  · have hi : i < S.length := by
      have := of_decide_eq_true hlt
      omega
    have a5 := a4.up e5
    have hc : S[i]? = some S[i] := List.getElem?_eq_getElem hi
    generalize S[i] = c at hc
    have hcm := List.mem_of_getElem? hc
    have hcs := hb.pi.lt c hcm
    refine' q_asg (d := .int (c.1 : Int)) a5 (evd_ixL (n := i) (evv_var a5 rfl) (a5.hasL (k := 0) rfl) (evd_var a5 rfl) rfl ?_) fun σ6 H6 a6 => ?_
    · rw [List.getElem?_map, hc]
      rfl
    refine' q_forS (l := M.L.zip (M.R.getD c.1 [])) (en := fun x => .tuple [.str x.1, eP x.2]) (Γf := fun _ => [.d (eM M), .v (.ref pd), .v (.ref pq), .d (.int (i : Int)), .d (.int (c.1 : Int)), .o, .o, .o])
      (Θf := fun j => [(pq, .lst ((((M.L.zip (M.R.getD c.1 [])).take j).foldl (addP c.2) S).map fun c => .int (c.1 : Int))), (pd, .dk (encP (((M.L.zip (M.R.getD c.1 [])).take j).foldl (addP c.2) S)))]) a6 ?hs ?hw rfl (fun G st j x v σ7 H7 hj a7 hv => g_npair a7 hv fun σ8 a8 => ?_) fun σ9 H9 a9 => ?_
    case hs =>
      have e0 : ((M.L.map PyData.str).zip ((M.R.getD c.1 []).map eP)).map (fun p => PyData.tuple [p.1, p.2]) = (M.L.zip (M.R.getD c.1 [])).map fun x => .tuple [.str x.1, eP x.2] := by
        rw [List.zip_map, List.map_map]
        rfl
      rw [← e0]
      exact srcS_zipT (eva_cons (evd_ix0 (evd_var a6 rfl)) (eva_cons (evd_op (evd_ix1 (evd_var a6 rfl)) (evd_var a6 rfl) (ov_ix c.1 (hw.getR hcs))) eva_nil))
    case hw => walk_at "wk"
    · generalize hS : ((M.L.zip (M.R.getD c.1 [])).take j).foldl (addP c.2) S = S' at a8
      have eS : ((M.L.zip (M.R.getD c.1 [])).take (j + 1)).foldl (addP c.2) S = addP c.2 S' x := by
        rw [take_snoc hj, List.foldl_append, hS]
        rfl
      have hpi : PInv M.R.length S' := by
        rw [← hS]
        exact hb.pi.fold fun d hd => hw.zip_lt hcs d (List.mem_of_mem_take hd)
      obtain ⟨Q', eq', _⟩ := fold_prefix c.2 ((M.L.zip (M.R.getD c.1 [])).take j) S
      have hcS : c ∈ S' := by
        rw [← hS, eq']
        exact List.mem_append_left _ hcm
      have hlen := hpi.len
      have hcl := hb.ln c hcm
      have hr1 := hw.r1
      have hb1 := hb.pi.len
      refine' s_if a8 (evt_B (evd_dnotin (key := .inl (x.2.1 : Int)) (evv_var a8 rfl) (a8.hasK (k := 1) rfl) (evd_var a8 rfl))) (fun hb9 H9 a9 => ?_) fun hb9 H9 a9 => ?_
      · rw [encP_some hpi.nd] at hb9
        have hn : ¬ x.2.1 ∈ S'.map (·.1) := by simpa using hb9
        refine' q_dput (k := 1) (key := .inl (x.2.1 : Int)) (d := eL (c.2 ++ [x.1])) a9 (evv_var a9 rfl) rfl (evd_var a9 rfl) (EvD.is (evd_op (evd_dget (key := .inl (c.1 : Int)) (evv_var a9 rfl) (a9.hasK (k := 1) rfl) (evd_var a9 rfl) (encP_at (past := c.2) hpi.nd hcS)) (evd_tup (ds := [.str x.1]) (eva_cons (evd_var a9 rfl) eva_nil)) (ov_catA ?_)) ?_) ?_ (encP_none hn) fun H10 a10 => ?_
        · rw [List.length_map]
          show _ + 1 ≤ _
          omega
        · show _ = PyData.tuple ((c.2 ++ [x.1]).map .str)
          rw [List.map_append]
          rfl
        · rw [List.length_map]
          omega
        · refine' s_append (k := 0) a10 (evv_var a10 rfl) rfl (evd_var a10 rfl) ?_ fun H11 a11 => ?_
          · rw [List.length_map]
            omega
          · have e2 : addP c.2 S' x = S' ++ [(x.2.1, c.2 ++ [x.1])] := if_neg hn
            show At K _ [_, _, _, _, _, _, _, _] [(pq, .lst ((((M.L.zip (M.R.getD c.1 [])).take (j + 1)).foldl (addP c.2) S).map fun c => .int (c.1 : Int))), (pd, .dk (encP (((M.L.zip (M.R.getD c.1 [])).take (j + 1)).foldl (addP c.2) S)))] _ _
            rw [eS, e2, List.map_append, encP, List.map_append]
            exact a11.weak (by walk_at "wk")
      · rw [encP_some hpi.nd] at hb9
        have hn : x.2.1 ∈ S'.map (·.1) := by simpa using hb9
        have e2 : addP c.2 S' x = S' := if_pos hn
        show At K _ [_, _, _, _, _, _, _, _] [(pq, .lst ((((M.L.zip (M.R.getD c.1 [])).take (j + 1)).foldl (addP c.2) S).map fun c => .int (c.1 : Int))), (pd, .dk (encP (((M.L.zip (M.R.getD c.1 [])).take (j + 1)).foldl (addP c.2) S)))] _ _
        rw [eS, e2]
        exact a9.weak (by walk_at "wk")
    · rw [List.take_length] at a9
      refine' s_aug (k := 3) (i := (i : Int)) (j := 1) a9 rfl evd_i fun σ10 H10 a10 => ⟨m - 1, ?_, i + 1, expandP M S c.1 c.2, ?_, hb.next hw hc, a10.weak ?_⟩
      · have := hb.pi.len
        omega
      · have := hb.pi.len
        omega
      · walk_at "wk"
  · have hi : S.length ≤ i := by
      have := of_decide_eq_false hge
      omega
    have e0 := hb.done hi
    subst e0
    exact s_retK (k := 1) (a4.up e5) rfl rfl fun H' e hp hk => k pd H' e hp hk
end
end K15

/-! part D7 -/
set_option Elab.async false
set_option linter.all false
set_option maxRecDepth 100000
set_option maxHeartbeats 1000000
namespace K15
open PySem PySem.Spec PyProof.Rows L2 RZ
/-! ### steps by a word -/
local macro_rules | `(tactic| walk_at "ov") => `(tactic| first
  | with_reducible exact ov_eqS
  | with_reducible exact ov_eqI
  | with_reducible exact ov_neS
  | with_reducible exact ov_neI
  | with_reducible exact ov_neB
  | with_reducible exact ov_ltS
  | with_reducible exact ov_inS
  | with_reducible exact ov_I0 (fun _ => Dt.int _)
  | with_reducible exact ov_I0 (fun _ => Dt.bl _))
local macro_rules | `(tactic| walk_at "ev") => `(tactic| first
  | with_reducible exact evd_i
  | with_reducible exact evd_s
  | with_reducible exact evd_b
  | with_reducible exact evd_n
  | ((with_reducible refine' evd_var (by assumption) ?hv); (case hv => rfl))
  | with_reducible assumption
  | ((with_reducible refine' evd_op ?ha ?hb ?hr); (case ha => walk_at "ev"); (case hb => walk_at "ev"); (case hr => walk_at "ov"))
  | ((with_reducible refine' evd_and ?ha (fun hc => ?hb)); (case ha => walk_at "ev"); (case hb => walk_at "ev"))
  | ((with_reducible refine' evd_or ?ha (fun hc => ?hb)); (case ha => walk_at "ev"); (case hb => walk_at "ev"))
  | ((with_reducible refine' evd_not ?ha); (case ha => walk_at "ev"))
  | ((with_reducible refine' evd_isi ?ha ?hb); (case ha => walk_at "ev"); (case hb => first | exact kb_ii | exact kb_ib | exact kb_ss | exact kb_tt))
  | ((with_reducible refine' evd_tup ?ha ?hb); (case ha => walk_at "ea"); (case hb => first | decide | (simp only [List.length_cons, List.length_nil]; omega)))
  | ((with_reducible refine' evd_chain ?ha ?hb ?hc ?h1 ?h2); (case ha => walk_at "ev"); (case hb => walk_at "ev"); (case hc => walk_at "ev"); (case h1 => walk_at "ov"); (case h2 => walk_at "ov"))
  | ((with_reducible refine' evd_cb ?ha ?hb); (case ha => walk_at "ea"); (case hb => first | with_reducible exact cv_len | with_reducible exact cv_max2 | with_reducible exact cv_int1 | ((with_reducible refine' cv_lenS ?hz); (case hz => omega))))
  | ((with_reducible refine' evd_c1 _ ?hp ?ha); (case ha => walk_at "ea"); (case hp => first | exact True.intro | assumption | (show _ ≤ _; omega))))
local macro_rules | `(tactic| walk_at "ea") => `(tactic| first
  | with_reducible exact eva_nil
  | ((with_reducible refine' eva_cons ?ha ?hb); (case ha => walk_at "ev"); (case hb => walk_at "ea")))
local macro_rules | `(tactic| walk_at "et") => `(tactic| first
  | with_reducible assumption
  | ((with_reducible refine' evt_test ?ha); (case ha => walk_at "ev"))
  | ((with_reducible refine' evt_B ?ha); (case ha => walk_at "ev"))
  | ((with_reducible refine' evt_and ?ha (fun hc => ?hb)); (case ha => walk_at "et"); (case hb => walk_at "et"))
  | ((with_reducible refine' evt_or ?ha (fun hc => ?hb)); (case ha => walk_at "et"); (case hb => walk_at "et"))
  | ((with_reducible refine' evt_not ?ha); (case ha => walk_at "et")))

local macro_rules | `(tactic| walk_at "wk") => `(tactic| first
  | exact Weak.nil
  | ((refine' Weak.keep ?h); (case h => walk_at "wk"))
  | ((refine' Weak.drop ?h); (case h => walk_at "wk")))

/-! ### sorted ints -/
def sortI (l : List Int) : List Int := l.mergeSort fun a b => decide (a ≤ b)
theorem sort_uniq : ∀ {l m : List Int}, l.Perm m → l.Pairwise (· ≤ ·) → m.Pairwise (· ≤ ·) → l = m
  | [], m, p, _, _ => (List.nil_perm.mp p).symm
  | a :: l, [], p, _, _ => absurd (List.perm_nil.mp p) (by simp)
  | a :: l, b :: m, p, h1, h2 => by
    have e : a = b := by
      have ha : a ∈ b :: m := p.mem_iff.mp (List.mem_cons_self ..)
      have hb : b ∈ a :: l := p.mem_iff.mpr (List.mem_cons_self ..)
      rcases List.mem_cons.mp ha with e | ha
      · exact e
      · rcases List.mem_cons.mp hb with e | hb
        · exact e.symm
        · exact Int.le_antisymm ((List.pairwise_cons.mp h1).1 b hb) ((List.pairwise_cons.mp h2).1 a ha)
    subst e
    rw [sort_uniq p.cons_inv (List.pairwise_cons.mp h1).2 (List.pairwise_cons.mp h2).2]
theorem sortI_perm (l : List Int) : (sortI l).Perm l := List.mergeSort_perm l _
theorem sortI_sorted (l : List Int) : (sortI l).Pairwise (· ≤ ·) := by
  have := List.pairwise_mergeSort (le := fun a b : Int => decide (a ≤ b)) (fun a b c h1 h2 => by
    have := of_decide_eq_true h1
    have := of_decide_eq_true h2
    exact decide_eq_true (by omega)) (fun a b => by
    by_cases h : a ≤ b
    · simp [h]
    · have : b ≤ a := by omega
      simp [this]) l
  exact this.imp fun h => of_decide_eq_true h
theorem sortI_eq {l m : List Int} (p : m.Perm l) (s : m.Pairwise (· ≤ ·)) : m = sortI l := sort_uniq (p.trans (sortI_perm l).symm) s (sortI_sorted l)
theorem sortI_of_perm {l m : List Int} (p : m.Perm l) : sortI m = sortI l := sort_uniq ((sortI_perm m).trans (p.trans (sortI_perm l).symm)) (sortI_sorted m) (sortI_sorted l)
section
variable {K : PySem.W.Frag} {σ : L2.St} {H : Hp} {te : TE}
theorem evl_sortedI {ns : List Int} (h : EvL K te σ H (ns.map .int)) : EvL K (tCB (rSortedI K) (tCons te tNil)) σ H ((sortI ns).map .int) := fun H1 e1 Q q => h H1 e1 _ fun p xs H2 hp e2 hx hd => by
  obtain rfl := hd.ints
  refine ⟨p, ns, rfl, SqL.of hx, fun ns' r p1 s1 hr => ?_⟩
  obtain rfl := sortI_eq p1 s1
  exact q r _ _ (e2.free hr) (e2.trans (sm_new hr)) upd_same (dtAll_ints _)
end
section
variable {P : Program} {w : World} {K : PySem.W.Frag} {mg : Str → Option Value} {base : Heap}
abbrev eInts (l : List Nat) : List PyData := l.map fun (n : Nat) => .int (n : Int)
abbrev s_reached_states : Stmt := top 32
theorem sc_reached_states : FnScope ["machine"] ["machine"] (defScope s_reached_states) := ⟨rfl, rfl, rfl, by decide +kernel, rfl, by decide +kernel, by decide +kernel⟩
abbrev SpReached (K : PySem.W.Frag) : Sp := spQ K Wf (fun M => [eM M]) (fun M => .tuple ((sortI ((order M).map fun (n : Nat) => (n : Int))).map .int))
theorem df_reached_states (T : Top mg) (F : Fn K mg "reached_states" "reached_states" s_reached_states) (d_least_pasts : Df P w K mg base 1 "least_pasts" (SpLeast K)) : Df P w K mg base 2 "reached_states" (SpReached K) := by
  refine df_pure F sc_reached_states (fun _ _ _ _ _ _ us hl => match us, hl with | [_], _ => rfl) (fun _ => rfl) (fun M f cdv A outer s H σ E hw a hr => ?_)
  refine ⟨_, (pss_one (ps_ret (pe_callTy (c_tup' K (by rfl)) (by rfl) T.tuple_ (by decide +kernel) (pa_cons (pe_callB cr_sortedI (by rfl) T.sorted_ (by decide +kernel) (pa_cons (pe_callTy (call_list_dK rfl) (by rfl) T.list_ (by decide +kernel) (pa_cons (pe_d d_least_pasts hr (by decide) rfl (pa_cons (pv 0) pa_nil)) pa_nil)) pa_nil)) pa_nil)))), fun Q k => ?_⟩
  try dsimp only [List.map]
  have e0 : ((encP (lp M)).map fun kv => keyD kv.1) = ((order M).map fun (n : Nat) => (n : Int)).map .int := by
    unfold order encP
    rw [List.map_map, List.map_map, List.map_map]
    rfl
  refine' f_ret a (evd_tupL (evl_sortedI ?h)) k
  case h =>
    rw [← e0]
    exact evl_listD (evk_least hw (eva_cons (evd_var a rfl) eva_nil))
abbrev s_past_to : Stmt := top 33
theorem sc_past_to : FnScope ["machine", "state"] ["machine", "state"] (defScope s_past_to) := ⟨rfl, rfl, rfl, by decide +kernel, rfl, by decide +kernel, by decide +kernel⟩
abbrev SpPastTo (K : PySem.W.Frag) : Sp := spQ K (fun i : Mc × Nat => Wf i.1 ∧ i.2 < i.1.R.length) (fun i => [eM i.1, .int (i.2 : Int)]) (fun i => (getK (encP (lp i.1)) (.inl (i.2 : Int))).getD .none)
theorem df_past_to (T : Top mg) (F : Fn K mg "past_to" "past_to" s_past_to) (d_require_states : Df P w K mg base 3 "require_states" (SpReqStates K)) (d_least_pasts : Df P w K mg base 1 "least_pasts" (SpLeast K)) : Df P w K mg base 4 "past_to" (SpPastTo K) := by
  refine df_pure F sc_past_to (fun _ _ _ _ _ _ us hl => match us, hl with | [_, _], _ => rfl) (fun _ => rfl) (fun i f cdv A outer s H σ E hp a hr => ?_)
  have hu := hu_of hr
  refine ⟨_, (pss_cons (ps_expr (pe_d d_require_states hr (by decide) rfl (pa_cons (pv 0) (pa_cons (pv 1) pa_nil))))
      (pss_one (ps_ret (pe_dget2 hu (pe_d d_least_pasts hr (by decide) rfl (pa_cons (pv 0) pa_nil)) (pv 1) pe_non ⟨rfl, rfl, rfl, rfl⟩)))), fun Q k => ?_⟩
  try dsimp only [List.map]
  obtain ⟨M, n⟩ := i
  refine' q_drop a (evd_c1 (M, n) hp.2 (eva_cons (evd_var a rfl) (eva_cons (evd_var a rfl) eva_nil))) fun H2 a2 => ?_
  exact f_ret a2 (evd_dget2K (key := .inl (n : Int)) (dx := .none) (evk_least hp.1 (eva_cons (evd_var a2 rfl) eva_nil)) (evd_var a2 rfl) evd_n rfl) k
abbrev s_walked : Stmt := top 34
theorem sc_walked : FnScope ["machine", "order", "numbers", "k", "state", "rows", "after", "word"] ["machine"] (defScope s_walked) := ⟨rfl, rfl, rfl, by decide +kernel, rfl, by decide +kernel, by decide +kernel⟩
abbrev SpWalked (K : PySem.W.Frag) : Sp := spQ K Wf (fun M => [eM M]) (fun M => eM (walkedM M))
theorem getK_map {α β : Type} (g : α → β) (k : Key) : ∀ l : List (Key × α), getK (l.map fun c => (c.1, g c.2)) k = (getK l k).map g
  | [] => rfl
  | c :: l => by
    have ih := getK_map g k l
    unfold getK at ih ⊢
    rw [List.map_cons, List.find?_cons, List.find?_cons]
    by_cases e : c.1 = k
    · simp [e]
    · simp only [decide_eq_false e]
      exact ih
theorem num_get (o : List Nat) (nd : o.Nodup) {s : Nat} (hs : s ∈ o) : getK ((((List.range o.length).zip o).map fun p => ((.inl (p.2 : Int) : Key), PyData.int (p.1 : Int)))) (.inl (s : Int)) = some (.int (o.idxOf s : Int)) := by
  have aux : ∀ (o : List Nat) (m : Nat), s ∈ o → getK ((((List.range' m o.length).zip o).map fun p => ((.inl (p.2 : Int) : Key), PyData.int (p.1 : Int)))) (.inl (s : Int)) = some (.int ((m + o.idxOf s : Nat) : Int)) := by
    intro o
    induction o with
    | nil => exact fun _ h => nomatch h
    | cons a o ih =>
      intro m h
      rw [List.length_cons, List.range'_succ, List.zip_cons_cons, List.map_cons]
      unfold getK
      rw [List.find?_cons]
      by_cases e : a = s
      · simp [e]
      · have e2 : decide ((Sum.inl (a : Int) : Key) = Sum.inl (s : Int)) = false := by
          apply decide_eq_false
          intro z
          have := Sum.inl.inj z
          omega
        simp only [e2]
        have h2 := ih (m + 1) ((List.mem_cons.mp h).resolve_left fun z => e z.symm)
        unfold getK at h2
        rw [h2, List.idxOf_cons]
        have e3 : (a == s) = false := by simp [e]
        rw [e3]
        simp only [Bool.false_eq_true, if_false, cond_false]
        congr 2
        omega
  have := aux o 0 hs
  rw [← List.range_eq_range'] at this
  simpa using this
theorem wf_getR {M : Mc} {s : Nat} (hs : s < M.R.length) : M.R[s]? = some (M.R.getD s []) := by
  rw [List.getD_eq_getElem?_getD, List.getElem?_eq_getElem hs]
  rfl
theorem df_walked (T : Top mg) (F : Fn K mg "walked" "walked" s_walked) (d_least_pasts : Df P w K mg base 1 "least_pasts" (SpLeast K)) : Df P w K mg base 2 "walked" (SpWalked K) := by
  refine df_pure F sc_walked (fun _ _ _ _ _ _ us hl => match us, hl with | [_], _ => rfl) (fun _ => rfl) (fun M f cdv A outer s H σ E hw a hr => ?_)
  have hu := hu_of hr
  refine ⟨_, (pss_cons (ps_set (i := 1) sc_walked.nd rfl (by first | exact Or.inl rfl | exact Or.inr rfl) (pe_callTy (call_list_dK rfl) (by rfl) T.list_ (by decide +kernel) (pa_cons (pe_d d_least_pasts hr (by decide) rfl (pa_cons (pv 0) pa_nil)) pa_nil)))
      (pss_cons (ps_set (i := 2) sc_walked.nd rfl (by first | exact Or.inl rfl | exact Or.inr rfl) (pe_dc (own := [("k", 3), ("state", 4)]) rfl sc_walked.nd (pi_enum' K (by rfl) (by rfl) T.enumerate_ (pa_cons (pv 1) pa_nil)) (blkOk_by (N := ["machine", "order", "numbers", "k", "state", "rows", "after", "word"]) (sc := defScope s_walked) (by decide +kernel)) (fun _ _ _ _ _ => by exact (pg_pair K (by rfl) (i := 3) (j := 4) rfl sc_walked.nd rfl rfl (by first | exact Or.inl rfl | exact Or.inr rfl) (by first | exact Or.inl rfl | exact Or.inr rfl) (by first | exact Or.inl rfl | exact Or.inr rfl) (by first | exact Or.inl rfl | exact Or.inr rfl))) (fun _ _ _ _ _ => pts_nil) (fun _ _ _ _ _ => by exact (pv 4)) (fun _ _ _ _ _ => by exact (pv 3))))
      (pss_cons (ps_set (i := 5) sc_walked.nd rfl (by first | exact Or.inl rfl | exact Or.inr rfl) (pe_lst pa_nil))
      (pss_cons (ps_for PassesOwn.never rfl (pi_list' K (by rfl) (pv 1)) (pg_name (i := 4) sc_walked.nd rfl (by first | exact Or.inl rfl | exact Or.inr rfl)) (pss_one (ps_expr (pe_bm PySem.F.plainAttrs_list PySem.F.slot_list_append PySem.F.type_list_append mt_append (pv 5) (pa_cons (pe_callTy (c_tup' K (by rfl)) (by rfl) T.tuple_ (by decide +kernel) (pa_cons (pe_lc (own := [("after", 6), ("word", 7)]) rfl sc_walked.nd (pi_tup' K (by rfl) (pe_ix (ix_tup' K (by rfl)) (pe_ix (ix_tup' K (by rfl)) (pv 0) pe_int (fun _ _ => rfl)) (pv 4) (fun _ _ => rfl))) (blkOk_by (N := ["machine", "order", "numbers", "k", "state", "rows", "after", "word"]) (sc := defScope s_walked) (by decide +kernel)) (fun _ _ _ _ _ => by exact (pg_pair K (by rfl) (i := 6) (j := 7) rfl sc_walked.nd rfl rfl (by first | exact Or.inl rfl | exact Or.inr rfl) (by first | exact Or.inl rfl | exact Or.inr rfl) (by first | exact Or.inl rfl | exact Or.inr rfl) (by first | exact Or.inl rfl | exact Or.inr rfl))) (fun _ _ _ _ _ => pts_nil) (fun _ _ _ _ _ => by exact (pe_tup (pa_cons (pe_dget hu (pv 2) (pv 6) (fun _ _ => rfl)) (pa_cons (pv 7) pa_nil))))) pa_nil)) pa_nil)))))
      (pss_one (ps_ret (pe_tup (pa_cons (pe_ix (ix_tup' K (by rfl)) (pv 0) pe_int (fun _ _ => rfl)) (pa_cons (pe_callTy (c_tup' K (by rfl)) (by rfl) T.tuple_ (by decide +kernel) (pa_cons (pv 5) pa_nil)) pa_nil))))))))), fun Q k => ?_⟩
  try dsimp only [List.map]
  have e0 : ((encP (lp M)).map fun kv => keyD kv.1) = eInts (order M) := by
    unfold order encP
    rw [List.map_map]
    show _ = ((lp M).map _).map _
    rw [List.map_map]
    rfl
  have hz := hw.order_len
  have hr1 := hw.r1
  refine' q_asgL (ds := eInts (order M)) a ?hL fun po σ1 H1 a1 => ?_
  case hL =>
    rw [← e0]
    exact evl_listD (evk_least hw (eva_cons (evd_var a rfl) eva_nil))
  refine' q_asgK (l := ((List.range (order M).length).zip (order M)).map fun p => ((.inl (p.2 : Int) : Key), PyData.int (p.1 : Int))) a1 (evk_dcp (l := (List.range (order M).length).zip (order M)) (f1 := fun p => .int (p.1 : Int)) (f2 := fun p => .int (p.2 : Int)) (fun p => .inl (p.2 : Int)) (fun p => .int (p.1 : Int)) a1 ?h1 ?h2 ?h3 ?h4 ?h5 fun p σ' H' hm a2 => ⟨?h6, ?h7⟩) fun pn σ2 H2 a2 => ?_
  case h1 =>
    rw [← enumD_map (fun (n : Nat) => PyData.int (n : Int))]
    exact src_enumL (evv_var a1 rfl) (a1.hasL (k := 0) rfl)
  case h2 =>
    rw [List.length_zip, List.length_range, Nat.min_self]
    omega
  case h3 =>
    have e2 : (((List.range (order M).length).zip (order M)).map fun p => (.inl (p.2 : Int) : Key)) = (order M).map fun (n : Nat) => (.inl (n : Int) : Key) := by
      have : (((List.range (order M).length).zip (order M)).map (·.2)) = order M := List.map_snd_zip (by simp)
      conv => rhs; rw [← this]
      rw [List.map_map]
      rfl
    rw [e2]
    refine List.Pairwise.map _ (fun a b hab e => ?_) hw.order_nd
    have := Sum.inl.inj e
    exact hab (by omega)
  case h4 => decide
  case h5 => decide
  case h6 => exact evd_var a2 rfl
  case h7 => exact evd_var a2 rfl
  refine' q_asgL (ds := []) a2 (evl_lst eva_nil) fun pr σ3 H3 a3 => ?_
  refine' q_forL (p := po) (l := order M) (en := fun (n : Nat) => .int (n : Int)) (Γf := fun _ => [.d (eM M), .v (.ref po), .v (.ref pn), .o, .o, .v (.ref pr), .o, .o]) (Θf := fun i => [(pr, .lst ((((order M).take i).map fun s => relab (order M) (M.R.getD s [])).map eR)), (pn, .dk (((List.range (order M).length).zip (order M)).map fun p => ((.inl (p.2 : Int) : Key), PyData.int (p.1 : Int)))), (po, .lst (eInts (order M)))]) a3 (evv_var a3 rfl) (fun i => ⟨2, rfl⟩) ?hw rfl (fun i x v σ5 H5 hi a5 hv => g_name a5 hv fun σ6 a6 => ?_) fun σ5 H5 a5 => ?_
  case hw => walk_at "wk"
  · have hx := List.mem_of_getElem? hi
    have hlt := hw.order_lt x hx
    refine' s_append (k := 0) (d := eR (relab (order M) (M.R.getD x []))) a6 (evv_var a6 rfl) rfl (evd_tupL (EvL.is (evl_lcp (l := M.R.getD x []) (f1 := fun p => .int (p.1 : Int)) (f2 := fun p => .str p.2) (fun p => eP ((order M).idxOf p.1, p.2)) a6 (src_tup ?h1) ?h2 ?h3 ?h4 fun p σ' H' hm a7 => ?h5) ?h6)) ?h7 fun H8 a8 => ?_
    case h1 => exact evd_op (evd_ix1 (evd_var a6 rfl)) (evd_var a6 rfl) (ov_ix x (hw.getR hlt))
    case h2 =>
      rw [hw.rl _ (hw.row hlt)]
      exact Nat.le_trans hw.l1 (by decide)
    case h3 => decide
    case h4 => decide
    case h5 => exact evd_tup (eva_cons (evd_dget (key := .inl (p.1 : Int)) (evv_var a7 rfl) (a7.hasK (k := 1) rfl) (evd_var a7 rfl) (num_get _ hw.order_nd (hw.order_cl hx p hm))) (eva_cons (evd_var a7 rfl) eva_nil))
    case h6 =>
      unfold relab
      rw [List.map_map]
      rfl
    case h7 =>
      rw [List.length_map, List.length_map, List.length_take]
      omega
    · show At K _ [_, _, _, _, _, _, _, _] [(pr, .lst ((((order M).take (i + 1)).map fun s => relab (order M) (M.R.getD s [])).map eR)), _, _] _ _
      rw [take_snoc hi, List.map_append, List.map_append]
      exact a8.weak (by walk_at "wk")
  · rw [List.take_length] at a5
    have a5 : At K (.of H) [.d (eM M), .v (.ref po), .v (.ref pn), .o, .o, .v (.ref pr), .o, .o] [(pr, .lst ((((order M)).map fun s => relab (order M) (M.R.getD s [])).map eR)), (pn, .dk (((List.range (order M).length).zip (order M)).map fun p => ((.inl (p.2 : Int) : Key), PyData.int (p.1 : Int)))), (po, .lst (eInts (order M)))] σ5 H5 := a5
    exact f_ret a5 (evd_tup (eva_cons (evd_ix0 (evd_var a5 rfl)) (eva_cons (evd_tupV (evv_var a5 rfl) (a5.hasL (k := 0) rfl)) eva_nil))) k
abbrev s_quieted : Stmt := top 35
theorem sc_quieted : FnScope ["machine", "words", "rows", "row", "after", "word"] ["machine", "words"] (defScope s_quieted) := ⟨rfl, rfl, rfl, by decide +kernel, rfl, by decide +kernel, by decide +kernel⟩
abbrev SpQuieted (K : PySem.W.Frag) : Sp := spQ K (fun i : Mc × List Str => Wf i.1) (fun i => [eM i.1, eL i.2]) (fun i => eM (mapW (hush i.2) i.1))
theorem df_quieted (T : Top mg) (F : Fn K mg "quieted" "quieted" s_quieted) : Df P w K mg base 1 "quieted" (SpQuieted K) := by
  refine df_pure F sc_quieted (fun _ _ _ _ _ _ us hl => match us, hl with | [_, _], _ => rfl) (fun _ => rfl) (fun i f cdv A outer s H σ E hw a hr => ?_)
  refine ⟨_, (pss_cons (ps_set (i := 2) sc_quieted.nd rfl (by first | exact Or.inl rfl | exact Or.inr rfl) (pe_lst pa_nil))
      (pss_cons (ps_for PassesOwn.never rfl (pi_tup' K (by rfl) (pe_ix (ix_tup' K (by rfl)) (pv 0) pe_int (fun _ _ => rfl))) (pg_name (i := 3) sc_quieted.nd rfl (by first | exact Or.inl rfl | exact Or.inr rfl)) (pss_one (ps_expr (pe_bm PySem.F.plainAttrs_list PySem.F.slot_list_append PySem.F.type_list_append mt_append (pv 2) (pa_cons (pe_callTy (c_tup' K (by rfl)) (by rfl) T.tuple_ (by decide +kernel) (pa_cons (pe_lc (own := [("after", 4), ("word", 5)]) rfl sc_quieted.nd (pi_tup' K (by rfl) (pv 3)) (blkOk_by (N := ["machine", "words", "rows", "row", "after", "word"]) (sc := defScope s_quieted) (by decide +kernel)) (fun _ _ _ _ _ => by exact (pg_pair K (by rfl) (i := 4) (j := 5) rfl sc_quieted.nd rfl rfl (by first | exact Or.inl rfl | exact Or.inr rfl) (by first | exact Or.inl rfl | exact Or.inr rfl) (by first | exact Or.inl rfl | exact Or.inr rfl) (by first | exact Or.inl rfl | exact Or.inr rfl))) (fun _ _ _ _ _ => pts_nil) (fun _ _ _ _ _ => by exact (pe_tup (pa_cons (pv 4) (pa_cons (pe_ifExp (pt_cmpR (op_in' K (by rfl)) (pv 5) (pv 1) (by rfl)) (C8.pe_gc rfl T.SILENT) (pv 5)) pa_nil))))) pa_nil)) pa_nil)))))
      (pss_one (ps_ret (pe_tup (pa_cons (pe_ix (ix_tup' K (by rfl)) (pv 0) pe_int (fun _ _ => rfl)) (pa_cons (pe_callTy (c_tup' K (by rfl)) (by rfl) T.tuple_ (by decide +kernel) (pa_cons (pv 2) pa_nil)) pa_nil))))))), fun Q k => ?_⟩
  try dsimp only [List.map]
  obtain ⟨M, ws⟩ := i
  have hw : Wf M := hw
  have hr1 := hw.r1
  refine' q_asgL (ds := []) a (evl_lst eva_nil) fun pr σ1 H1 a1 => ?_
  refine' q_forS (l := M.R) (en := eR) (Γf := fun _ => [.d (eM M), .d (eL ws), .v (.ref pr), .o, .o, .o]) (Θf := fun i => [(pr, .lst (((M.R.take i).map fun r => r.map fun p => (p.1, hush ws p.2)).map eR))]) a1 (srcS_tup ?hs) ?hw rfl (fun G st i x v σ5 H5 hi a5 hv => g_name a5 hv fun σ6 a6 => ?_) fun σ5 H5 a5 => ?_
  case hs => exact evd_ix1 (evd_var a1 rfl)
  case hw => walk_at "wk"
  · have hx := List.mem_of_getElem? hi
    refine' s_append (k := 0) (d := eR (x.map fun p => (p.1, hush ws p.2))) a6 (evv_var a6 rfl) rfl (evd_tupL (EvL.is (evl_lcp (l := x) (f1 := fun p => .int (p.1 : Int)) (f2 := fun p => .str p.2) (fun p => eP (p.1, hush ws p.2)) a6 (src_tup ?h1) ?h2 ?h3 ?h4 fun p σ' H' hm a7 => ?h5) ?h6)) ?h7 fun H8 a8 => ?_
    case h1 => exact evd_var a6 rfl
    case h2 =>
      rw [hw.rl _ hx]
      exact Nat.le_trans hw.l1 (by decide)
    case h3 => decide
    case h4 => decide
    case h5 => exact evd_tup (eva_cons (evd_var a7 rfl) (eva_cons (evd_if (b := decide (p.2 ∈ ws)) (evt_test (evd_op (evd_var a7 rfl) (evd_var a7 rfl) ov_inT)) (fun hb => EvD.is evd_s (by unfold hush; rw [if_pos (of_decide_eq_true hb)])) fun hb => EvD.is (evd_var a7 rfl) (by unfold hush; rw [if_neg (of_decide_eq_false hb)])) eva_nil))
    case h6 =>
      rw [List.map_map]
      rfl
    case h7 =>
      rw [List.length_map, List.length_map, List.length_take]
      omega
    · show At K _ [_, _, _, _, _, _] [(pr, .lst (((M.R.take (i + 1)).map fun r => r.map fun p => (p.1, hush ws p.2)).map eR))] _ _
      rw [take_snoc hi, List.map_append, List.map_append]
      exact a8.weak (by walk_at "wk")
  · rw [List.take_length] at a5
    have a5 : At K (.of H) [.d (eM M), .d (eL ws), .v (.ref pr), .o, .o, .o] [(pr, .lst ((M.R.map fun r => r.map fun p => (p.1, hush ws p.2)).map eR))] σ5 H5 := a5
    exact f_ret a5 (evd_tup (eva_cons (evd_ix0 (evd_var a5 rfl)) (eva_cons (evd_tupV (evv_var a5 rfl) (a5.hasL (k := 0) rfl)) eva_nil))) k
end
end K15

/-! part E4 -/
set_option Elab.async false
set_option linter.all false
set_option maxRecDepth 100000
set_option maxHeartbeats 1000000
/-! first, *others = a list -/
namespace K15z
open PySem
theorem shift {prog : Program} {w : World} {A : Around} {I : Addr} {fp wr : List Addr} {n k : Nat} {P : Nat → Value → Prop} {St : Nat → Heap → Prop} (W : Walks prog w A I fp wr n P St) (hk : k ≤ n) : Walks prog w A I fp wr (n - k) (fun i => P (i + k)) (fun i => St (i + k)) where
  sub := W.sub
  frame := fun i => W.frame (i + k)
  item := fun i s Q E hi st hQ => W.item (i + k) s Q E (by omega) st fun v h' tk hp hs => hQ v h' tk hp (by rw [show i + 1 + k = i + k + 1 by omega]; exact hs)
  done := fun s Q E st hQ => W.done s Q E (by rw [show n - k + k = n by omega] at st; exact st) hQ
  self := fun i => W.self (i + k)
theorem items_from {acc : Array Value} {items : Array Value} (h : ItemsOf (fun i v => items[i + 1]? = some v) acc (items.size - 1)) : acc.toList = items.toList.drop 1 := by
  apply List.ext_getElem?
  intro i
  rw [List.getElem?_drop]
  by_cases hi : i < items.size - 1
  · have hs : acc.size = items.size - 1 := h.1
    have ha : i < acc.size := by omega
    have := h.2 i acc[i] (Array.getElem?_eq_getElem ha)
    rw [Array.getElem?_toList, Array.getElem?_eq_getElem ha, ← this, Nat.add_comm 1 i, Array.getElem?_toList]
  · have hs : acc.size = items.size - 1 := h.1
    rw [List.getElem?_eq_none (by simp; omega), List.getElem?_eq_none (by simp; omega)]
theorem star_items {prog : Program} {w : World} {A : Around} {E : Value → Shared → Prop} {s : Shared} {l : Addr} {items : Array Value} {x : Value} {Q : List Value → Shared → Prop} (hh : A.handled = none) (hl : s.heap.IsList l items) (hx : items[0]? = some x) (hz : items.size ≤ sizeLine)
    (hQ : ∀ (h' : Heap) (tk : Nat), (∀ b o, s.heap.get? b = some o → h'.get? b = some o) → Q [x, .ref h'.objs.size] { s with heap := h'.push { cls := .type "list", data := .seq (items.toList.drop 1).toArray }, toks := tk }) :
    wpAny (model prog w) A (unpackItems (.ref l) 2 (some 1)) Q E s := by
  have hn : 0 < items.size := (Array.getElem?_eq_some_iff.mp hx).1
  have hlt : l ≠ s.heap.objs.size := by obtain ⟨o, ho, _⟩ := hl; exact Nat.ne_of_lt (Heap.lt_size ho)
  have hll : l < s.heap.objs.size := by obtain ⟨o, ho, _⟩ := hl; exact Heap.lt_size ho
  unfold unpackItems
  refine wpAny_bind ?_
  unfold notIterableAtAll
  refine wpAny_bind (wpAny_specialOf hl.typeIs F.slot_list_iter.lookup ?_)
  refine wpAny_pure ?_
  simp only [Bool.false_eq_true, if_false]
  refine wpAny_bind (wpAny_holding (wpAny_pyIter_list hl ?_))
  refine wpAny_bind (wpAny_holding (PySem.W.kun_draw hlt 1 0 _ _ ⟨_, Heap.get?_push_size _ rfl, rfl, rfl⟩ (hl.push _) (by omega) fun h₁ hit₁ hs₁ => ?_))
  have hone : List.take 1 (List.drop 0 items.toList) = [x] := by
    rw [List.drop_zero, List.take_one, List.head?_eq_getElem?, Array.getElem?_toList, hx]
    rfl
  rw [hone]
  rw [if_neg (by simp)]
  have hl₁ : h₁.IsList l items := (hl.push _).extBut hs₁.extBut hlt
  have W := (shift (Walks.list (prog := prog) (w := w) (A := A.in1) hh s.heap.objs.size l hlt items) (k := 1) hn).toS
  have hsz1 : h₁.objs.size = s.heap.objs.size + 1 := by rw [hs₁.1, Heap.size_push]
  refine wpAny_bind (wpAny_holding (wpAny_collect_iter (T := "list_iterator") (.inr (.inr (.inl rfl))) W (fun i s' st => ?_) ⟨hit₁, hl₁⟩ (fun b hb => ?_) (by simp) (fun s' acc hm hacc => ?_) (by omega)))
  · obtain ⟨⟨o, ho, hc, _⟩, _⟩ := st
    exact ⟨o, ho, hc⟩
  · simp only [List.mem_cons, List.not_mem_nil, or_false] at hb
    show b < h₁.objs.size
    rw [hsz1]
    rcases hb with rfl | rfl
    · exact Nat.lt_succ_self _
    · exact Nat.lt_succ_of_lt hll
  · have ha := items_from hacc
    rw [ha]
    rw [if_neg (by simp)]
    have e1 : (items.toList.drop 1).length - (2 - 1 - 1) = (items.toList.drop 1).length := by omega
    simp only [e1, List.take_length, List.drop_length, List.append_nil]
    refine wpAny_bind (wpAny_newList (wpAny_pure ?_) ?_)
    · rw [Moved.eq_with hm]
      refine hQ s'.heap s'.toks fun b o e => hm.heap b o (fun hmem => ?_) ?_
      · simp only [List.mem_cons, List.not_mem_nil, or_false] at hmem
        exact absurd (Heap.lt_size e) (by rw [hmem]; exact Nat.lt_irrefl _)
      · exact hs₁.extBut b o (Nat.ne_of_lt (Heap.lt_size e)) (Heap.get?_push_of_some _ e)
    · rw [List.length_drop, Array.length_toList]
      omega
end K15z
namespace K15
open PySem PySem.Spec PyProof.Rows L2 RZ
def gStar (K : PySem.W.Frag) (t : TGs) : TG := fun v σ H Q => ∃ a x xs, v = .ref a ∧ SqL K H a (x :: xs) ∧ ∀ p, H p = none → t [x, .ref p] σ (upd H p (.lst xs)) Q
theorem pg_star {X : Cx} (K : PySem.W.Frag) (hK : X.K = K) {e1 e2 : Expr} {k : Nat} {ps pos : Pos} {t : TGs} (hc : X.calm = true) (h : PGs X [e1, e2] t)
    (hn : (assignEach [e1, .Starred e2 ps] X.env).length = 2 := by rfl) (hst : (assignEach [e1, .Starred e2 ps] X.env).findIdx? (·.1) = some 1 := by rfl) (hm : (assignEach [e1, .Starred e2 ps] X.env).map (·.2) = (assignEach [e1, e2] X.env).map (·.2) := by rfl) :
    PG X (.Tuple [e1, .Starred e2 ps] k pos) (gStar K t) := by
  subst hK
  refine ⟨fun pins s σ H v u Q I r hw => ?_⟩
  obtain ⟨a, x, xs, e0, hq, hw⟩ := hw
  subst e0
  cases r
  obtain ⟨its, rv, pl, hz⟩ := I.list hq
  have hl' : s.heap.IsList a its.toArray := by
    obtain ⟨o, m, e, c, d, q⟩ := pl
    exact ⟨o, e, c, m, q⟩
  match its, rv, hl' with
  | u :: us, .cons r1 r2, hl' =>
    rw [PyProof.Rows.assign_Tuple]
    refine wpAny_bind (wpAny_standAt ?_)
    unfold unpack
    rw [hn, hst, hm]
    have hsz : (u :: us).toArray.size ≤ sizeLine := by
      have := r2.length
      simp only [List.length_cons] at hz
      simp
      omega
    refine wpAny_bind (wpAny_holding (K15z.star_items (I.ok.hd hc) hl' (x := u) rfl hsz fun h' tk hx => ?_))
    have I1 : Inv X pins σ H { s with heap := h', toks := tk } := I.kept hx
    have ew : ((u :: us).toArray.toList.drop 1).toArray = us.toArray := by simp
    rw [ew]
    have hxl : xs.length ≤ sizeLine := by
      simp only [List.length_cons] at hz
      omega
    have I2 : Inv X pins σ (upd H h'.objs.size (.lst xs)) { s with heap := h'.push { cls := .type "list", data := .seq us.toArray }, toks := tk } :=
      I1.laid (t' := tk) (fun b o e => Heap.get?_push_of_some _ e) (Nat.le_refl _) ⟨hxl, us, 0, r2, Heap.get?_push_size _ rfl⟩
    exact h.run pins _ σ _ _ _ Q I2 (.cons r1 (.cons (show RelV (.ref h'.objs.size) (.ref h'.objs.size) from rfl) .nil)) (hw _ (I1.hok.fresh (Nat.le_refl _)))
/-- a local name that holds one of two defs, called -/
structure HeldR (P : Program) (w : World) (K : PySem.W.Frag) (mg : Str → Option Value) (base : Heap) (k : Nat) (f : Addr) (sp : Sp) : Prop where
  kp : PySem.W.keepIn K (.ref f) = true
  fn : FnR P w K mg base CX0 k f sp
def tCallV2 (i : Nat) (f1 f2 : Addr) (sp1 sp2 : Sp) (t : TA) : TE := fun σ H Q => (σ[i]? = some (some (.ref f1)) ∧ t σ H fun vs H1 => sp1 vs H1 Q E0) ∨ (σ[i]? = some (some (.ref f2)) ∧ t σ H fun vs H1 => sp2 vs H1 Q E0)
theorem pe_cv2 {X : Cx} {i j k1 k2 : Nat} {f1 f2 : Addr} {sp1 sp2 : Sp} {x : Str} {p pos : Pos} {e : Expr} {es : List Expr} {t : TA} (c1 : HeldR X.prog X.w X.K X.mg X.base k1 f1 sp1) (c2 : HeldR X.prog X.w X.K X.mg X.base k2 f2 sp2) (hr : Room j X.A) (hk1 : k1 ≤ j) (hk2 : k2 ≤ j) (hN : X.N[i]? = some x) (hv : Vis X.env.scope x) (ha : PA X (e :: es) t)
    (hd : (x == ("__debug__" : Str)) = false := by decide) (hcd : (x == ("__classdict__" : Str)) = false := by decide)
    (he : starEach (e :: es) X.env = (false, eval e X.env) :: starEach es X.env := by rfl) (hpl : (backTo pos (starEach es X.env)).any (·.1) = false := by rfl) :
    PE X (.Call (.Name x p) (e :: es) [] pos) (tCallV2 i f1 f2 sp1 sp2 t) := by
  refine ⟨fun pins s σ H Q I h => ?_⟩
  have go : ∀ {k : Nat} {f : Addr} {sp : Sp}, HeldR X.prog X.w X.K X.mg X.base k f sp → k ≤ j → σ[i]? = some (some (.ref f)) → (t σ H fun vs H1 => sp vs H1 Q E0) → wpAny (model X.prog X.w) X.A (eval (.Call (.Name x p) (e :: es) [] pos) X.env) (EP X pins σ Q) X.xe s := fun {k f sp} c hk hs ht => by
    refine wpAny_Call_Name_kw (thn ((pe_var (pos := p) hN hv hd hcd).run pins s σ H (fun v H1 => v = .ref f ∧ H1 = H) I ⟨.ref f, hs, rfl, rfl⟩) fun u s1 ⟨v, H1, I1, r1, q1⟩ => ?_)
    obtain ⟨rfl, rfl⟩ := q1
    cases r1
    refine PySem.W.callWith_K (h₀ := X.base) I.ok.mod.kin c.kp (thn (ha.run pos pins s1 σ _ _ I1 ht) fun us s2 ⟨vs, H2, I2, r, q⟩ => ⟨I2.kIn, ?_⟩) he hpl
    exact wpAny_call (run_fnR c.fn (hr.mono hk) pass0 I2 r q)
  rcases h with ⟨h1, h2⟩ | ⟨h1, h2⟩
  · exact go c1 hk1 h1 h2
  · exact go c2 hk2 h1 h2
end K15

/-! part D8 -/
set_option Elab.async false
set_option linter.all false
set_option maxRecDepth 100000
set_option maxHeartbeats 1000000
namespace K15
open PySem PySem.Spec PyProof.Rows L2 RZ
/-! ### steps by a word -/
local macro_rules | `(tactic| walk_at "ov") => `(tactic| first
  | with_reducible exact ov_eqS
  | with_reducible exact ov_eqI
  | with_reducible exact ov_neS
  | with_reducible exact ov_neI
  | with_reducible exact ov_neB
  | with_reducible exact ov_ltS
  | with_reducible exact ov_inS
  | with_reducible exact ov_I0 (fun _ => Dt.int _)
  | with_reducible exact ov_I0 (fun _ => Dt.bl _))
local macro_rules | `(tactic| walk_at "ev") => `(tactic| first
  | with_reducible exact evd_i
  | with_reducible exact evd_s
  | with_reducible exact evd_b
  | with_reducible exact evd_n
  | ((with_reducible refine' evd_var (by assumption) ?hv); (case hv => rfl))
  | with_reducible assumption
  | ((with_reducible refine' evd_op ?ha ?hb ?hr); (case ha => walk_at "ev"); (case hb => walk_at "ev"); (case hr => walk_at "ov"))
  | ((with_reducible refine' evd_and ?ha (fun hc => ?hb)); (case ha => walk_at "ev"); (case hb => walk_at "ev"))
  | ((with_reducible refine' evd_or ?ha (fun hc => ?hb)); (case ha => walk_at "ev"); (case hb => walk_at "ev"))
  | ((with_reducible refine' evd_not ?ha); (case ha => walk_at "ev"))
  | ((with_reducible refine' evd_isi ?ha ?hb); (case ha => walk_at "ev"); (case hb => first | exact kb_ii | exact kb_ib | exact kb_ss | exact kb_tt))
  | ((with_reducible refine' evd_tup ?ha ?hb); (case ha => walk_at "ea"); (case hb => first | decide | (simp only [List.length_cons, List.length_nil]; omega)))
  | ((with_reducible refine' evd_chain ?ha ?hb ?hc ?h1 ?h2); (case ha => walk_at "ev"); (case hb => walk_at "ev"); (case hc => walk_at "ev"); (case h1 => walk_at "ov"); (case h2 => walk_at "ov"))
  | ((with_reducible refine' evd_cb ?ha ?hb); (case ha => walk_at "ea"); (case hb => first | with_reducible exact cv_len | with_reducible exact cv_max2 | with_reducible exact cv_int1 | ((with_reducible refine' cv_lenS ?hz); (case hz => omega))))
  | ((with_reducible refine' evd_c1 _ ?hp ?ha); (case ha => walk_at "ea"); (case hp => first | exact True.intro | assumption | (show _ ≤ _; omega))))
local macro_rules | `(tactic| walk_at "ea") => `(tactic| first
  | with_reducible exact eva_nil
  | ((with_reducible refine' eva_cons ?ha ?hb); (case ha => walk_at "ev"); (case hb => walk_at "ea")))
local macro_rules | `(tactic| walk_at "et") => `(tactic| first
  | with_reducible assumption
  | ((with_reducible refine' evt_test ?ha); (case ha => walk_at "ev"))
  | ((with_reducible refine' evt_B ?ha); (case ha => walk_at "ev"))
  | ((with_reducible refine' evt_and ?ha (fun hc => ?hb)); (case ha => walk_at "et"); (case hb => walk_at "et"))
  | ((with_reducible refine' evt_or ?ha (fun hc => ?hb)); (case ha => walk_at "et"); (case hb => walk_at "et"))
  | ((with_reducible refine' evt_not ?ha); (case ha => walk_at "et")))

local macro_rules | `(tactic| walk_at "wk") => `(tactic| first
  | exact Weak.nil
  | ((refine' Weak.keep ?h); (case h => walk_at "wk"))
  | ((refine' Weak.drop ?h); (case h => walk_at "wk")))

/-! ### readings of texts -/
section
variable {K : PySem.W.Frag} {σ : L2.St} {H : Hp} {ta tb te to : TE} {d dx : PyData} {ds es : List PyData} {ts : List TE}
theorem evd_fmtS {y : Str} (h : EvD K te σ H (.str y)) (hl : y.length ≤ 100000) : EvD K (tFmt te) σ H (.str y) := fun H1 e Q q => h H1 e _ fun v H2 e2 hv => by
  cases hv
  exact .inl ⟨y, rfl, sz_of hl, q _ H2 e2 (.str _)⟩
theorem evd_fmtI {n : Nat} (h : EvD K te σ H (.int (n : Int))) (hl : n < 100) : EvD K (tFmt te) σ H (.str (numW n)) := fun H1 e Q q => h H1 e _ fun v H2 e2 hv => by
  cases hv
  refine .inr ⟨(n : Int), rfl, ?_, q _ H2 e2 (.str _)⟩
  have : (n : Int).natAbs = n := Int.natAbs_natCast n
  rw [this]
  by_cases h0 : n = 0
  · subst h0
    decide
  · have := (Nat.log2_lt h0 (k := 7)).mpr (by omega)
    omega
def EvJ (_K : PySem.W.Frag) (ts : List TE) (acc : Str) (σ : L2.St) (H : Hp) (out : Str) : Prop := ∀ H1, Same H H1 → ∀ Q : Str → Hp → Prop, (∀ H2, Same H1 H2 → Q out H2) → tJs ts acc σ H1 Q
theorem evj_nil {acc : Str} : EvJ K [] acc σ H acc := fun H1 _ Q q => q H1 (Same.refl _)
theorem evj_cons {acc out y : Str} (h : EvD K te σ H (.str y)) (hl : (acc ++ y).length ≤ 100000) (r : EvJ K ts (acc ++ y) σ H out) : EvJ K (te :: ts) acc σ H out := fun H1 e Q q => h H1 e _ fun v H2 e2 hv => by
  cases hv
  exact ⟨y, rfl, sz_of hl, r H2 (e.trans e2) Q fun H3 e3 => q H3 (e2.trans e3)⟩
theorem evd_js {out : Str} (h : EvJ K ts Str.empty σ H out) : EvD K (fun σ H Q => tJs ts Str.empty σ H fun out H1 => Q (.str out) H1) σ H (.str out) := fun H1 e Q q => h H1 e _ fun H2 e2 => q _ H2 e2 (.str _)
def rJoin (K : PySem.W.Frag) : V → List V → Hp → VK → Prop := fun x xs H Q => ∃ a p, ∃ ys : List Str, x = .str a ∧ xs = [.ref p] ∧ (SqL K H p (ys.map V.str) ∨ SqT K H p (ys.map V.str)) ∧ (ys.map (·.length)).sum + ys.length * a.length ≤ 16777216 ∧ Q (.str (Txt.join a ys)) H
theorem evd_joinT {c : Nat} {ys : List Str} (h : EvD K te σ H (.tuple (ys.map .str))) (hl : (ys.map (·.length)).sum + ys.length ≤ 100000) : EvD K (tM1 (rJoin K) (tC (.str (SX.S [c]))) te) σ H (.str (Txt.join (SX.S [c]) ys)) := fun H1 e Q q => ⟨⟨_, rfl⟩, h H1 e _ fun v H2 e2 hv => by
  obtain ⟨a, xs, rfl, hs, ha⟩ := hv.tup_inv
  obtain rfl := ha.strs
  exact ⟨SX.S [c], a, ys, rfl, rfl, .inr hs, by rw [SX.S_len]; simp; omega, q _ H2 e2 (.str _)⟩⟩
theorem evd_joinL {c : Nat} {ys : List Str} (h : EvL K te σ H (ys.map .str)) (hl : (ys.map (·.length)).sum + ys.length ≤ 100000) : EvD K (tM1 (rJoin K) (tC (.str (SX.S [c]))) te) σ H (.str (Txt.join (SX.S [c]) ys)) := fun H1 e Q q => ⟨⟨_, rfl⟩, h H1 e _ fun p xs H2 hp e2 hs ha => by
  obtain rfl := ha.strs
  exact ⟨SX.S [c], p, ys, rfl, rfl, .inl (SqL.of hs), by rw [SX.S_len]; simp; omega, q _ H2 e2 (.str _)⟩⟩
def rSplit : V → List V → Hp → VK → Prop := fun x xs H Q => ∃ a b, x = .str a ∧ xs = [.str b] ∧ (b.length == 0) = false ∧ a.length + 2 ≤ sizeLine ∧ rNewStrs (Txt.split a b) H Q
theorem evl_split {c : Nat} {x : Str} (h : EvD K to σ H (.str x)) (hl : x.length ≤ 99990) : EvL K (tM1 rSplit to (tC (.str (SX.S [c])))) σ H ((Txt.split x (SX.S [c])).map .str) := fun H1 e Q q => h H1 e _ fun v H2 e2 hv => by
  cases hv
  refine ⟨⟨_, rfl⟩, x, SX.S [c], rfl, rfl, rfl, sz_of (by omega), fun p hp => q p _ _ (e2.free hp) (e2.trans (sm_new hp)) upd_same (dtAll_strs _)⟩
theorem evl_cat (h1 : EvL K ta σ H ds) (h2 : EvL K tb σ H es) (hl : ds.length + es.length ≤ 100000) : EvL K (tOp rCat ta tb) σ H (ds ++ es) := fun H1 e Q q => h1 H1 e _ fun p xs H2 hp e2 hx hxd => h2 H2 (e.trans e2) _ fun r ys H3 hr e3 hy hyd =>
  ⟨p, r, xs, ys, rfl, rfl, e3 _ _ hx, hy, by rw [hxd.length, hyd.length]; exact sz_of hl, fun l hll => q l _ _ ((e2.trans e3).free hll) ((e2.trans e3).trans (sm_new hll)) upd_same (((hxd.mono e3).append hyd).mono (sm_new hll))⟩
theorem sum_append (a b : Str) : (a ++ b).length = a.length + b.length := by
  have := congrArg List.length (TL.tl_append a b)
  simpa [Str.length] using this
end
section
variable {P : Program} {w : World} {K : PySem.W.Frag} {mg : Str → Option Value} {base : Heap}
abbrev s_reading_text : Stmt := top 45
theorem sc_reading_text : FnScope ["reading"] ["reading"] (defScope s_reading_text) := ⟨rfl, rfl, rfl, by decide +kernel, rfl, by decide +kernel, by decide +kernel⟩
abbrev SpReadingText (K : PySem.W.Frag) : Sp := spQ K (fun l : List Str => (l.map (·.length)).sum + l.length ≤ 100000) (fun l => [eL l]) (fun l => .str (rdW l))
theorem df_reading_text (T : Top mg) (F : Fn K mg "reading_text" "reading_text" s_reading_text) : Df P w K mg base 1 "reading_text" (SpReadingText K) := by
  refine df_pure F sc_reading_text (fun _ _ _ _ _ _ us hl => match us, hl with | [_], _ => rfl) (fun _ => rfl) (fun l f cdv A outer s H σ E hp a hr => ?_)
  refine ⟨_, (pss_one (ps_ret (pe_ifExp (pt_cmpR op_gt (pe_callB (c_len' K (by rfl)) (by rfl) T.len_ (by decide +kernel) (pa_cons (pv 0) pa_nil)) pe_int (nomark _)) (pe_join pe_str (pv 0)) (C8.pe_gc rfl T.NOTHING_WORD)))), fun Q k => ?_⟩
  try dsimp only [List.map]
  refine' f_ret a (evd_if (b := decide (0 < (l.length : Int))) (EvT.is (evt_test (evd_op (evd_cb (eva_cons (evd_var a rfl) eva_nil) cv_len) evd_i (ov_I0 fun _ => Dt.bl _))) ?h1) (fun hb => ?h2) fun hb => ?h3) k
  case h1 => rw [List.length_map]
  case h2 =>
    have e : rdW l = Txt.join (SX.S [44]) l := if_pos (of_decide_eq_true hb)
    rw [e]
    exact evd_joinT (c := 44) (evd_var a rfl) hp
  case h3 =>
    have e : rdW l = "-" := if_neg (of_decide_eq_false hb)
    rw [e]
    exact evd_s
abbrev s_pair_word : Stmt := top 46
theorem sc_pair_word : FnScope ["pair", "after", "word"] ["pair"] (defScope s_pair_word) := ⟨rfl, rfl, rfl, by decide +kernel, rfl, by decide +kernel, by decide +kernel⟩
abbrev PairOk (p : Nat × Str) : Prop := p.1 < 10 ∧ p.2.length ≤ 10
abbrev SpPairWord (K : PySem.W.Frag) : Sp := spQ K PairOk (fun p => [eP p]) (fun p => .str (pairW p))
theorem df_pair_word (T : Top mg) (F : Fn K mg "pair_word" "pair_word" s_pair_word) : Df P w K mg base 1 "pair_word" (SpPairWord K) := by
  refine df_pure F sc_pair_word (fun _ _ _ _ _ _ us hl => match us, hl with | [_], _ => rfl) (fun _ => rfl) (fun p f cdv A outer s H σ E hp a hr => ?_)
  refine ⟨_, (pss_cons (ps_asg (pv 0) (pg_pair K (by rfl) (i := 1) (j := 2) rfl sc_pair_word.nd rfl rfl (by first | exact Or.inl rfl | exact Or.inr rfl) (by first | exact Or.inl rfl | exact Or.inr rfl) (by first | exact Or.inl rfl | exact Or.inr rfl) (by first | exact Or.inl rfl | exact Or.inr rfl)))
      (pss_one (ps_ret (pe_joined (PJ.cons (pe_fmt (pv 1)) (PJ.cons pe_str (PJ.cons (pe_fmt (pe_ifExp (pt_cmpR op_eq (pv 2) (C8.pe_gc rfl T.SILENT) (nomark _)) (C8.pe_gc rfl T.NOTHING_WORD) (pv 2))) PJ.nil))))))), fun Q k => ?_⟩
  try dsimp only [List.map]
  refine' q_asgP a (evd_var a rfl) fun σ1 H1 a1 => ?_
  have h1 := numW_len hp.1
  have h2 := dashW_len hp.2
  have e0 : Str.empty ++ numW p.1 = numW p.1 := TL.ext_tl (by rw [TL.tl_append]; rfl)
  have e1 : ((Str.empty ++ numW p.1) ++ (":" : Str)) ++ dashW p.2 = pairW p := by
    rw [e0, colon_S]
    exact (join2 58 _ _).symm
  have hc : (":" : Str).length = 1 := by decide +kernel
  refine' f_ret a1 (evd_js (evj_cons (evd_fmtI (evd_var a1 rfl) (Nat.lt_trans hp.1 (by decide))) ?h1 (evj_cons evd_s ?h2 (evj_cons (evd_fmtS (y := dashW p.2) (evd_if (b := decide (p.2 = "")) (evt_test (evd_op (evd_var a1 rfl) evd_s ov_eqS)) (fun hb => ?h5) fun hb => ?h6) ?h7) ?h3 ?h4)))) k
  case h1 =>
    rw [e0]
    omega
  case h2 =>
    rw [e0, sum_append]
    omega
  case h3 =>
    rw [e0, sum_append, sum_append]
    omega
  case h4 =>
    rw [e1]
    exact evj_nil
  case h5 =>
    have e : dashW p.2 = "-" := if_pos (of_decide_eq_true hb)
    rw [e]
    exact evd_s
  case h6 =>
    have e : dashW p.2 = p.2 := if_neg (of_decide_eq_false hb)
    rw [e]
    exact evd_var a1 rfl
  case h7 => omega
abbrev s_state_line : Stmt := top 47
theorem sc_state_line : FnScope ["row", "pair"] ["row"] (defScope s_state_line) := ⟨rfl, rfl, rfl, by decide +kernel, rfl, by decide +kernel, by decide +kernel⟩
abbrev SpStateLine (K : PySem.W.Frag) : Sp := spQ K (fun r : Rw => r.length ≤ 10 ∧ ∀ p ∈ r, PairOk p) (fun r => [eR r]) (fun r => .str (lineW r))
theorem df_state_line (T : Top mg) (F : Fn K mg "state_line" "state_line" s_state_line) (d_pair_word : Df P w K mg base 1 "pair_word" (SpPairWord K)) : Df P w K mg base 2 "state_line" (SpStateLine K) := by
  refine df_pure F sc_state_line (fun _ _ _ _ _ _ us hl => match us, hl with | [_], _ => rfl) (fun _ => rfl) (fun r f cdv A outer s H σ E hp a hr => ?_)
  refine ⟨_, (pss_one (ps_ret (pe_join pe_str (pe_op op_cat (pe_lst (pa_cons pe_str pa_nil)) (pe_lc (own := [("pair", 1)]) rfl sc_state_line.nd (pi_tup' K (by rfl) (pv 0)) (blkOk_by (N := ["row", "pair"]) (sc := defScope s_state_line) (by decide +kernel)) (fun _ _ _ _ _ => by exact (pg_name (i := 1) sc_state_line.nd rfl (by first | exact Or.inl rfl | exact Or.inr rfl))) (fun _ _ _ _ _ => pts_nil) (fun _ _ _ _ _ => by exact (pe_d d_pair_word hr (by decide) rfl (pa_cons (pv 1) pa_nil)))))))), fun Q k => ?_⟩
  try dsimp only [List.map]
  refine' f_ret a (evd_joinL (c := 32) (ys := "state" :: r.map pairW) (EvL.is (evl_cat (ds := [.str "state"]) (evl_lst (eva_cons evd_s eva_nil)) (evl_lcn (l := r) (en := eP) (fun p => .str (pairW p)) a (src_tup ?h1) (Nat.le_trans hp.1 (by decide)) ?h2 fun p σ' H2 hm a2 => evd_c1 p (hp.2 p hm) ?h3) ?h4) ?h5) ?h6) k
  case h1 => exact evd_var a rfl
  case h2 => decide
  case h3 => exact eva_cons (evd_var a2 rfl) eva_nil
  case h4 =>
    rw [List.length_map]
    have := hp.1
    show 1 + _ ≤ _
    omega
  case h5 =>
    rw [List.map_cons, List.map_map]
    rfl
  case h6 => exact Nat.le_trans (lineW_sum hp.1 hp.2) (by decide)
abbrev s_machine_text : Stmt := top 48
theorem sc_machine_text : FnScope ["machine", "letters", "rows", "row"] ["machine"] (defScope s_machine_text) := ⟨rfl, rfl, rfl, by decide +kernel, rfl, by decide +kernel, by decide +kernel⟩
abbrev SpMachineText (K : PySem.W.Frag) : Sp := spQ K Wf (fun M => [eM M]) (fun M => .str (textW M))
theorem df_machine_text (T : Top mg) (F : Fn K mg "machine_text" "machine_text" s_machine_text) (d_reading_text : Df P w K mg base 1 "reading_text" (SpReadingText K)) (d_state_line : Df P w K mg base 2 "state_line" (SpStateLine K)) : Df P w K mg base 3 "machine_text" (SpMachineText K) := by
  refine df_pure F sc_machine_text (fun _ _ _ _ _ _ us hl => match us, hl with | [_], _ => rfl) (fun _ => rfl) (fun M f cdv A outer s H σ E hw a hr => ?_)
  refine ⟨_, (pss_cons (ps_asg (pv 0) (pg_pair K (by rfl) (i := 1) (j := 2) rfl sc_machine_text.nd rfl rfl (by first | exact Or.inl rfl | exact Or.inr rfl) (by first | exact Or.inl rfl | exact Or.inr rfl) (by first | exact Or.inl rfl | exact Or.inr rfl) (by first | exact Or.inl rfl | exact Or.inr rfl)))
      (pss_one (ps_ret (pe_join pe_str (pe_op op_cat (pe_lst (pa_cons (pe_joined (PJ.cons pe_str (PJ.cons (pe_fmt (pe_d d_reading_text hr (by decide) rfl (pa_cons (pv 1) pa_nil))) PJ.nil))) pa_nil)) (pe_lc (own := [("row", 3)]) rfl sc_machine_text.nd (pi_tup' K (by rfl) (pv 2)) (blkOk_by (N := ["machine", "letters", "rows", "row"]) (sc := defScope s_machine_text) (by decide +kernel)) (fun _ _ _ _ _ => by exact (pg_name (i := 3) sc_machine_text.nd rfl (by first | exact Or.inl rfl | exact Or.inr rfl))) (fun _ _ _ _ _ => pts_nil) (fun _ _ _ _ _ => by exact (pe_d d_state_line hr (by decide) rfl (pa_cons (pv 3) pa_nil))))))))), fun Q k => ?_⟩
  try dsimp only [List.map]
  refine' q_asgP a (evd_var a rfl) fun σ1 H1 a1 => ?_
  have hs := letters_sum hw.l1 hw.l2
  have e0 : Str.empty ++ ("letters " : Str) = ("letters " : Str) := TL.ext_tl (by rw [TL.tl_append]; rfl)
  have er : rdW M.L = Txt.join (SX.S [44]) M.L := if_pos (by have := hw.l0; omega)
  have e1 : (Str.empty ++ ("letters " : Str)) ++ rdW M.L = headW M.L := by
    have := join2 32 ("letters" : Str) (Txt.join (SX.S [44]) M.L)
    have e2 : ("letters" : Str) ++ SX.S [32] = ("letters " : Str) := by decide +kernel
    rw [e2] at this
    rw [e0, er]
    exact this.symm
  have hc : ("letters " : Str).length = 8 := by decide +kernel
  have hl2 : (rdW M.L).length ≤ 200 := by
    rw [er]
    have := join_len 44 M.L
    omega
  have hr1 := hw.r1
  refine' f_ret a1 (evd_joinL (c := 10) (ys := headW M.L :: M.R.map lineW) (EvL.is (evl_cat (ds := [.str (headW M.L)]) (evl_lst (eva_cons (evd_js (evj_cons evd_s ?h1 (evj_cons (evd_fmtS (evd_c1 M.L ?h2 (eva_cons (evd_var a1 rfl) eva_nil)) ?h3) ?h4 ?h5))) eva_nil)) (evl_lcn (l := M.R) (en := eR) (fun r => .str (lineW r)) a1 (src_tup ?h6) ?h7 ?h8 fun r σ' H2 hm a2 => evd_c1 r ⟨?h9, fun p hp => ⟨(hw.pr hm hp).1, (hw.pr hm hp).2.1⟩⟩ ?hA) ?hB) ?hC) ?hD) k
  case h1 =>
    rw [e0]
    omega
  case h2 => show _ ≤ _; omega
  case h3 => omega
  case h4 =>
    rw [e0, sum_append]
    omega
  case h5 =>
    rw [e1]
    exact evj_nil
  case h6 => exact evd_var a1 rfl
  case h7 => omega
  case h8 => decide
  case h9 =>
    rw [hw.rl r hm]
    exact hw.l1
  case hA => exact eva_cons (evd_var a2 rfl) eva_nil
  case hB =>
    rw [List.length_map]
    show 1 + _ ≤ _
    omega
  case hC =>
    rw [List.map_cons, List.map_map]
    rfl
  case hD => exact Nat.le_trans hw.text_sum (by decide)
end
end K15

/-! part D9 -/
set_option Elab.async false
set_option linter.all false
set_option maxRecDepth 100000
set_option maxHeartbeats 1000000
namespace K15
open PySem PySem.Spec PyProof.Rows L2 RZ
/-! ### steps by a word -/
local macro_rules | `(tactic| walk_at "ov") => `(tactic| first
  | with_reducible exact ov_eqS
  | with_reducible exact ov_eqI
  | with_reducible exact ov_neS
  | with_reducible exact ov_neI
  | with_reducible exact ov_neB
  | with_reducible exact ov_ltS
  | with_reducible exact ov_inS
  | with_reducible exact ov_I0 (fun _ => Dt.int _)
  | with_reducible exact ov_I0 (fun _ => Dt.bl _))
local macro_rules | `(tactic| walk_at "ev") => `(tactic| first
  | with_reducible exact evd_i
  | with_reducible exact evd_s
  | with_reducible exact evd_b
  | with_reducible exact evd_n
  | ((with_reducible refine' evd_var (by assumption) ?hv); (case hv => rfl))
  | with_reducible assumption
  | ((with_reducible refine' evd_op ?ha ?hb ?hr); (case ha => walk_at "ev"); (case hb => walk_at "ev"); (case hr => walk_at "ov"))
  | ((with_reducible refine' evd_and ?ha (fun hc => ?hb)); (case ha => walk_at "ev"); (case hb => walk_at "ev"))
  | ((with_reducible refine' evd_or ?ha (fun hc => ?hb)); (case ha => walk_at "ev"); (case hb => walk_at "ev"))
  | ((with_reducible refine' evd_not ?ha); (case ha => walk_at "ev"))
  | ((with_reducible refine' evd_isi ?ha ?hb); (case ha => walk_at "ev"); (case hb => first | exact kb_ii | exact kb_ib | exact kb_ss | exact kb_tt))
  | ((with_reducible refine' evd_tup ?ha ?hb); (case ha => walk_at "ea"); (case hb => first | decide | (simp only [List.length_cons, List.length_nil]; omega)))
  | ((with_reducible refine' evd_chain ?ha ?hb ?hc ?h1 ?h2); (case ha => walk_at "ev"); (case hb => walk_at "ev"); (case hc => walk_at "ev"); (case h1 => walk_at "ov"); (case h2 => walk_at "ov"))
  | ((with_reducible refine' evd_cb ?ha ?hb); (case ha => walk_at "ea"); (case hb => first | with_reducible exact cv_len | with_reducible exact cv_max2 | with_reducible exact cv_int1 | ((with_reducible refine' cv_lenS ?hz); (case hz => omega))))
  | ((with_reducible refine' evd_c1 _ ?hp ?ha); (case ha => walk_at "ea"); (case hp => first | exact True.intro | assumption | (show _ ≤ _; omega))))
local macro_rules | `(tactic| walk_at "ea") => `(tactic| first
  | with_reducible exact eva_nil
  | ((with_reducible refine' eva_cons ?ha ?hb); (case ha => walk_at "ev"); (case hb => walk_at "ea")))
local macro_rules | `(tactic| walk_at "et") => `(tactic| first
  | with_reducible assumption
  | ((with_reducible refine' evt_test ?ha); (case ha => walk_at "ev"))
  | ((with_reducible refine' evt_B ?ha); (case ha => walk_at "ev"))
  | ((with_reducible refine' evt_and ?ha (fun hc => ?hb)); (case ha => walk_at "et"); (case hb => walk_at "et"))
  | ((with_reducible refine' evt_or ?ha (fun hc => ?hb)); (case ha => walk_at "et"); (case hb => walk_at "et"))
  | ((with_reducible refine' evt_not ?ha); (case ha => walk_at "et")))

local macro_rules | `(tactic| walk_at "wk") => `(tactic| first
  | exact Weak.nil
  | ((refine' Weak.keep ?h); (case h => walk_at "wk"))
  | ((refine' Weak.drop ?h); (case h => walk_at "wk")))

section
variable {K : PySem.W.Frag} {σ : L2.St} {H : Hp} {ta tb te to : TE} {d dx : PyData} {ds es : List PyData}
def isNoneD : PyData → Bool | .none => true | _ => false
theorem isNoneD_dt {v : V} (h : Dt K H v d) : decide (v = .non) = isNoneD d := by
  cases h <;> first | rfl | simp [isNoneD]
theorem evd_isN (h : EvD K te σ H d) : EvD K (tOp (fun x y H Q => y = V.non ∧ Q (.bl (decide (x = V.non))) H) te (tC .non)) σ H (.bool (isNoneD d)) := fun H1 e Q q => h H1 e _ fun v H2 e2 hv => ⟨rfl, by
  rw [isNoneD_dt hv]
  exact q _ H2 e2 (.bl _)⟩
theorem evd_notN (h : EvD K te σ H d) : EvD K (tOp (fun x y H Q => y = V.non ∧ Q (.bl (!decide (x = V.non))) H) te (tC .non)) σ H (.bool (!isNoneD d)) := fun H1 e Q q => h H1 e _ fun v H2 e2 hv => ⟨rfl, by
  rw [isNoneD_dt hv]
  exact q _ H2 e2 (.bl _)⟩
theorem evd_ixS0 {x : Str} {c : Nat} {l : List Nat} (h : EvD K te σ H (.str x)) (hx : x.cps.toList = c :: l) (hl : x.length ≤ 100000) : EvD K (tOp rIxS te (tC (.int 0))) σ H (.str ⟨#[c]⟩) := fun H1 e Q q => h H1 e _ fun v H2 e2 hv => by
  cases hv
  exact ⟨x, 0, c, rfl, rfl, sz_of hl, by rw [hx]; exact atI_nat (j := 0) rfl, q _ H2 e2 (.str _)⟩
theorem evd_intS {x : Str} {n : Int} (h : EvD K te σ H (.str x)) (hn : PySem.intText? x = some n) (hl : x.length ≤ 640) : EvD K (tCB (fun xs H Q => ∃ a n, xs = [V.str a] ∧ PySem.intText? a = some n ∧ a.length ≤ 640 ∧ Q (.int n) H) (tCons te tNil)) σ H (.int n) := fun H1 e Q q => h H1 e _ fun v H2 e2 hv => by
  cases hv
  exact ⟨x, n, rfl, hn, hl, q _ H2 e2 (.int _)⟩
/-- None in a pair that has none -/
theorem ov_inPair {i : Int} {x : Str} : OvD K (rIn K false) .none (.tuple [.int i, .str x]) (.bool false) := fun v u H Q hv hu q => by
  obtain ⟨a, xs, rfl, hs, ha⟩ := hu.tup_inv
  obtain ⟨v1, v2, rfl, h1, h2⟩ := ha.two
  cases hv
  cases h1
  cases h2
  exact ⟨a, _, rfl, .inr hs, rfl, rfl, q _ H (Same.refl _) (.bl _)⟩
end
section
variable {P : Program} {w : World} {K : PySem.W.Frag} {mg : Str → Option Value} {base : Heap}
abbrev s_number_or_none : Stmt := top 52
theorem sc_number_or_none : FnScope ["word", "char"] ["word"] (defScope s_number_or_none) := ⟨rfl, rfl, rfl, by decide +kernel, rfl, by decide +kernel, by decide +kernel⟩
abbrev digitsS : Str := "0123456789"
theorem numW_digit {n : Nat} (h : n < 10) : decide (48 + n ∈ digitsS.cps.toList) = true := by
  have : ∀ n < 10, decide (48 + n ∈ digitsS.cps.toList) = true := by decide +kernel
  exact this n h
theorem numW_int {n : Nat} (h : n < 10) : PySem.intText? (numW n) = some (n : Int) := by
  rw [numW_tl h]
  have : ∀ n < 10, PySem.intText? (SX.S [48 + n]) = some ((n : Nat) : Int) := by decide +kernel
  exact this n h
theorem numW_zero {n : Nat} (h : n < 10) : (decide (numW n = ("0" : Str)) || !decide ((⟨#[48 + n]⟩ : Str) = ("0" : Str))) = true := by
  rw [numW_tl h]
  have : ∀ n < 10, (decide (SX.S [48 + n] = ("0" : Str)) || !decide ((⟨#[48 + n]⟩ : Str) = ("0" : Str))) = true := by decide +kernel
  exact this n h
abbrev SpNumber (K : PySem.W.Frag) : Sp := spQ K (fun n : Nat => n < 10) (fun n => [.str (numW n)]) (fun n => .int (n : Int))
theorem df_number_or_none (T : Top mg) (F : Fn K mg "number_or_none" "number_or_none" s_number_or_none) : Df P w K mg base 1 "number_or_none" (SpNumber K) := by
  refine df_pure F sc_number_or_none (fun _ _ _ _ _ _ us hl => match us, hl with | [_], _ => rfl) (fun _ => rfl) (fun n f cdv A outer s H σ E hp a hr => ?_)
  refine ⟨_, (pss_cons (ps_if (PW.pt (pw_or (pt_not (pt_chain op_le op_le pe_int (pe_callB c_lenS (by rfl) T.len_ (by decide +kernel) (pa_cons (pv 0) pa_nil)) (C8.pe_gc rfl T.MOST_DIGITS))) (pw_or1 (pt_not (pt_val (pe_callB (c_all' K (by rfl) rfl) (by rfl) T.all_ (by decide +kernel) (pa_cons (pe_lc (own := [("char", 1)]) rfl sc_number_or_none.nd (pi_str (pv 0)) (blkOk_by (N := ["word", "char"]) (sc := defScope s_number_or_none) (by decide +kernel)) (fun _ _ _ _ _ => by exact (pg_name (i := 1) sc_number_or_none.nd rfl (by first | exact Or.inl rfl | exact Or.inr rfl))) (fun _ _ _ _ _ => pts_nil) (fun _ _ _ _ _ => by exact (pe_cmpR o_inS (pv 1) (C8.pe_gc rfl T.DIGITS) (by rfl)))) pa_nil))))))) (pss_one (ps_ret pe_non)) pss_nil)
      (pss_one (ps_ret (pe_ifExp (PW.pt (pw_or (pt_cmpR op_eq (pv 0) pe_str (nomark _)) (pw_or1 (pt_cmpR op_ne (pe_ix ix_str (pv 0) pe_int (fun _ _ => rfl)) pe_str (nomark _))))) (pe_callTy call_int_str (by rfl) T.int_ (by decide +kernel) (pa_cons (pv 0) pa_nil)) pe_non)))), fun Q k => ?_⟩
  try dsimp only [List.map]
  have hp : n < 10 := hp
  have hlen := numW_len hp
  have htl : (numW n).cps.toList = [48 + n] := by rw [numW_tl hp]
  refine' q_no a (evt_or (a := false) (EvT.is (evt_not (evt_test (evd_chain evd_i (evd_cb (eva_cons (evd_var a rfl) eva_nil) (cv_lenS ?h1)) evd_i (ov_I0 fun _ => Dt.bl _) (ov_I0 fun _ => Dt.bl _)))) ?h2) fun _ => EvT.is (evt_not (evt_test (evd_all (p := fun c => decide (c ∈ digitsS.cps.toList)) (evl_lcn (l := (numW n).cps.toList) (en := fun c => .str ⟨#[c]⟩) _ a (src_str ?h3) ?h4 ?h5 fun c σ' H2 hm a2 => evd_op (evd_var a2 rfl) evd_s ov_inS)))) ?h6) fun H1 a1 => ?_
  case h1 => omega
  case h2 =>
    rw [hlen]
    decide
  case h3 => exact evd_var a rfl
  case h4 =>
    rw [htl]
    show 1 ≤ 100000
    decide
  case h5 => decide
  case h6 =>
    rw [htl, List.all_cons, numW_digit hp]
    rfl
  refine' f_ret a1 (evd_if (b := true) (EvT.is (evt_or (evt_test (evd_op (evd_var a1 rfl) evd_s ov_eqS)) fun _ => evt_test (evd_op (evd_ixS0 (evd_var a1 rfl) htl ?h1) evd_s ov_neS)) ?h2) (fun _ => evd_intS (evd_var a1 rfl) (numW_int hp) ?h3) fun h => nomatch h) k
  case h1 => omega
  case h2 => exact numW_zero hp
  case h3 => omega
abbrev s_said_or_none : Stmt := top 53
theorem sc_said_or_none : FnScope ["word"] ["word"] (defScope s_said_or_none) := ⟨rfl, rfl, rfl, by decide +kernel, rfl, by decide +kernel, by decide +kernel⟩
abbrev SpSaidOrNone (K : PySem.W.Frag) : Sp := spQ K (fun x : Str => isWd x = true) (fun x => [.str (dashW x)]) (fun x => .str x)
theorem isWd_len {x : Str} (h : isWd x = true) : x.length ≤ 8 := by
  unfold isWd at h
  rw [Bool.or_eq_true] at h
  rcases h with h | h
  · exact (isNm_len h).2
  · rw [of_decide_eq_true h]
    decide
theorem df_said_or_none (T : Top mg) (F : Fn K mg "said_or_none" "said_or_none" s_said_or_none) (d_is_name : Df P w K mg base 1 "is_name" (SpIsName K)) : Df P w K mg base 2 "said_or_none" (SpSaidOrNone K) := by
  refine df_pure F sc_said_or_none (fun _ _ _ _ _ _ us hl => match us, hl with | [_], _ => rfl) (fun _ => rfl) (fun x f cdv A outer s H σ E hp a hr => ?_)
  refine ⟨_, (pss_cons (ps_if (pt_cmpR op_eq (pv 0) (C8.pe_gc rfl T.NOTHING_WORD) (nomark _)) (pss_one (ps_ret (C8.pe_gc rfl T.SILENT))) pss_nil)
      (pss_one (ps_ret (pe_ifExp (pt_val (pe_d d_is_name hr (by decide) rfl (pa_cons (pv 0) pa_nil))) (pv 0) pe_non)))), fun Q k => ?_⟩
  try dsimp only [List.map]
  have hp : isWd x = true := hp
  refine' q_when a (evt_test (evd_op (evd_var a rfl) evd_s ov_eqS)) (fun hb H1 a1 => ?_) fun hb H1 a1 => ?_
  · have e : x = "" := by
      have h1 : dashW x = "-" := of_decide_eq_true hb
      unfold dashW at h1
      split at h1
      · assumption
      · exfalso
        have := isWd_chars hp 45 (by rw [h1]; decide +kernel)
        omega
    subst e
    exact f_ret a1 evd_s k
  · have h1 : ¬ dashW x = "-" := of_decide_eq_false hb
    have h2 : ¬ x = "" := fun z => h1 (if_pos z)
    have e : dashW x = x := if_neg h2
    have hn : isNm x = true := by
      unfold isWd at hp
      rw [Bool.or_eq_true] at hp
      exact hp.resolve_right fun z => h2 (of_decide_eq_true z)
    have hl := isWd_len hp
    rw [e] at a1
    exact f_ret a1 (evd_if (b := true) (EvT.is (evt_test (evd_c1 x (show _ ≤ 1000 by omega) (eva_cons (evd_var a1 rfl) eva_nil))) hn) (fun _ => evd_var a1 rfl) fun h => nomatch h) k
abbrev s_letters_or_none : Stmt := top 54
theorem sc_letters_or_none : FnScope ["word", "found"] ["word"] (defScope s_letters_or_none) := ⟨rfl, rfl, rfl, by decide +kernel, rfl, by decide +kernel, by decide +kernel⟩
abbrev LettersOk (l : List Str) : Prop := 0 < l.length ∧ l.length ≤ 10 ∧ allNm l = true ∧ ascB l = true
abbrev SpLettersOrNone (K : PySem.W.Frag) : Sp := spQ K LettersOk (fun l => [.str (Txt.join (SX.S [44]) l)]) (fun l => eL l)
theorem LettersOk.short {l : List Str} (h : LettersOk l) : (∀ x ∈ l, x.length ≤ 10) ∧ Short l := by
  have h1 : ∀ x ∈ l, x.length ≤ 8 := fun x hx => (isNm_len (List.all_eq_true.mp h.2.2.1 x hx)).2
  exact ⟨fun x hx => Nat.le_trans (h1 x hx) (by decide), Nat.le_trans h.2.1 (by decide), fun x hx => Nat.le_trans (h1 x hx) (by decide)⟩
theorem LettersOk.split {l : List Str} (h : LettersOk l) : Txt.split (Txt.join (SX.S [44]) l) (SX.S [44]) = l := sp_join (by decide) (fun z => by rw [z] at h; exact absurd h.1 (by decide)) fun x hx hc => by
  have := isNm_chars (List.all_eq_true.mp h.2.2.1 x hx) 44 hc
  omega
theorem df_letters_or_none (T : Top mg) (F : Fn K mg "letters_or_none" "letters_or_none" s_letters_or_none) (d_is_letters : Df P w K mg base 4 "is_letters" (SpIsLetters K)) : Df P w K mg base 5 "letters_or_none" (SpLettersOrNone K) := by
  refine df_pure F sc_letters_or_none (fun _ _ _ _ _ _ us hl => match us, hl with | [_], _ => rfl) (fun _ => rfl) (fun l f cdv A outer s H σ E hp a hr => ?_)
  refine ⟨_, (pss_cons (ps_set (i := 1) sc_letters_or_none.nd rfl (by first | exact Or.inl rfl | exact Or.inr rfl) (pe_callTy (c_tup' K (by rfl)) (by rfl) T.tuple_ (by decide +kernel) (pa_cons (pe_split (pv 0) pe_str) pa_nil)))
      (pss_one (ps_ret (pe_ifExp (pt_val (pe_d d_is_letters hr (by decide) rfl (pa_cons (pv 1) pa_nil))) (pv 1) pe_non)))), fun Q k => ?_⟩
  try dsimp only [List.map]
  have hs := LettersOk.short hp
  have hj := join_len 44 l
  have hsum := letters_sum hp.2.1 hs.1
  refine' q_asg (d := eL l) a (EvD.is (evd_tupL (evl_split (c := 44) (evd_var a rfl) ?h1)) ?h2) fun σ1 H1 a1 => ?_
  case h1 => omega
  case h2 => rw [LettersOk.split hp]
  refine' f_ret a1 (evd_if (b := true) (EvT.is (evt_test (evd_c1 l hs.2 (eva_cons (evd_var a1 rfl) eva_nil))) ?h3) (fun _ => evd_var a1 rfl) fun h => nomatch h) k
  case h3 =>
    have := hp.1
    rw [hp.2.2.1, hp.2.2.2]
    simp
    omega
abbrev s_pair_or_none : Stmt := top 55
theorem sc_pair_or_none : FnScope ["word", "parts", "found"] ["word"] (defScope s_pair_or_none) := ⟨rfl, rfl, rfl, by decide +kernel, rfl, by decide +kernel, by decide +kernel⟩
abbrev SpPairOrNone (K : PySem.W.Frag) : Sp := spQ K (fun p : Nat × Str => p.1 < 10 ∧ isWd p.2 = true) (fun p => [.str (pairW p)]) (fun p => eP p)
theorem pairW_split {p : Nat × Str} (h1 : p.1 < 10) (h2 : isWd p.2 = true) : Txt.split (pairW p) (SX.S [58]) = [numW p.1, dashW p.2] := sp_join (by decide) (by simp) fun x hx hc => by
  simp only [List.mem_cons, List.not_mem_nil, or_false] at hx
  rcases hx with rfl | rfl
  · rw [numW_tl h1] at hc
    have : 58 = 48 + p.1 := by simpa using hc
    omega
  · rcases dashW_chars h2 58 hc with h | ⟨h, h'⟩ <;> omega
theorem df_pair_or_none (T : Top mg) (F : Fn K mg "pair_or_none" "pair_or_none" s_pair_or_none) (d_number_or_none : Df P w K mg base 1 "number_or_none" (SpNumber K)) (d_said_or_none : Df P w K mg base 2 "said_or_none" (SpSaidOrNone K)) : Df P w K mg base 3 "pair_or_none" (SpPairOrNone K) := by
  refine df_pure F sc_pair_or_none (fun _ _ _ _ _ _ us hl => match us, hl with | [_], _ => rfl) (fun _ => rfl) (fun p f cdv A outer s H σ E hp a hr => ?_)
  refine ⟨_, (pss_cons (ps_set (i := 1) sc_pair_or_none.nd rfl (by first | exact Or.inl rfl | exact Or.inr rfl) (pe_split (pv 0) pe_str))
      (pss_cons (ps_if (pt_cmpR op_ne (pe_callB (c_len' K (by rfl)) (by rfl) T.len_ (by decide +kernel) (pa_cons (pv 1) pa_nil)) pe_int (nomark _)) (pss_one (ps_ret pe_non)) pss_nil)
      (pss_cons (ps_set (i := 2) sc_pair_or_none.nd rfl (by first | exact Or.inl rfl | exact Or.inr rfl) (pe_tup (pa_cons (pe_d d_number_or_none hr (by decide) rfl (pa_cons (pe_ix (ix_list' K (by rfl)) (pv 1) pe_int (fun _ _ => rfl)) pa_nil)) (pa_cons (pe_d d_said_or_none hr (by decide) rfl (pa_cons (pe_ix (ix_list' K (by rfl)) (pv 1) pe_int (fun _ _ => rfl)) pa_nil)) pa_nil))))
      (pss_one (ps_ret (pe_ifExp (pt_cmpR (op_in' K (by rfl)) pe_non (pv 2) (by rfl)) pe_non (pv 2))))))), fun Q k => ?_⟩
  try dsimp only [List.map]
  have hl := isWd_len hp.2
  have hpl := pairW_len hp.1 (p := p) (by omega)
  refine' q_asgL (ds := [.str (numW p.1), .str (dashW p.2)]) a (EvL.is (evl_split (c := 58) (evd_var a rfl) ?h1) ?h2) fun q σ1 H1 a1 => ?_
  case h1 => omega
  case h2 =>
    rw [pairW_split hp.1 hp.2]
    rfl
  refine' q_no a1 (EvT.is (evt_test (evd_op (evd_lenV (evv_var a1 rfl) (a1.hasL (k := 0) rfl)) evd_i ov_neI)) rfl) fun H2 a2 => ?_
  refine' q_asg (d := eP p) a2 (evd_tup (eva_cons (evd_c1 p.1 hp.1 (eva_cons (evd_ixL (n := 0) (evv_var a2 rfl) (a2.hasL (k := 0) rfl) evd_i rfl rfl) eva_nil)) (eva_cons (evd_c1 p.2 hp.2 (eva_cons (evd_ixL (n := 1) (evv_var a2 rfl) (a2.hasL (k := 0) rfl) evd_i rfl rfl) eva_nil)) eva_nil))) fun σ3 H3 a3 => ?_
  exact f_ret a3 (evd_if (b := false) (evt_test (evd_op evd_n (evd_var a3 rfl) ov_inPair)) (fun h => nomatch h) fun _ => evd_var a3 rfl) k
end
end K15

/-! part DA -/
set_option Elab.async false
set_option linter.all false
set_option maxRecDepth 100000
set_option maxHeartbeats 1000000
namespace K15
open PySem PySem.Spec PyProof.Rows L2 RZ
/-! ### steps by a word -/
local macro_rules | `(tactic| walk_at "ov") => `(tactic| first
  | with_reducible exact ov_eqS
  | with_reducible exact ov_eqI
  | with_reducible exact ov_neS
  | with_reducible exact ov_neI
  | with_reducible exact ov_neB
  | with_reducible exact ov_ltS
  | with_reducible exact ov_inS
  | with_reducible exact ov_I0 (fun _ => Dt.int _)
  | with_reducible exact ov_I0 (fun _ => Dt.bl _))
local macro_rules | `(tactic| walk_at "ev") => `(tactic| first
  | with_reducible exact evd_i
  | with_reducible exact evd_s
  | with_reducible exact evd_b
  | with_reducible exact evd_n
  | ((with_reducible refine' evd_var (by assumption) ?hv); (case hv => rfl))
  | with_reducible assumption
  | ((with_reducible refine' evd_op ?ha ?hb ?hr); (case ha => walk_at "ev"); (case hb => walk_at "ev"); (case hr => walk_at "ov"))
  | ((with_reducible refine' evd_and ?ha (fun hc => ?hb)); (case ha => walk_at "ev"); (case hb => walk_at "ev"))
  | ((with_reducible refine' evd_or ?ha (fun hc => ?hb)); (case ha => walk_at "ev"); (case hb => walk_at "ev"))
  | ((with_reducible refine' evd_not ?ha); (case ha => walk_at "ev"))
  | ((with_reducible refine' evd_isi ?ha ?hb); (case ha => walk_at "ev"); (case hb => first | exact kb_ii | exact kb_ib | exact kb_ss | exact kb_tt))
  | ((with_reducible refine' evd_tup ?ha ?hb); (case ha => walk_at "ea"); (case hb => first | decide | (simp only [List.length_cons, List.length_nil]; omega)))
  | ((with_reducible refine' evd_chain ?ha ?hb ?hc ?h1 ?h2); (case ha => walk_at "ev"); (case hb => walk_at "ev"); (case hc => walk_at "ev"); (case h1 => walk_at "ov"); (case h2 => walk_at "ov"))
  | ((with_reducible refine' evd_cb ?ha ?hb); (case ha => walk_at "ea"); (case hb => first | with_reducible exact cv_len | with_reducible exact cv_max2 | with_reducible exact cv_int1 | ((with_reducible refine' cv_lenS ?hz); (case hz => omega))))
  | ((with_reducible refine' evd_c1 _ ?hp ?ha); (case ha => walk_at "ea"); (case hp => first | exact True.intro | assumption | (show _ ≤ _; omega))))
local macro_rules | `(tactic| walk_at "ea") => `(tactic| first
  | with_reducible exact eva_nil
  | ((with_reducible refine' eva_cons ?ha ?hb); (case ha => walk_at "ev"); (case hb => walk_at "ea")))
local macro_rules | `(tactic| walk_at "et") => `(tactic| first
  | with_reducible assumption
  | ((with_reducible refine' evt_test ?ha); (case ha => walk_at "ev"))
  | ((with_reducible refine' evt_B ?ha); (case ha => walk_at "ev"))
  | ((with_reducible refine' evt_and ?ha (fun hc => ?hb)); (case ha => walk_at "et"); (case hb => walk_at "et"))
  | ((with_reducible refine' evt_or ?ha (fun hc => ?hb)); (case ha => walk_at "et"); (case hb => walk_at "et"))
  | ((with_reducible refine' evt_not ?ha); (case ha => walk_at "et")))

local macro_rules | `(tactic| walk_at "wk") => `(tactic| first
  | exact Weak.nil
  | ((refine' Weak.keep ?h); (case h => walk_at "wk"))
  | ((refine' Weak.drop ?h); (case h => walk_at "wk")))

section
variable {K : PySem.W.Frag} {σ : L2.St} {H : Hp} {ta tb te to tl ty : TE} {d dx : PyData} {ds es : List PyData} {B : Base} {Γ : List Sl} {Θ : List (Addr × Ob)} {D : Ends} {tz tbody : TS} {i j : Nat} {p : Addr}
/-- a, b = e, f of two new lists -/
theorem q_parLL {tf tg : TE} (a : At K B Γ Θ σ H) (h1 : EvL K tf σ H ds) (h2 : EvL K tg σ H es) (k : ∀ p q σ' H', At K B ((Γ.set i (.v (.ref p))).set j (.v (.ref q))) ((q, .lst es) :: (p, .lst ds) :: Θ) σ' H' → tz D σ' H') : tSeq (tPar i j (tCons tf (tCons tg tNil))) tz D σ H :=
  h1 H (Same.refl H) _ fun p xs H1 hp e hl hd => h2 H1 e _ fun q ys H2 hq e2 hl2 hd2 => by
    have a1 := a.add (o := .lst ds) e hp ⟨a.sm.free hp, xs, hl, hd⟩
    have a2 := a1.add (o := .lst es) e2 hq ⟨a1.sm.free hq, ys, hl2, hd2⟩
    exact ⟨_, _, rfl, k p q _ H2 a2.setV.setV⟩
/-- first, *others = e -/
theorem q_asgStar (a : At K B Γ Θ σ H) (h : EvL K te σ H (d :: ds)) (k : ∀ p σ' H', At K B ((Γ.set i (.d d)).set j (.v (.ref p))) ((p, .lst ds) :: Θ) σ' H' → tz D σ' H') : tSeq (tAsg te (gStar K (gCons (gName i) (gCons (gName j) gNil)))) tz D σ H :=
  h H (Same.refl H) _ fun p xs H1 hp e hl hd => by
    cases hd with
    | cons h1 h2 =>
      refine ⟨p, _, _, rfl, SqL.of hl, fun r hr => ?_⟩
      have a1 := (a.up e).add (o := .lst ds) (sm_new hr) hr ⟨(a.up e).sm.free hr, _, upd_same, h2.mono (sm_new hr)⟩
      exact ⟨_, _, rfl, ⟨_, _, rfl, rfl, k r _ _ (a1.setD (h1.mono (sm_new hr))).setV⟩⟩
theorem evl_slL1 (ho : EvV to σ H (.ref p)) (h : HasL K H p (d :: ds)) : EvL K (tSl (rSlL K) to (tPart (tC (.int 1))) tNoPart) σ H ds := fun H1 e Q q => ho H1 e _ fun H2 e2 => by
  obtain ⟨xs, hx, hd⟩ := h.mono (e.trans e2)
  cases hd with
  | @cons v vs _ _ h1 h2 =>
    refine ⟨1, rfl, p, v :: vs, rfl, SqL.of hx, fun r hr => ?_⟩
    have ec : cutV (v :: vs) (some 1) none = vs := by
      unfold cutV
      have e1 : HT.sIx (v :: vs).length 0 (some 1) = min 1 (v :: vs).length := HT.sIx_nat _ 0 1
      have e2' : HT.sIx (v :: vs).length (v :: vs).length none = (v :: vs).length := rfl
      rw [e1, e2', Nat.min_eq_left (by simp), List.take_of_length_le (by rw [List.length_drop]; exact Nat.le_refl _)]
      rfl
    rw [ec]
    exact q r _ _ (e2.free hr) (e2.trans (sm_new hr)) upd_same (h2.mono (sm_new hr))
theorem evd_ixEL0 (h : EvL K te σ H (d :: ds)) : EvD K (tOp (rIxL K) te (tC (.int 0))) σ H d := fun H1 e Q q => h H1 e _ fun p xs H2 hp e2 hx hd => by
  cases hd with
  | cons h1 h2 => exact ⟨p, _, 0, _, rfl, rfl, SqL.of hx, atI_nat (j := 0) rfl, q _ H2 e2 h1⟩
theorem evd_ixLast (ho : EvV to σ H (.ref p)) (h : HasL K H p (ds ++ [d])) : EvD K (tOp (rIxL K) to (tUn (rU fun i => .int (-i)) (tC (.int 1)))) σ H d := fun H1 e Q q => ho H1 e _ fun H2 e2 => by
  obtain ⟨xs, hx, hd⟩ := h.mono (e.trans e2)
  have hl := hd.length
  rw [List.length_append, List.length_singleton] at hl
  obtain ⟨w, hw, hwd⟩ := hd.get (i := ds.length) (d := d) (by simp)
  refine ⟨1, rfl, p, xs, -1, w, rfl, rfl, SqL.of hx, ?_, q w H2 e2 hwd⟩
  have ex : xs = xs.take ds.length ++ [w] := by
    have := take_snoc hw
    rw [← this, List.take_of_length_le (by omega)]
  rw [ex]
  exact atI_last _ _
theorem evd_lenR {xs : List V} (ho : EvV to σ H (.ref p)) (h : ∀ H', Same H H' → H' p = some (.lst xs)) : EvD K (tCB (rLenQ K) (tCons to tNil)) σ H (.int xs.length) := fun H1 e1 Q q => ho H1 e1 _ fun H2 e2 => ⟨p, xs, rfl, .inl (SqL.of (h H2 (e1.trans e2))), q _ H2 e2 (.int _)⟩
/-- what a held def says -/
def OkParse (K : PySem.W.Frag) (sp : Sp) (x : Str) (d : PyData) : Prop := ∀ vs H Q, DtAll K H vs [.str x] → (∀ v H', Same H H' → Dt K H' v d → Q v H') → sp vs H Q E0
theorem evd_cv {f f1 f2 : Addr} {sp1 sp2 : Sp} {x : Str} (a : At K B Γ Θ σ H) (hi : Γ[i]? = some (.v (.ref f))) (hx : EvD K te σ H (.str x)) (h : (f = f1 ∧ OkParse K sp1 x d) ∨ (f = f2 ∧ OkParse K sp2 x d)) : EvD K (tCallV2 i f1 f2 sp1 sp2 (tCons te tNil)) σ H d := fun H1 e Q q => by
  have hs := a.env.val hi
  rcases h with ⟨rfl, h⟩ | ⟨rfl, h⟩
  · exact .inl ⟨hs, hx H1 e _ fun v H2 e2 hv => h [v] H2 Q (.cons hv .nil) fun v H3 e3 h3 => q v H3 (e2.trans e3) h3⟩
  · exact .inr ⟨hs, hx H1 e _ fun v H2 e2 hv => h [v] H2 Q (.cons hv .nil) fun v H3 e3 h3 => q v H3 (e2.trans e3) h3⟩
theorem s_retL {k : Nat} (a : At K B Γ Θ σ H) (h : Γ[i]? = some (.v (.ref p))) (hk : Θ[k]? = some (p, .lst ds)) {Q : VK} {nx bk ct : L2.St → Hp → Prop} (q : ∀ H', Same B.H0 H' → B.H0 p = none → HasL K H' p ds → Q (.ref p) H') : tRet (tVar i) ⟨nx, Q, bk, ct⟩ σ H :=
  ⟨.ref p, a.env.val h, q H a.sm (a.own.at_ hk).none (a.hasL hk)⟩
/-- for f, x in zip(a list of one def, a new list) -/
theorem q_forZ {α : Type} {l : List α} {en : α → PyData} {tf tw : TE} {pf f : Addr} {ip jp : Nat} {Γf : Nat → List Sl} {Θf : Nat → List (Addr × Ob)} (a : At K B Γ Θ σ H) (hf : EvV tf σ H (.ref pf)) (hpf : B.H0 pf = some (.lst (List.replicate l.length (.ref f)))) (hw : EvL K tw σ H (l.map en)) (hΓ : Weak Γ (Γf 0)) (hΘ : Θ = Θf 0)
    (hs : ∀ (pz : Addr) (i : Nat) (x : α) σ' H', l[i]? = some x → At K B (((Γf i).set ip (.v (.ref f))).set jp (.d (en x))) ((pz, .lst (l.map en)) :: Θf i) σ' H' → tbody (Tn K B (Γf (i + 1)) ((pz, .lst (l.map en)) :: Θf (i + 1)) { D with nx := tz D }) σ' H')
    (hd : ∀ pz σ' H', At K B (Γf l.length) ((pz, .lst (l.map en)) :: Θf l.length) σ' H' → tz D σ' H') : tSeq (tFor (iZipA K (tCons tf (tCons tw tNil))) (gTup K 2 (gCons (gName ip) (gCons (gName jp) gNil))) tbody) tz D σ H := by
  subst hΘ
  refine hf H (Same.refl _) _ fun H1 e1 => hw H1 e1 _ fun pz ys H2 hpz e2 hy hyd => ?_
  have a2 := ((a.up e1).add (o := .lst (l.map en)) e2 hpz ⟨(a.up e1).sm.free hpz, ys, hy, hyd⟩).weak hΓ
  have hpf2 := a2.sm _ _ hpf
  refine ⟨pf, pz, List.replicate l.length (.ref f), ys, rfl, .inl ⟨SqL.of hpf2, SqL.of hy, ?_⟩⟩
  have W : Walk (Itz K pf pz) l.length (fun H => H pf = some (.lst (List.replicate l.length (.ref f))) ∧ HasL K H pz (l.map en)) (fun i H3 x H4 => Same H3 H4 ∧ ∃ (T : Addr) (w : V), x = .ref T ∧ H4 T = some (.tup [.ref f, w]) ∧ ∃ y, l[i]? = some y ∧ Dt K H4 w (en y)) := by
    refine ⟨fun i H hi ⟨h1, zs, h2, h3⟩ => ?_, fun H ⟨h1, zs, h2, h3⟩ => ?_, fun i H v H' hi ⟨h1, zs, h2, h3⟩ y => ?_⟩
    · have hz := h3.length
      rw [List.length_map] at hz
      exact ⟨_, _, .ref f, zs[i]'(by omega), SqL.of h1, SqL.of h2, by rw [List.getElem?_replicate, if_pos hi], List.getElem?_eq_getElem _⟩
    · exact ⟨_, _, SqL.of h1, SqL.of h2, .inl (by rw [List.length_replicate]; exact Nat.le_refl _)⟩
    · obtain ⟨T, x, z, rfl, hT, rfl, h4, h5⟩ := y
      have ex := h4 _ (SqL.of h1)
      rw [List.getElem?_replicate, if_pos hi] at ex
      cases ex
      obtain ⟨d, hdd, hz⟩ := h3.getV (h5 _ (SqL.of h2))
      rw [List.getElem?_map, List.getElem?_eq_getElem hi] at hdd
      cases hdd
      exact ⟨sm_new hT, T, z, rfl, upd_same, l[i], List.getElem?_eq_getElem hi, hz.mono (sm_new hT)⟩
  refine for_it W (fun i σ' H' => At K B (Γf i) ((pz, .lst (l.map en)) :: Θf i) σ' H') a2 (fun i σ H _ h => ⟨h.sm _ _ hpf, h.hasL (k := 0) rfl⟩) (fun i v σ' H3 H4 hi h y => ?_) fun σ' H' h => hd pz σ' H' h
  obtain ⟨s, T, w, rfl, hT, y, hy, hwd⟩ := y
  have h4 := h.up s
  exact ⟨T, [.ref f, w], rfl, SqT.of hT, rfl, _, _, rfl, _, _, rfl, rfl, hs pz i y _ H4 hy (h4.setV.setD hwd)⟩
end
section
variable {P : Program} {w : World} {K : PySem.W.Frag} {mg : Str → Option Value} {base : Heap}
/-- values_of's promise -/
def SpValues (K : PySem.W.Frag) (f1 f2 : Addr) (sp1 sp2 : Sp) : Sp := fun vs H Q _ => ∃ (f pf : Addr) (line : Int) (head : Str) (l : List (Str × PyData)) (v1 v2 v3 : V), vs = [v1, v2, v3, .ref pf] ∧
  (Dt K H v1 (.str (Txt.join (SX.S [32]) (head :: l.map (·.1)))) ∧ Dt K H v2 (.int line) ∧ Dt K H v3 (.str head)) ∧ H pf = some (.lst (List.replicate l.length (.ref f))) ∧
  ((32 ∉ tl head ∧ ∀ x ∈ l, 32 ∉ tl x.1) ∧ (Txt.join (SX.S [32]) (head :: l.map (·.1))).length ≤ 5000 ∧ l.length ≤ 1000 ∧ ∀ x ∈ l, isNoneD x.2 = false) ∧
  ((f = f1 ∧ ∀ x ∈ l, OkParse K sp1 x.1 x.2) ∨ (f = f2 ∧ ∀ x ∈ l, OkParse K sp2 x.1 x.2)) ∧ ∀ p H', Same H H' → H p = none → HasL K H' p (l.map (·.2)) → Q (.ref p) H'
abbrev s_values_of : Stmt := top 56
theorem sc_values_of : FnScope ["text", "line", "head", "forms", "words", "found", "parse", "word"] ["text", "line", "head", "forms"] (defScope s_values_of) := ⟨rfl, rfl, rfl, by decide +kernel, rfl, by decide +kernel, by decide +kernel⟩
theorem df_values_of {f1 f2 : Addr} {sp1 sp2 : Sp} {k1 k2 : Nat} (T : Top mg) (F : Fn K mg "values_of" "values_of" s_values_of) (cL : HeldR P w K mg base k1 f1 sp1) (cP : HeldR P w K mg base k2 f2 sp2) (hk1 : k1 ≤ 8) (hk2 : k2 ≤ 8) : Df P w K mg base 9 "values_of" (SpValues K f1 f2 sp1 sp2) := by
  refine df_any F sc_values_of (fun _ _ _ _ _ _ us hl => match us, hl with | [_, _, _, _], _ => rfl) (fun vs H Q E ⟨_, _, _, _, _, _, _, _, h, _⟩ => by rw [h]; rfl) (fun f cdv A outer s H vs Q E hr h => ?_)
  refine ⟨_, (pss_cons (ps_par (i := 4) (j := 5) rfl sc_values_of.nd rfl rfl (by decide) rfl rfl (pa_cons (pe_split (pv 0) pe_str) (pa_cons (pe_lst pa_nil) pa_nil)) (by rfl))
      (pss_cons (ps_if (pt_cmpR op_ne (pe_ix (ix_list' K (by rfl)) (pv 4) pe_int (fun _ _ => rfl)) (pv 2) (nomark _)) (pss_one ps_never) pss_nil)
      (pss_cons (ps_for PassesOwn.never rfl (pi_zipA' K (by rfl) (by rfl) T.zip_ (pa_cons (pv 3) (pa_cons (pe_slice (sl_list' K (by rfl)) (pv 4) (po_some pe_int) po_none) pa_nil))) (pg_pair K (by rfl) (i := 6) (j := 7) rfl sc_values_of.nd rfl rfl (by first | exact Or.inl rfl | exact Or.inr rfl) (by first | exact Or.inl rfl | exact Or.inr rfl) (by first | exact Or.inl rfl | exact Or.inr rfl) (by first | exact Or.inl rfl | exact Or.inr rfl)) (pss_cons (ps_expr (pe_bm PySem.F.plainAttrs_list PySem.F.slot_list_append PySem.F.type_list_append mt_append (pv 5) (pa_cons (pe_cv2 cL cP hr hk1 hk2 (i := 6) rfl (.inl rfl) (pa_cons (pv 7) pa_nil)) pa_nil)))
      (pss_one (ps_if (pt_cmpR op_isN (pe_ix (ix_list' K (by rfl)) (pv 5) (pe_un un_neg pe_int) (fun _ _ => rfl)) pe_non (nomark _)) (pss_one ps_never) pss_nil))))
      (pss_cons (ps_if (pt_cmpR op_ne (pe_callB (c_len' K (by rfl)) (by rfl) T.len_ (by decide +kernel) (pa_cons (pv 4) pa_nil)) (pe_op op_add (pe_callB (c_len' K (by rfl)) (by rfl) T.len_ (by decide +kernel) (pa_cons (pv 3) pa_nil)) pe_int) (nomark _)) (pss_one ps_never) pss_nil)
      (pss_one (ps_ret (pv 5))))))), ?_⟩
  obtain ⟨fa, pf, line, head, l, v1, v2, v3, rfl, ⟨h1, h2, h3⟩, hpf, ⟨⟨hs1, hs2⟩, hlen, hll, hnn⟩, hparse, k⟩ := h
  have a : At K (.of H) [.d (.str (Txt.join (SX.S [32]) (head :: l.map (·.1)))), .d (.int line), .d (.str head), .v (.ref pf), .o, .o, .o, .o] [] (L2.start ["text", "line", "head", "forms", "words", "found", "parse", "word"] [v1, v2, v3, .ref pf]) H :=
    ⟨Same.refl _, ⟨h1, h2, h3, rfl, True.intro, True.intro, True.intro, True.intro, True.intro⟩, .nil, True.intro⟩
  refine' q_parLL (ds := .str head :: (l.map fun x => .str x.1)) (es := []) a (EvL.is (evl_split (c := 32) (evd_var a rfl) (Nat.le_trans hlen (by decide))) ?hA) (evl_lst eva_nil) fun pw pq σ1 H1 a1 => ?_
  case hA =>
    rw [sp_join (by decide) (by simp) fun x hx => by
      rcases List.mem_cons.mp hx with rfl | hx
      · exact hs1
      · obtain ⟨y, hy, rfl⟩ := List.mem_map.mp hx
        exact hs2 y hy]
    rw [List.map_cons, List.map_map]
    rfl
  refine' q_no a1 (EvT.is (evt_test (evd_op (evd_ixL (n := 0) (evv_var a1 rfl) (a1.hasL (k := 1) rfl) evd_i rfl rfl) (evd_var a1 rfl) ov_neS)) (by simp)) fun H2 a2 => ?_
  refine' q_forZ (l := l) (en := fun x => .str x.1) (f := fa) (ip := 6) (jp := 7) (Γf := fun _ => [.d (.str (Txt.join (SX.S [32]) (head :: l.map (·.1)))), .d (.int line), .d (.str head), .v (.ref pf), .v (.ref pw), .v (.ref pq), .o, .o])
    (Θf := fun i => [(pq, .lst ((l.take i).map (·.2))), (pw, .lst (.str head :: (l.map fun x => .str x.1)))]) a2 (evv_var a2 rfl) hpf (evl_slL1 (evv_var a2 rfl) (a2.hasL (k := 1) rfl)) ?hB rfl (fun pz i x σ5 H5 hi a5 => ?_) fun pz σ5 H5 a5 => ?_
  case hB => walk_at "wk"
  · have hx := List.mem_of_getElem? hi
    have hp : (fa = f1 ∧ OkParse K sp1 x.1 x.2) ∨ (fa = f2 ∧ OkParse K sp2 x.1 x.2) := hparse.imp (fun h => ⟨h.1, h.2 x hx⟩) fun h => ⟨h.1, h.2 x hx⟩
    refine' q_append (k := 1) a5 (evv_var a5 rfl) rfl (evd_cv a5 rfl (evd_var a5 rfl) hp) ?hC fun H6 a6 => ?_
    case hC =>
      rw [List.length_map, List.length_take]
      omega
    refine' s_no a6 (EvT.is (evt_test (evd_isN (evd_ixLast (d := x.2) (evv_var a6 rfl) (a6.hasL (k := 1) rfl)))) (hnn x hx)) fun H7 a7 => ?_
    show At K _ [_, _, _, _, _, _, _, _] [_, (pq, .lst ((l.take (i + 1)).map (·.2))), _] _ _
    rw [take_snoc hi, List.map_append]
    exact a7.weak (by walk_at "wk")
  · rw [List.take_length] at a5
    have a5 : At K (.of H) [.d (.str (Txt.join (SX.S [32]) (head :: l.map (·.1)))), .d (.int line), .d (.str head), .v (.ref pf), .v (.ref pw), .v (.ref pq), .o, .o] [(pz, .lst (l.map fun x => .str x.1)), (pq, .lst (l.map (·.2))), (pw, .lst (.str head :: (l.map fun x => .str x.1)))] σ5 H5 := a5
    refine' q_no a5 (EvT.is (evt_test (evd_op (evd_lenV (evv_var a5 rfl) (a5.hasL (k := 2) rfl)) (evd_op (evd_lenR (evv_var a5 rfl) fun H' e => e _ _ (a5.sm _ _ hpf)) evd_i (ov_I0 fun _ => Dt.int _)) ov_neI)) ?hD) fun H6 a6 => ?_
    case hD => simp
    exact s_retL (k := 1) a6 rfl rfl fun H' e hp hk => k pq H' e hp hk
end
end K15

/-! part DB -/
set_option Elab.async false
set_option linter.all false
set_option maxRecDepth 100000
set_option maxHeartbeats 1000000
namespace K15
open PySem PySem.Spec PyProof.Rows L2 RZ
/-! ### steps by a word -/
local macro_rules | `(tactic| walk_at "ov") => `(tactic| first
  | with_reducible exact ov_eqS
  | with_reducible exact ov_eqI
  | with_reducible exact ov_neS
  | with_reducible exact ov_neI
  | with_reducible exact ov_neB
  | with_reducible exact ov_ltS
  | with_reducible exact ov_inS
  | with_reducible exact ov_I0 (fun _ => Dt.int _)
  | with_reducible exact ov_I0 (fun _ => Dt.bl _))
local macro_rules | `(tactic| walk_at "ev") => `(tactic| first
  | with_reducible exact evd_i
  | with_reducible exact evd_s
  | with_reducible exact evd_b
  | with_reducible exact evd_n
  | ((with_reducible refine' evd_var (by assumption) ?hv); (case hv => rfl))
  | with_reducible assumption
  | ((with_reducible refine' evd_op ?ha ?hb ?hr); (case ha => walk_at "ev"); (case hb => walk_at "ev"); (case hr => walk_at "ov"))
  | ((with_reducible refine' evd_and ?ha (fun hc => ?hb)); (case ha => walk_at "ev"); (case hb => walk_at "ev"))
  | ((with_reducible refine' evd_or ?ha (fun hc => ?hb)); (case ha => walk_at "ev"); (case hb => walk_at "ev"))
  | ((with_reducible refine' evd_not ?ha); (case ha => walk_at "ev"))
  | ((with_reducible refine' evd_isi ?ha ?hb); (case ha => walk_at "ev"); (case hb => first | exact kb_ii | exact kb_ib | exact kb_ss | exact kb_tt))
  | ((with_reducible refine' evd_tup ?ha ?hb); (case ha => walk_at "ea"); (case hb => first | decide | (simp only [List.length_cons, List.length_nil]; omega)))
  | ((with_reducible refine' evd_chain ?ha ?hb ?hc ?h1 ?h2); (case ha => walk_at "ev"); (case hb => walk_at "ev"); (case hc => walk_at "ev"); (case h1 => walk_at "ov"); (case h2 => walk_at "ov"))
  | ((with_reducible refine' evd_cb ?ha ?hb); (case ha => walk_at "ea"); (case hb => first | with_reducible exact cv_len | with_reducible exact cv_max2 | with_reducible exact cv_int1 | ((with_reducible refine' cv_lenS ?hz); (case hz => omega))))
  | ((with_reducible refine' evd_c1 _ ?hp ?ha); (case ha => walk_at "ea"); (case hp => first | exact True.intro | assumption | (show _ ≤ _; omega))))
local macro_rules | `(tactic| walk_at "ea") => `(tactic| first
  | with_reducible exact eva_nil
  | ((with_reducible refine' eva_cons ?ha ?hb); (case ha => walk_at "ev"); (case hb => walk_at "ea")))
local macro_rules | `(tactic| walk_at "et") => `(tactic| first
  | with_reducible assumption
  | ((with_reducible refine' evt_test ?ha); (case ha => walk_at "ev"))
  | ((with_reducible refine' evt_B ?ha); (case ha => walk_at "ev"))
  | ((with_reducible refine' evt_and ?ha (fun hc => ?hb)); (case ha => walk_at "et"); (case hb => walk_at "et"))
  | ((with_reducible refine' evt_or ?ha (fun hc => ?hb)); (case ha => walk_at "et"); (case hb => walk_at "et"))
  | ((with_reducible refine' evt_not ?ha); (case ha => walk_at "et")))

local macro_rules | `(tactic| walk_at "wk") => `(tactic| first
  | exact Weak.nil
  | ((refine' Weak.keep ?h); (case h => walk_at "wk"))
  | ((refine' Weak.drop ?h); (case h => walk_at "wk")))

/-! ### data that == may be asked of -/
structure Sh (n : Nat) (d : PyData) : Prop where
  lay : d.canLay0 = true
  dep : d.depth ≤ n
theorem Sh.shaped {n : Nat} {d : PyData} (h : Sh n d) (hn : n ≤ 64) : SeqAt.shaped d = true := by
  unfold SeqAt.shaped
  rw [h.lay, decide_eq_true (Nat.le_trans h.dep hn)]
  rfl
theorem sh_int (i : Int) : Sh 0 (.int i) := ⟨rfl, Nat.le_refl _⟩
theorem sh_bool (i : Bool) : Sh 0 (.bool i) := ⟨rfl, Nat.le_refl _⟩
theorem sh_str {x : Str} (h : ∀ c ∈ tl x, c ≤ 122) : Sh 0 (.str x) := ⟨by
  show x.cps.all (· < 0x110000) = true
  rw [← Array.all_toList, List.all_eq_true]
  intro c hc
  have := h c hc
  exact decide_eq_true (by omega), Nat.le_refl _⟩
theorem Sh.mono {n m : Nat} {d : PyData} (h : Sh n d) (hn : n ≤ m) : Sh m d := ⟨h.lay, Nat.le_trans h.dep hn⟩
theorem sh_all {n : Nat} : ∀ {ds : List PyData}, (∀ d ∈ ds, Sh n d) → PyData.canLayAll0 ds = true ∧ PyData.depthAll ds ≤ n
  | [], _ => ⟨rfl, Nat.zero_le _⟩
  | d :: ds, h => by
    have h1 := h d (List.mem_cons_self ..)
    obtain ⟨h2, h3⟩ := sh_all fun x hx => h x (List.mem_cons_of_mem _ hx)
    refine ⟨?_, Nat.max_le.mpr ⟨h1.dep, h3⟩⟩
    show (d.canLay0 && PyData.canLayAll0 ds) = true
    rw [h1.lay, h2]
    rfl
theorem sh_tup {n : Nat} {ds : List PyData} (h : ∀ d ∈ ds, Sh n d) : Sh (n + 1) (.tuple ds) := ⟨(sh_all h).1, Nat.succ_le_succ (sh_all h).2⟩
theorem sh_lst {n : Nat} {ds : List PyData} (h : ∀ d ∈ ds, Sh n d) : Sh (n + 1) (.list ds) := ⟨(sh_all h).1, Nat.succ_le_succ (sh_all h).2⟩
theorem sh_eL {l : List Str} (h : ∀ x ∈ l, isWd x = true) : Sh 1 (eL l) := sh_tup fun d hd => by
  obtain ⟨x, hx, rfl⟩ := List.mem_map.mp hd
  exact sh_str fun c hc => (isWd_chars (h x hx) c hc).2
theorem isWd_of {x : Str} (h : isNm x = true) : isWd x = true := by
  unfold isWd
  rw [h]
  rfl
theorem sh_eP {p : Nat × Str} (h : isWd p.2 = true) : Sh 1 (eP p) := sh_tup fun d hd => by
  simp only [List.mem_cons, List.not_mem_nil, or_false] at hd
  rcases hd with rfl | rfl
  · exact sh_int _
  · exact sh_str fun c hc => (isWd_chars h c hc).2
theorem sh_eM {M : Mc} (hl : ∀ x ∈ M.L, isWd x = true) (hr : ∀ r ∈ M.R, ∀ p ∈ r, isWd p.2 = true) : Sh 4 (eM M) := sh_tup fun d hd => by
  simp only [List.mem_cons, List.not_mem_nil, or_false] at hd
  rcases hd with rfl | rfl
  · exact (sh_eL hl).mono (by decide)
  · refine sh_tup fun d hd => ?_
    obtain ⟨r, hr', rfl⟩ := List.mem_map.mp hd
    refine sh_tup fun d hd => ?_
    obtain ⟨p, hp, rfl⟩ := List.mem_map.mp hd
    exact sh_eP (hr r hr' p hp)
theorem Wf.sh {M : Mc} (hw : Wf M) : Sh 4 (eM M) := sh_eM (fun x hx => isWd_of (List.all_eq_true.mp hw.nm x hx)) hw.wd
section
variable {K : PySem.W.Frag} {σ : L2.St} {H : Hp} {ta tb te to tl ty t1 t2 t3 t4 : TE} {d dx : PyData} {ds es : List PyData} {B : Base} {Γ : List Sl} {Θ : List (Addr × Ob)} {D : Ends} {tz tbody : TS} {i j : Nat} {p : Addr}
/-- a list of values -/
def EvR (te : TE) (σ : L2.St) (H : Hp) (xs : List V) : Prop := ∀ H1, Same H H1 → ∀ Q : VK, (∀ p H2, Same H1 H2 → H2 p = some (.lst xs) → Q (.ref p) H2) → te σ H1 Q
theorem evr_one {f : Addr} : EvR (tLst (tCons (tC (.ref f)) tNil)) σ H [.ref f] := fun H1 e Q q => ⟨by show 1 ≤ sizeLine; decide, fun p hp => q p _ (sm_new hp) upd_same⟩
theorem evr_var {xs : List V} {k : Nat} (a : At K B Γ Θ σ H) (h : Γ[i]? = some (.v (.ref p))) (hk : Θ[k]? = some (p, .raw xs)) : EvR (tVar i) σ H xs := fun H1 e Q q => evv_var a h H1 e _ fun H2 e2 => q p H2 e2 (e2 _ _ (e _ _ (a.own.at_ hk).2))
theorem evl_values {f1 f2 f : Addr} {sp1 sp2 : Sp} {line : Int} {head : Str} {l : List (Str × PyData)} (h1 : EvD K t1 σ H (.str (Txt.join (SX.S [32]) (head :: l.map (·.1))))) (h2 : EvD K t2 σ H (.int line)) (h3 : EvD K t3 σ H (.str head)) (h4 : EvR t4 σ H (List.replicate l.length (.ref f)))
    (hs : (32 ∉ K15.tl head ∧ ∀ x ∈ l, 32 ∉ K15.tl x.1) ∧ (Txt.join (SX.S [32]) (head :: l.map (·.1))).length ≤ 5000 ∧ l.length ≤ 1000 ∧ ∀ x ∈ l, isNoneD x.2 = false) (hp : (f = f1 ∧ ∀ x ∈ l, OkParse K sp1 x.1 x.2) ∨ (f = f2 ∧ ∀ x ∈ l, OkParse K sp2 x.1 x.2)) :
    EvL K (tCallR (SpValues K f1 f2 sp1 sp2) (tCons t1 (tCons t2 (tCons t3 (tCons t4 tNil))))) σ H (l.map (·.2)) := fun H1 e1 Q q =>
  h1 H1 e1 _ fun v1 H2 e2 k1 => h2 H2 (e1.trans e2) _ fun v2 H3 e3 k2 => h3 H3 ((e1.trans e2).trans e3) _ fun v3 H4 e4 k3 => h4 H4 (((e1.trans e2).trans e3).trans e4) _ fun pf H5 e5 hpf =>
    ⟨f, pf, line, head, l, v1, v2, v3, rfl, ⟨((k1.mono e3).mono e4).mono e5, (k2.mono e4).mono e5, k3.mono e5⟩, hpf, hs, hp, fun p H6 e6 hp ⟨xs, hx, hd⟩ =>
      q p xs H6 (e2.free (e3.free (e4.free (e5.free hp)))) ((((e2.trans e3).trans e4).trans e5).trans e6) hx hd⟩
/-- x == [], x a list that is not empty -/
theorem evd_eqNil (ho : EvV to σ H (.ref p)) (h : HasL K H p (d :: ds)) (hsh : Sh 3 (.list (d :: ds))) : EvD K (tOp (rEqD K) to (tLst tNil)) σ H (.bool false) := fun H1 e Q q => ho H1 e _ fun H2 e2 => by
  refine ⟨by show 0 ≤ sizeLine; decide, fun r hr => ?_⟩
  obtain ⟨xs, hx, hd⟩ := (h.mono (e.trans e2)).mono (sm_new (o := .lst []) hr)
  refine ⟨.list (d :: ds), .list [], .lst (SqL.of hx) (DtAll.dp _ _ hd), .lst (SqL.of upd_same) .nil, hsh.shaped (by decide), rfl, ?_⟩
  exact q _ _ (e2.trans (sm_new hr)) (.bl false)
/-- [f] * n -/
theorem q_rep {f : Addr} {n : Nat} (a : At K B Γ Θ σ H) (hn : EvD K ty σ H (.int (n : Int))) (hl : n ≤ 1000) (k : ∀ p σ' H', At K B (Γ.set i (.v (.ref p))) ((p, .raw (List.replicate n (.ref f))) :: Θ) σ' H' → tz D σ' H') :
    tSeq (tAsg (tOp rRep (tLst (tCons (tC (.ref f)) tNil)) ty) (gName i)) tz D σ H := by
  refine ⟨by show 1 ≤ sizeLine; decide, fun r hr => hn _ (sm_new hr) _ fun v H2 e2 hv => ?_⟩
  cases hv
  have e3 := (sm_new (o := .lst [.ref f]) hr).trans e2
  have e0 : (List.replicate (n : Int).toNat [V.ref f]).flatten = List.replicate n (.ref f) := by
    rw [Int.toNat_natCast]
    clear hn hl k
    induction n with
    | zero => rfl
    | succ n ih =>
      rw [List.replicate_succ, List.flatten_cons, ih, List.replicate_succ]
      rfl
  refine ⟨r, (n : Int), [.ref f], rfl, rfl, e2 _ _ upd_same, by omega, by omega, ?_, fun p hp => ?_⟩
  · rw [Int.toNat_natCast]
    show 1 * n ≤ sizeLine
    have := sz_of (n := 1000) (by decide)
    omega
  · rw [e0]
    exact k p _ _ ((a.up e3).add (o := .raw (List.replicate n (.ref f))) (sm_new hp) hp ⟨(a.up e3).sm.free hp, upd_same⟩).setV
end
section
variable {P : Program} {w : World} {K : PySem.W.Frag} {mg : Str → Option Value} {base : Heap}
theorem okp_letters {l : List Str} (h : LettersOk l) : OkParse K (SpLettersOrNone K) (Txt.join (SX.S [44]) l) (eL l) := fun vs H Q hv q => ⟨l, h, hv, q⟩
theorem okp_pair {p : Nat × Str} (h1 : p.1 < 10) (h2 : isWd p.2 = true) : OkParse K (SpPairOrNone K) (pairW p) (eP p) := fun vs H Q hv q => ⟨p, ⟨h1, h2⟩, hv, q⟩
theorem Wf.lok {M : Mc} (hw : Wf M) : LettersOk M.L := ⟨hw.l0, hw.l1, hw.nm, hw.asc⟩
abbrev s_machine_read : Stmt := top 57
theorem sc_machine_read : FnScope ["text", "first", "others", "letters", "forms", "rows", "k", "own"] ["text"] (defScope s_machine_read) := ⟨rfl, rfl, rfl, by decide +kernel, rfl, by decide +kernel, by decide +kernel⟩
abbrev SpMachineRead (K : PySem.W.Frag) : Sp := spQ K Wf (fun M => [.str (textW M)]) (fun M => eM M)
theorem df_machine_read {f1 f2 : Addr} (T : Top mg) (F : Fn K mg "machine_read" "machine_read" s_machine_read) (g_letters_or_none : mg "letters_or_none" = some (.ref f1)) (g_pair_or_none : mg "pair_or_none" = some (.ref f2)) (d_values_of : Df P w K mg base 9 "values_of" (SpValues K f1 f2 (SpLettersOrNone K) (SpPairOrNone K))) : Df P w K mg base 10 "machine_read" (SpMachineRead K) := by
  refine df_pure F sc_machine_read (fun _ _ _ _ _ _ us hl => match us, hl with | [_], _ => rfl) (fun _ => rfl) (fun M f cdv A outer s H σ E hw a hr => ?_)
  have hu := hr.units
  refine ⟨_, (pss_cons (ps_asg (pe_split (pv 0) pe_str) (pg_star K (by rfl) rfl (pgs_cons (pg_name (i := 1) sc_machine_read.nd rfl (by first | exact Or.inl rfl | exact Or.inr rfl)) (pgs_cons (pg_name (i := 2) sc_machine_read.nd rfl (by first | exact Or.inl rfl | exact Or.inr rfl)) pgs_nil))))
      (pss_cons (ps_set (i := 3) sc_machine_read.nd rfl (by first | exact Or.inl rfl | exact Or.inr rfl) (pe_ix (ix_list' K (by rfl)) (pe_d d_values_of hr (by decide) rfl (pa_cons (pv 1) (pa_cons pe_int (pa_cons pe_str (pa_cons (pe_lst (pa_cons (pe_glob (v := .ref _) rfl g_letters_or_none rfl) pa_nil)) pa_nil))))) pe_int (fun _ _ => rfl)))
      (pss_cons (ps_if (pt_cmpR (op_eqD' K (by rfl) hu) (pv 2) (pe_lst pa_nil) (nomark _)) (pss_one ps_never) pss_nil)
      (pss_cons (ps_set (i := 4) sc_machine_read.nd rfl (by first | exact Or.inl rfl | exact Or.inr rfl) (pe_op op_rep (pe_lst (pa_cons (pe_glob (v := .ref _) rfl g_pair_or_none rfl) pa_nil)) (pe_callB (c_len' K (by rfl)) (by rfl) T.len_ (by decide +kernel) (pa_cons (pv 3) pa_nil))))
      (pss_cons (ps_setLc (i := 5) (own := [("k", 6), ("own", 7)]) rfl sc_machine_read.nd rfl rfl (sw_true rfl rfl rfl (by decide +kernel)) (pi_enum' K (by rfl) (by rfl) T.enumerate_ (pa_cons (pv 2) pa_nil)) (blkOk_by (N := ["text", "first", "others", "letters", "forms", "rows", "k", "own"]) (sc := defScope s_machine_read) (by decide +kernel)) (fun _ _ _ _ _ => by exact (pg_pair K (by rfl) (i := 6) (j := 7) rfl sc_machine_read.nd rfl rfl (by first | exact Or.inl rfl | exact Or.inr rfl) (by first | exact Or.inl rfl | exact Or.inr rfl) (by first | exact Or.inl rfl | exact Or.inr rfl) (by first | exact Or.inl rfl | exact Or.inr rfl))) (fun _ _ _ _ _ => pts_nil) (fun _ _ _ _ _ => by exact (pe_callTy (c_tup' K (by rfl)) (by rfl) T.tuple_ (by decide +kernel) (pa_cons (pe_d d_values_of hr (by decide) rfl (pa_cons (pv 7) (pa_cons (pe_op op_add (pv 6) pe_int) (pa_cons pe_str (pa_cons (pv 4) pa_nil))))) pa_nil))))
      (pss_one (ps_ret (pe_tup (pa_cons (pv 3) (pa_cons (pe_callTy (c_tup' K (by rfl)) (by rfl) T.tuple_ (by decide +kernel) (pa_cons (pv 5) pa_nil)) pa_nil)))))))))), fun Q k => ?_⟩
  try dsimp only [List.map]
  have hr1 := hw.r1
  have hl1 := hw.l1
  have h0 : M.R.map lineW ≠ [] := fun z => by
    have := hw.r0
    rw [List.map_eq_nil_iff] at z
    rw [z] at this
    exact absurd this (by decide)
  refine' q_asgStar (d := .str (headW M.L)) (ds := (M.R.map lineW).map .str) a (EvL.is (evl_split (c := 10) (evd_var a rfl) ?h1) ?h2) fun po σ1 H1 a1 => ?_
  case h1 => exact Nat.le_trans hw.text_len (by decide)
  case h2 =>
    rw [hw.text_split]
    rfl
  refine' q_asg (d := eL M.L) a1 (evd_ixEL0 (ds := []) (evl_values (f := f1) (line := 0) (head := "letters") (l := [(Txt.join (SX.S [44]) M.L, eL M.L)]) (evd_var a1 rfl) evd_i evd_s evr_one ⟨⟨?h3, ?h4⟩, ?h5, (show 1 ≤ 1000 by decide), ?h6⟩ (.inl ⟨rfl, ?h7⟩))) fun σ2 H2 a2 => ?_
  case h3 =>
    rw [lettersw_tl]
    decide
  case h4 =>
    intro x hx hc
    have : x = (Txt.join (SX.S [44]) M.L, eL M.L) := List.mem_singleton.mp hx
    rw [this] at hc
    rcases mem_join hc with h | ⟨y, hy, h⟩
    · omega
    · have := isNm_chars (List.all_eq_true.mp hw.nm y hy) 32 h
      omega
  case h5 => exact Nat.le_trans (headW_len hw.l1 hw.l2) (by decide)
  case h6 =>
    intro x hx
    have : x = (Txt.join (SX.S [44]) M.L, eL M.L) := List.mem_singleton.mp hx
    rw [this]
    rfl
  case h7 =>
    intro x hx
    have : x = (Txt.join (SX.S [44]) M.L, eL M.L) := List.mem_singleton.mp hx
    rw [this]
    exact okp_letters hw.lok
  refine' q_no a2 ?hN fun H3 a3 => ?_
  case hN =>
    match hR : M.R.map lineW, h0 with
    | x :: xs, _ =>
      rw [hR] at a2
      refine evt_test (evd_eqNil (d := .str x) (ds := xs.map .str) (evv_var a2 rfl) (a2.hasL (k := 0) rfl) (Sh.mono (sh_lst (n := 0) fun d hd => ?_) (by decide)))
      have : d ∈ (x :: xs).map PyData.str := hd
      rw [← hR] at this
      obtain ⟨y, hy, rfl⟩ := List.mem_map.mp this
      obtain ⟨r, hr', rfl⟩ := List.mem_map.mp hy
      exact sh_str fun c hc => (lineW_chars (fun p hp => ⟨(hw.pr hr' hp).1, (hw.pr hr' hp).2.2⟩) c hc).2
  refine' q_rep (f := f2) (n := M.L.length) a3 (EvD.is (evd_cb (eva_cons (evd_var a3 rfl) eva_nil) cv_len) ?h8) (by omega) fun pf σ4 H4 a4 => ?_
  case h8 => rw [List.length_map]
  refine' q_asgL (ds := M.R.map eR) a4 (EvL.is (evl_lcp (l := (List.range M.R.length).zip M.R) (f1 := fun p => .int (p.1 : Int)) (f2 := fun p => .str (lineW p.2)) (fun p => eR p.2) a4 ?h9 ?hA ?hB ?hC fun p σ' H' hm a5 => evd_tupL (EvL.is (evl_values (f := f2) (line := (p.1 : Int) + 1) (head := "state") (l := p.2.map fun q => (pairW q, eP q)) (EvD.is (evd_var a5 rfl) ?hF) (evd_op (evd_var a5 rfl) evd_i (ov_I0 fun _ => Dt.int _)) evd_s ?hG ⟨⟨?hH, ?hI⟩, ?hJ, ?hK, ?hL⟩ (.inr ⟨rfl, ?hM⟩)) ?hO)) ?hP) fun pr σ5 H5 a5 => ?_
  case h9 =>
    have e0 := enumD_map (fun r : Rw => PyData.str (lineW r)) M.R
    have e1 : (M.R.map lineW).map PyData.str = M.R.map fun r => PyData.str (lineW r) := by rw [List.map_map]; rfl
    rw [← e0, ← e1]
    exact src_enumL (evv_var a4 rfl) (a4.hasL (k := 1) rfl)
  case hA =>
    rw [List.length_zip, List.length_range, Nat.min_self]
    omega
  case hB => decide
  case hC => decide
  case hF =>
    rw [List.map_map]
    rfl
  case hG =>
    have hp : p.2 ∈ M.R := (List.of_mem_zip hm).2
    have := evr_var (i := 4) a5 (k := 0) rfl rfl
    rw [List.length_map, hw.rl p.2 hp]
    exact this
  case hH =>
    rw [state_tl]
    decide
  case hI =>
    intro x hx hc
    have hp : p.2 ∈ M.R := (List.of_mem_zip hm).2
    obtain ⟨q, hq, rfl⟩ := List.mem_map.mp hx
    have := pairW_chars (hw.pr hp hq).1 (hw.pr hp hq).2.2 32 hc
    omega
  case hJ =>
    have hp : p.2 ∈ M.R := (List.of_mem_zip hm).2
    have e : (("state" : Str) :: (p.2.map fun q => (pairW q, eP q)).map (·.1)) = ("state" : Str) :: p.2.map pairW := by rw [List.map_map]; rfl
    rw [e]
    exact Nat.le_trans (lineW_len (by rw [hw.rl _ hp]; exact hl1) fun q hq => ⟨(hw.pr hp hq).1, (hw.pr hp hq).2.1⟩) (by decide)
  case hK =>
    have hp : p.2 ∈ M.R := (List.of_mem_zip hm).2
    rw [List.length_map, hw.rl _ hp]
    omega
  case hL =>
    intro x hx
    obtain ⟨q, hq, rfl⟩ := List.mem_map.mp hx
    rfl
  case hM =>
    intro x hx
    have hp : p.2 ∈ M.R := (List.of_mem_zip hm).2
    obtain ⟨q, hq, rfl⟩ := List.mem_map.mp hx
    exact okp_pair (hw.pr hp hq).1 (hw.pr hp hq).2.2
  case hO =>
    rw [List.map_map]
    rfl
  case hP =>
    have : (((List.range M.R.length).zip M.R).map (·.2)) = M.R := List.map_snd_zip (by simp)
    conv => rhs; rw [← this]
    rw [List.map_map]
    rfl
  exact f_ret a5 (evd_tup (eva_cons (evd_var a5 rfl) (eva_cons (evd_tupV (evv_var a5 rfl) (a5.hasL (k := 0) rfl)) eva_nil))) k
end
end K15

/-! part E5 -/
set_option Elab.async false
set_option linter.all false
set_option maxRecDepth 100000
set_option maxHeartbeats 1000000
/-! an __init__ that says super().__init__(..): its own cells and the class's cell -/
namespace K15z
open PySem PyProof.Rows
theorem cells_acc : ∀ (names : List (Str × NameKind)) (n : Nat) (acc : List (Str × Addr)), cellsFrom n names acc = cellsFrom n names [] ++ acc
  | [], _, _ => rfl
  | (x, k) :: r, n, acc => by
    unfold cellsFrom
    split
    · rw [cells_acc r (n + 1) ((x, n) :: acc), cells_acc r (n + 1) [(x, n)], List.append_assoc]
      rfl
    · exact cells_acc r n acc
theorem lookup_app {α : Type} : ∀ {l m : List (Str × α)} {n : Str} {c : α}, l.lookup n = some c → (l ++ m).lookup n = some c
  | (k, v) :: r, m, n, c, h => by
    rw [List.cons_append, List.lookup_cons]
    rw [List.lookup_cons] at h
    cases hb : n == k with
    | true => rw [hb] at h; exact h
    | false => rw [hb] at h; exact lookup_app h
theorem lookup_app2 {α : Type} : ∀ {l m : List (Str × α)} {n : Str} {c : α}, (l ++ m).lookup n = some c → l.lookup n = some c ∨ (l.lookup n = none ∧ m.lookup n = some c)
  | [], m, n, c, h => .inr ⟨rfl, h⟩
  | (k, v) :: r, m, n, c, h => by
    rw [List.cons_append, List.lookup_cons] at h
    rw [List.lookup_cons]
    cases hb : n == k with
    | true => rw [hb] at h; exact .inl h
    | false => rw [hb] at h; exact lookup_app2 h
section
variable {M : Model} {A : Around} {E : Value → Shared → Prop} {s₀ s : Shared} {m cm : Str → Option Value} {env : Env}
theorem store_local {env0 : Env} {n : Str} {v : Value} (hs : env0.scope = env.scope) (hL : env0.locals = env.locals) (hg : env0.globals = env.globals) (hk : env.scope.kind = .function) (hl : env.scope.names.lookup n = some .local) : storeName env n v = storeName env0 n v := by
  have h1 : env.kindOf n = some .local := hl
  have h0 : env0.kindOf n = some .local := by show env0.scope.names.lookup n = _; rw [hs]; exact hl
  unfold storeName
  simp [h1, h0, hs, hL, hg, hk]
theorem store_cell {env0 : Env} {n : Str} {v : Value} {c : Addr} (hs : env0.scope = env.scope) (hl : env.scope.names.lookup n = some .cell) (h0 : env0.cells.lookup n = some c) (h1 : env.cells.lookup n = some c) (hk : env.scope.kind = .function) : storeName env n v = storeName env0 n v := by
  have k1 : env.kindOf n = some .cell := hl
  have k0 : env0.kindOf n = some .cell := by show env0.scope.names.lookup n = _; rw [hs]; exact hl
  unfold storeName
  simp [k1, k0, hs, hk, cellOf, h0, h1]
theorem bindParamsCl {cs cl : List (Str × Addr)} (hcl : env.cells = cs ++ cl) (f : Str × Value → PUnit → Sem (ForInStep PUnit)) (hf : ∀ n v u, f (n, v) u = (do storeName env n v; pure (.yield ⟨⟩))) (hk : env.scope.kind = .function)
    (binds : List (Str × Value)) (hx : InCallC s₀ env.locals m cs cm s)
    (hkind : ∀ x ∈ binds, env.kindOf x.1 = some .local ∨ (env.kindOf x.1 = some .cell ∧ (cs.lookup x.1).isSome = true)) {Q : PUnit → Shared → Prop}
    (h : ∀ s', InCallC s₀ env.locals (bindL env.kindOf binds m) cs (bindC env.kindOf binds cm) s' → Q ⟨⟩ s') : wpAny M A (forIn binds ⟨⟩ f) Q E s := by
  have e : ∀ x ∈ binds, f x ⟨⟩ = (do storeName { env with cells := cs } x.1 x.2; pure (.yield ⟨⟩)) := fun x hx => by
    obtain ⟨n, v⟩ := x
    rw [hf]
    rcases hkind _ hx with hl | ⟨hl, hc⟩
    · rw [store_local (env := env) (env0 := { env with cells := cs }) rfl rfl rfl hk hl]
    · obtain ⟨c, hc⟩ := Option.isSome_iff_exists.mp hc
      rw [store_cell (env := env) (env0 := { env with cells := cs }) (c := c) rfl hl hc (by rw [hcl]; exact lookup_app hc) hk]
  have e2 : forIn binds (⟨⟩ : PUnit) f = forIn binds (⟨⟩ : PUnit) (fun x _ => (do storeName { env with cells := cs } x.1 x.2; pure (.yield ⟨⟩) : Sem (ForInStep PUnit))) := by
    clear hkind h hf
    induction binds with
    | nil => simp only [List.forIn_nil]
    | cons x r ih =>
      rw [List.forIn_cons, List.forIn_cons, e x (List.mem_cons_self ..)]
      refine bind_congr fun r' => ?_
      cases r' with
      | done b => rfl
      | yield b => exact ih fun y hy => e y (List.mem_cons_of_mem _ hy)
  rw [e2]
  exact wpAny_bindParams (env := { env with cells := cs }) _ (fun _ _ _ => rfl) hk binds m cm s Q hx hkind h
theorem newEnvCl {scope : Scope} {globals : Addr} {cl : List (Str × Addr)} {binds : List (Str × Value)} {qual : Str} {func : Option Addr} {code : Value} {builtins : Addr} {Q : Env → Shared → Prop}
    (hk : scope.kind = .function)
    (hkind : ∀ x ∈ binds, scope.names.lookup x.1 = some .local ∨ (scope.names.lookup x.1 = some .cell ∧ ((cellsFrom (s.heap.objs.size + 1) scope.names []).lookup x.1).isSome = true))
    (hQ : ∀ env, env = newEnv scope s.heap.objs.size globals (cellsFrom (s.heap.objs.size + 1) scope.names [] ++ cl) qual func code none builtins →
      ∀ s', InCallC s env.locals (bindL env.kindOf binds fun _ => none) (cellsFrom (s.heap.objs.size + 1) scope.names []) (bindC env.kindOf binds fun _ => none) s' → Q env s') :
    wpAny M A (newFunctionEnv scope globals cl binds qual func code none builtins) Q E s := by
  simp only [newFunctionEnv, Option.isSome_none, Bool.false_eq_true, if_false]
  refine wpAny_bind (wpAny_alloc ?_)
  refine wpAny_bind (wpAny_layCells _ (fun name kind cells => by cases hkc : kind == NameKind.cell <;> simp [hkc]) _ _ _ _ ?_)
  have ok := cellsFrom_ok scope.names (s.heap.push { cls := .type "frame", data := .dict #[] }) (s.heap.objs.size + 1) [] ⟨fun _ _ hm => (nomatch hm), List.Pairwise.nil⟩ (by rw [Heap.size_push]; exact Nat.le_refl _)
  rw [Heap.size_push] at ok
  rw [show ({ s with heap := s.heap.push { cls := .type "frame", data := .dict #[] } } : Shared).heap.objs.size = s.heap.objs.size + 1 from Heap.size_push ..]
  rw [cells_acc scope.names (s.heap.objs.size + 1) cl]
  refine wpAny_bind (bindParamsCl (s₀ := s) (env := newEnv scope s.heap.objs.size globals (cellsFrom (s.heap.objs.size + 1) scope.names [] ++ cl) qual func code none builtins) rfl
    _ (fun _ _ _ => rfl) hk binds (m := fun _ => none) (cm := fun _ => none)
    ⟨⟨⟨_, _, rfl⟩, (Heap.Ns.new s.heap (.type "frame")).keeps (pushCells_keeps _ _), fun b o e => pushCells_keeps _ _ b o (Heap.get?_push_of_some _ e), Nat.le_refl _⟩,
      fun n c hc => (ok.empty n c (mem_of_lookup hc)).1, ok.apart, fun n c hm => (ok.empty n c hm).2⟩
    hkind fun s' x => wpAny_pure (hQ _ rfl s' x))
end
end K15z
namespace K15
open PySem PySem.Spec PyProof.Rows L2 RZ
/-- the names of such an __init__ -/
structure ClScope (N P : List Str) (sc : Scope) : Prop where
  kind : sc.kind = .function
  co : sc.isCoroutine = false
  gen : sc.isGenerator = false
  nd : N.Nodup
  pre : N.take P.length = P
  par : ∀ x ∈ P, sc.names.lookup x = some .local ∨ sc.names.lookup x = some .cell
  free : ∀ y ∈ sc.names, y.2 = .free → y.1 = ("__class__" : Str)
  own : (cellsFrom 0 sc.names []).lookup ("__class__" : Str) = none
abbrev envCl (qual : Str) (scope : Scope) (L f : Addr) (cd : Value) (cc : Addr) : Env := PySem.W.envX qual scope L f cd (cellsFrom (L + 1) scope.names [] ++ [(("__class__" : Str), cc)])
def cxCl (CX : CXT) (P : Program) (w : World) (K : PySem.W.Frag) (mg : Str → Option Value) (base : Heap) (N : List Str) (qual : Str) (scope : Scope) (f : Addr) (cd : Value) (cc : Addr) (A : Around) (outer : List Env) (s : Shared) (H : Hp) (E : XK) : Cx where
  prog := P
  w := w
  K := K
  mg := mg
  base := base
  A := A.deeper (envCl qual scope s.heap.objs.size f cd cc)
  N := N
  s_0 := s
  H_0 := H
  env := envCl qual scope s.heap.objs.size f cd cc
  outer := outer
  stack := envCl qual scope s.heap.objs.size f cd cc :: outer
  ex := []
  calm := true
  fn := fun x => !decide (x = ("__class__" : Str))
  pn := []
  xe := fun e s' => wpAny (model P w) (A.deeper (envCl qual scope s.heap.objs.size f cd cc)) (leaving (envCl qual scope s.heap.objs.size f cd cc) e) (fun _ s'' => CX outer H s E e s'') (fun e' s'' => CX outer H s E e' s'') s'
theorem look_shift : ∀ (names : List (Str × NameKind)) (n m : Nat) (a b : List (Str × Addr)) (x : Str), (a.lookup x = none ↔ b.lookup x = none) → ((cellsFrom n names a).lookup x = none ↔ (cellsFrom m names b).lookup x = none)
  | [], _, _, _, _, _, h => h
  | (y, k) :: r, n, m, a, b, x, h => by
    unfold cellsFrom
    split
    · refine look_shift r _ _ _ _ x ?_
      rw [List.lookup_cons, List.lookup_cons]
      cases x == y with
      | true => simp
      | false => exact h
    · exact look_shift r _ _ _ _ x h
theorem ClScope.own' {N P : List Str} {sc : Scope} (S : ClScope N P sc) (n : Nat) : (cellsFrom n sc.names []).lookup ("__class__" : Str) = none := (look_shift sc.names 0 n [] [] _ Iff.rfl).mp S.own
section
variable {CX : CXT} {P : Program} {w : World} {K : PySem.W.Frag} {mg : Str → Option Value} {base : Heap} {N ps : List Str} {qual : Str} {scope : Scope} {f cc : Addr} {cd : Value} {A : Around} {outer : List Env} {s s1 : Shared} {H : Hp} {E : XK} {us : List Value} {vs : List V}
theorem inv_startCl {D : Value} (S : ClScope N ps scope) (hcc : ∃ c d sl, K.lookup cc = some ⟨c, d, .cell (some D), sl⟩) (hd : A.handled = none) (e0 : Env0 P w K mg base A outer s H) (hl : vs.length = ps.length) (r : Vals vs us)
    (x : InCallC s s.heap.objs.size (bindL (envCl qual scope s.heap.objs.size f cd cc).kindOf (ps.zip us) fun _ => none) (cellsFrom (s.heap.objs.size + 1) scope.names []) (bindC (envCl qual scope s.heap.objs.size f cd cc).kindOf (ps.zip us) fun _ => none) s1) :
    Inv (cxCl CX P w K mg base N qual scope f cd cc A outer s H E) [] (L2.start N vs) H s1 := by
  have hpl : ps.length ≤ N.length := by have := congrArg List.length S.pre; rw [List.length_take] at this; omega
  obtain ⟨h1, tk, rfl, hk⟩ := x.done
  obtain ⟨oc, od, osl, hcc⟩ := hcc
  have hcb : base.get? cc = some ⟨oc, od, .cell (some D), osl⟩ := e0.mod.kin _ _ hcc
  have hcs := e0.bs _ _ hcb
  have hlt : cc < s.heap.objs.size := Heap.lt_size hcs.1
  have noA : ∀ b : Addr, b ∉ (cxCl CX P w K mg base N qual scope f cd cc A outer s H E).ex := fun b z => absurd (show b ∈ ([] : List Addr) from z) (by simp)
  have two : ∀ {y : Str} {c : Addr}, (cellsFrom (s.heap.objs.size + 1) scope.names [] ++ [(("__class__" : Str), cc)]).lookup y = some c → (cellsFrom (s.heap.objs.size + 1) scope.names []).lookup y = some c ∨ (y = ("__class__" : Str) ∧ c = cc) := fun {y c} h => by
    rcases K15z.lookup_app2 h with h | ⟨_, h⟩
    · exact .inl h
    · rw [List.lookup_cons] at h
      cases hb : y == ("__class__" : Str) with
      | true =>
        rw [hb] at h
        exact .inr ⟨beq_iff_eq.mp hb, (Option.some.inj h).symm⟩
      | false =>
        rw [hb] at h
        cases h
  have ab : ∀ {y : Str} {c : Addr}, (cellsFrom (s.heap.objs.size + 1) scope.names []).lookup y = some c → s.heap.objs.size < c := fun {y c} h => x.above y c (PySem.mem_of_lookup h)
  refine ⟨⟨e0.mod, S.kind, rfl, rfl, Nat.le_refl _, fun y z c h1 h2 => ?_, fun y hy => ?_, fun y c hf h => ?_, fun _ => hd, Around.frames_deeper e0.frames, .inr ⟨rfl, rfl⟩, fun b z => absurd z (noA b), e0.bs, e0.bsz, fun b _ _ => noA b, fun b z => absurd z (noA b), e0.funs, e0.frf⟩,
    rfl, e0.bare, Un.kept hk, ⟨_, x.toInCall.ns, fun i y v h1 h2 h3 => ?_⟩, fun y c h => ?_, e0.hok.fresh (Nat.le_refl _), fun y c h => ?_, fun p hp => absurd (show p ∈ ([] : List (Addr × Obj)) from hp) (by simp), e0.hok.kept hk, ?_⟩
  · rcases two h1 with h1 | ⟨e1, c1⟩ <;> rcases two h2 with h2 | ⟨e2, c2⟩
    · exact name_of_addr x.apart (PySem.mem_of_lookup h1) (PySem.mem_of_lookup h2)
    · have := ab h1
      rw [c2] at this
      exact absurd (Nat.lt_trans hlt this) (Nat.lt_irrefl _)
    · have := ab h2
      rw [c1] at this
      exact absurd (Nat.lt_trans hlt this) (Nat.lt_irrefl _)
    · rw [e1, e2]
  · have hy : scope.names.lookup y = some .cell ∨ scope.names.lookup y = some .free := hy
    rcases hy with hy | hy
    · obtain ⟨c, hc⟩ := cell_has (n := s.heap.objs.size + 1) hy
      exact ⟨c, K15z.lookup_app hc⟩
    · have e : y = ("__class__" : Str) := S.free _ (PySem.mem_of_lookup hy) rfl
      subst e
      refine ⟨cc, ?_⟩
      have hn := S.own' (s.heap.objs.size + 1)
      show List.lookup _ (_ ++ _) = _
      rw [List.lookup_append, hn]
      rfl
  · rcases two h with h | ⟨e1, c1⟩
    · exact Nat.le_of_lt (ab h)
    · have hf : (!decide (y = ("__class__" : Str))) = true := hf
      rw [e1] at hf
      simp at hf
  · have hi : i < vs.length := by
      unfold L2.start at h2
      by_cases hi : i < vs.length
      · exact hi
      · rw [List.getElem?_append_right (by simpa using hi)] at h2
        rw [List.getElem?_replicate] at h2
        split at h2 <;> cases h2
    have ha : vs[i]? = some v := by
      unfold L2.start at h2
      rw [List.getElem?_append_left (by simpa using hi), List.getElem?_map] at h2
      cases e : vs[i]? with
      | none => rw [e] at h2; cases h2
      | some a => rw [e] at h2; cases h2; rfl
    obtain ⟨u, hu, rv⟩ := r.get ha
    have hp : ps[i]? = some y := by
      rw [← S.pre, List.getElem?_take_of_lt (by omega)]; exact h1
    have ndP : ps.Nodup := by rw [← S.pre]; exact S.nd.sublist (List.take_sublist _ _)
    refine ⟨u, rv, ?_⟩
    rcases S.par y (List.mem_of_getElem? hp) with k | k
    · exact .inl ⟨k, bindL_get ndP hp hu k⟩
    · obtain ⟨c, e⟩ := cell_has (n := s.heap.objs.size + 1) k
      refine .inr ⟨.inl k, c, K15z.lookup_app e, ?_⟩
      have q := x.cell y c e
      rw [bindC_get ndP hp hu (by show scope.names.lookup y ≠ _; rw [k]; decide)] at q
      exact q
  · rcases two h with h | ⟨e1, c1⟩
    · exact ⟨_, x.cell y c h⟩
    · rw [c1]
      exact ⟨some D, _, hk _ _ hcs.1, rfl⟩
  · rcases two h with h | ⟨e1, c1⟩
    · exact e0.hok.fresh (Nat.le_of_lt (ab h))
    · rw [c1]
      exact hcs.2
  · unfold L2.start
    show _ = N.length
    rw [List.length_append, List.length_map, List.length_replicate]
    omega
end
/-- a body whose end asks where the run stands -/
structure PSsAt (X : Cx) (body st : List Stmt) (t : TS) : Prop where
  run : ∀ (pins : List (Addr × Obj)) (s : Shared) (σ : L2.St) (H : Hp) (D : Ends), Inv X pins σ H s → t D σ H → _root_.PySem.wpAt (model X.prog X.w) X.A (.func body X.env) (execs st X.env) (SP X pins D) X.xe s
theorem pat_cons {X : Cx} {body rest : List Stmt} {st : Stmt} {t u : TS} (h1 : PS X st t) (h2 : PSsAt X body rest u) : PSsAt X body (st :: rest) (tSeq t u) := by
  refine ⟨fun pins s σ H D I h => ?_⟩
  refine ks_wpAt_execs_cons (wpAt_of_wpAny (thn (h1.run pins s σ H _ I h) fun f s1 q => ?_))
  cases f with
  | next =>
    obtain ⟨σ', H', I', q⟩ := q
    exact h2.run pins s1 σ' H' D I' q
  | ret v => exact q
  | brk => exact q
  | cont => exact q
section
variable {P : Program} {w : World} {K : PySem.W.Frag} {mg : Str → Option Value} {base : Heap} {k : Nat} {f cc : Addr} {name qual : Str} {params : Arguments} {body : List Stmt} {scope : Scope} {dV kV doc pm cdv ct oc D : Value} {an od : Option Addr} {osl : Array (Option Value)} {N ps : List Str}
theorem run_bndCl {CX : CXT} {A : Around} {outer : List Env} {s : Shared} {H : Hp} {args : Args} {Q : VK} {E : XK} {G : List V → Hp → Prop} (lk : K.lookup f = some ⟨oc, od, .func (PySem.W.fnX name qual params body scope [(("__class__" : Str), cc)] dV kV doc pm an cdv ct), osl⟩) (hcd : PySem.W.codeIn K cdv qual = true)
    (hcc : ∃ c d sl, K.lookup cc = some ⟨c, d, .cell (some D), sl⟩) (S : ClScope N ps scope) (hr : Room (k + 1) A) (e0 : Env0 P w K mg base A outer s H) (hb : StX.Bnd CX P w K mg base (PySem.W.fnX name qual params body scope [(("__class__" : Str), cc)] dV kV doc pm an cdv ct) args ps A outer s H E G)
    (hbody : ∀ (s2 : Shared) (H2 : Hp) (vs : List V), G vs H2 → Room k (A.deeper (envCl qual scope s2.heap.objs.size f cdv cc)) →
      ∃ t, PSsAt (cxCl CX P w K mg base N qual scope f cdv cc A outer s2 H2 E) body body t ∧ t { nx := fun _ H' => Q .non H', rt := Q } (L2.start N vs) H2) : codeAny (model P w) A (.call (.ref f) args) (CR CX outer P w H s Q E) s := by
  have KX : K.In s.heap := e0.mod.kin.keeps fun b o e => (e0.bs b o e).1
  refine codeAny_call_function hr.depth (KX _ _ lk) rfl S.co S.gen rfl (PySem.W.codeRec_of KX hcd) ?_
  refine hb _ _ _ fun s2 H2 vs us e2 un ho hx r hl g => ?_
  have lim : s2.heap.NoLimit := e0.mod.nolimit.keeps fun b o e => (e2.bs b o e).1
  have hkind : ∀ y ∈ ps.zip us, scope.names.lookup y.1 = some .local ∨ (scope.names.lookup y.1 = some .cell ∧ ((cellsFrom (s2.heap.objs.size + 1) scope.names []).lookup y.1).isSome = true) := fun y hy => by
    rcases S.par y.1 (List.of_mem_zip hy).1 with q | q
    · exact .inl q
    · exact .inr ⟨q, PySem.W.cellsFrom_some _ _ _ (.inl q)⟩
  refine K15z.newEnvCl (s := s2) (cl := [(("__class__" : Str), cc)]) S.kind hkind fun env he s1 x => ?_
  subst he
  refine ⟨lim.keeps x.toInCall.keep, ks_codeAny_funcAt ?_⟩
  obtain ⟨t, ht, hq⟩ := hbody s2 H2 vs g (hr.deeper _)
  have I : Inv (cxCl CX P w K mg base N qual scope f cdv cc A outer s2 H2 E) [] (L2.start N vs) H2 s1 := inv_startCl S hcc hr.hd e2 hl r x
  refine ks_wpAt_mono (ht.run [] s1 _ _ _ I hq) (fun fl s' hs => ?_) fun e s' hs => ?_
  · have fin : ∀ {σ' : L2.St} {H' : Hp} {v' : V} {u' : Value}, Inv (cxCl CX P w K mg base N qual scope f cdv cc A outer s2 H2 E) [] σ' H' s' → RelV v' u' → Q v' H' → CE outer P w H s Q u' s' :=
      fun {σ' H' v' u'} J rv' q => ⟨v', H', J.os.trans ho, J.bare, un.trans J.base, J.hok, rv', q⟩
    cases fl with
    | ret u' =>
      obtain ⟨v', σ', H', J, rv', q⟩ := hs
      exact fin J rv' q
    | next =>
      obtain ⟨σ', H', J, q⟩ := hs
      exact fin (v' := V.non) (u' := Value.none) J rfl q
    | brk =>
      obtain ⟨_, _, _, q⟩ := hs
      exact False.elim q
    | cont =>
      obtain ⟨_, _, _, q⟩ := hs
      exact False.elim q
  · exact wpAny_mono hs (fun _ s'' z => hx e s'' z) fun e' s'' z => hx e' s'' z
end
end K15

/-! part E6 -/
set_option Elab.async false
set_option linter.all false
set_option maxRecDepth 100000
set_option maxHeartbeats 1000000
namespace K15
open PySem PySem.Spec PyProof.Rows L2 RZ
/-- what the text must have that super().__init__ in the def at f, of the class at C, finds the def at f2 -/
structure SupOk (X : Cx) (f C f2 : Addr) (slf : Str) : Prop where
  fn : ∃ (oc : Value) (od : Option Addr) (fd : FuncData) (osl : Array (Option Value)) (ar : Arg), X.K.lookup f = some ⟨oc, od, .func fd, osl⟩ ∧ (fd.params.posonlyargs ++ fd.params.args).head? = some ar ∧ ar.arg = slf
  func : X.env.func = some f
  code : ∃ (cda : Addr) (ccl : Value) (cdd : Option Addr) (vs : Array Value) (ccs : Array (Option Value)) (file : Str) (tf : Tok), X.env.code = .ref cda ∧ X.K.lookup cda = some ⟨ccl, cdd, .fields vs, ccs⟩ ∧ vs[2]? = some (.str file tf) ∧ ((X.prog.main.file : Str) == file) = true
  cell : ∃ (cc : Addr) (c : Value) (d : Option Addr) (sl : Array (Option Value)), X.env.cells.lookup ("__class__" : Str) = some cc ∧ X.K.lookup cc = some ⟨c, d, .cell (some (.ref C)), sl⟩
  cls : ∃ cd, PySem.W.clsIn X.K C = some cd
  sub : PySem.W.mroIn X.K C (.ref C) = some true
  meth : PySem.W.ks_superIn X.K C C "__init__" = some (some (.ref f2))
  ty : PySem.W.typeIn X.K (.ref f2) = some (.type "function")
  fi : PySem.W.fnIn X.K f2 = true
  opq : PySem.W.nsIn X.K cStatics "thirdparty.any" = some none
  top : (X.prog.main.scope.names.lookup ("super" : Str)).isSome = false
  unb : X.mg "super" = none
  ks : X.env.scope.names.lookup ("super" : Str) = some .globalImplicit
  kc : X.env.scope.names.lookup ("__class__" : Str) = some .free
  ka : X.env.scope.names.lookup slf = some .local
/-- super().__init__(e, ..), the instance in the slot i -/
def tSup (i : Nat) (C : Addr) (sp : Sp) (t : TA) : TS := fun D σ H => ∃ x dx fs, σ[i]? = some (some (.ref x)) ∧ H x = some (.ins C dx fs) ∧ t σ H fun vs H1 => sp (.ref x :: vs) H1 (fun _ H2 => D.nx σ H2) E0
theorem pat_super {X : Cx} {body : List Stmt} {f C f2 : Addr} {self : Str} {i j k : Nat} {sp : Sp} {e : Expr} {es : List Expr} {t : TA} {p0 p1 apos cpos spos : Pos} (S : SupOk X f C f2 self) (F : FnR X.prog X.w X.K X.mg X.base CX0 k f2 sp) (hr : Room j X.A) (hk : k ≤ j) (hN : X.N[i]? = some self) (ha : PA X (e :: es) t)
    (hi : interactive X.env = false := by rfl) (hs : swapsWith (.Call (.Attribute (.Call (.Name "super" p0) [] [] p1) "__init__" apos) (e :: es) [] cpos) none spos.line X.env = pure false := by rfl)
    (hev : eval (.Call (.Attribute (.Call (.Name "super" p0) [] [] p1) "__init__" apos) (e :: es) [] cpos) X.env = (do
      let ov ← attributeBase (.Call (.Name "super" p0) [] [] p1) "__init__" X.env (eval (.Call (.Name "super" p0) [] [] p1) X.env)
      standAt apos.atName
      let (f, first) ← holding [ov] (getMethod ov "__init__" (pure false))
      callWith cpos f first (backTo cpos (starEach (e :: es) X.env)) []) := by rfl)
    (he : starEach (e :: es) X.env = (false, eval e X.env) :: starEach es X.env := by rfl) (hpl : (backTo cpos (starEach es X.env)).any (·.1) = false := by rfl) :
    PSsAt X body [.Expr (.Call (.Attribute (.Call (.Name "super" p0) [] [] p1) "__init__" apos) (e :: es) [] cpos) spos] (tSup i C sp t) := by
  refine ⟨fun pins s σ H D I h => ?_⟩
  obtain ⟨x, dx, fs, hx, hins, h⟩ := h
  obtain ⟨oc, od, fd, osl, ar, hf, hp, har⟩ := S.fn
  obtain ⟨cda, ccl, cdd, vs, ccs, file, tf, hcode, hcda, hvs, hfile⟩ := S.code
  obtain ⟨cc, c0, d0, sl0, hcl, hcc⟩ := S.cell
  obtain ⟨cd, hcd⟩ := S.cls
  have KI : X.K.In s.heap := I.kIn
  obtain ⟨mA, O, _⟩ := ins_get I.hok hins
  obtain ⟨odx, J, _⟩ := O.look
  have hne : x ≠ C := by
    rintro rfl
    unfold PySem.W.clsIn at hcd
    split at hcd
    · rename_i c d cd' sl ho
      have e := KI _ _ ho
      rw [J.at_] at e
      cases e
    · cases hcd
  obtain ⟨oD, hD1, hD2⟩ : ∃ oD, s.heap.get? C = some oD ∧ oD.data = .cls cd := by
    unfold PySem.W.clsIn at hcd
    split at hcd
    · rename_i c d cd' sl ho
      cases hcd
      exact ⟨_, KI _ _ ho, rfl⟩
    · cases hcd
  have hself : ∃ m, s.heap.Ns X.env.locals m ∧ m self = some (.ref x) := by
    obtain ⟨m, hn, hl⟩ := I.loc
    obtain ⟨u, ru, q⟩ := hl i self (.ref x) hN hx (.inl S.ka)
    obtain rfl : u = Value.ref x := ru
    rcases q with ⟨_, q⟩ | ⟨q, _⟩
    · exact ⟨m, hn, q⟩
    · have q : X.env.scope.names.lookup self = some .cell ∨ X.env.scope.names.lookup self = some .free := q
      rw [S.ka] at q
      rcases q with q | q <;> cases q
  obtain ⟨m, hns, hms⟩ := hself
  refine ks_wpAt_execs_cons (ks_wpAt_Expr_any ?_ hi hs)
  refine ks_wpAt_MethodCall (pl := pure false) ?_ hev
  have env_eq : X.env = X.env := rfl
  refine ks_wpAt_super_base (of := ⟨oc, od, .func fd, osl⟩) (fd := fd) (oc := ⟨ccl, cdd, .fields vs, ccs⟩) (vs := vs) S.ks S.kc (by decide) S.func (KI _ _ hf) rfl hp hcode (KI _ _ hcda) rfl hvs hfile S.top ?_
  obtain ⟨mb, hb1, hb2⟩ := I.mod.blt
  refine PySem.W.ks_loadName_global I.ok.kind S.ks (Calls.loadGlobal_builtin (env := X.env) (by rw [I.ok.glob]; exact I.mod.glob.keeps I.bk) S.unb (by rw [I.ok.blt]; exact hb1.keeps I.bk) ((hb2 "super" (by decide)).trans (by decide +kernel : bootBuiltins "super" = some (.type "super"))) ⟨rfl, ?_⟩)
  refine wpAny_loadName_free I.ok.kind S.kc hcl ⟨_, KI _ _ hcc, rfl⟩ ?_
  rw [har]
  refine wpAny_loadName_local I.ok.kind S.ka hns hms ?_
  obtain ⟨hh, g, dd, tt, os⟩ := s
  refine ks_wpAny_isType_cls hD1 hD2 ⟨rfl, ?_⟩
  refine ks_wpAny_call_super hD1 hD2 J.at_ J.cls (fun c e => ?_) (PySem.W.looks_mroIn KI S.sub) (fun h' hso k1 => ?_)
  · have := J.no
    unfold PySem.W.notCls at this
    rw [e] at this
    exact Bool.noConfusion this
  have I1 : Inv X pins σ H ⟨h', g, dd, tt, os⟩ := I.kept (t' := tt) k1
  obtain ⟨of, hof, hofc⟩ : ∃ of, h'.get? f2 = some of ∧ of.cls = .type "function" := by
    have ht' : (X.K.lookup f2).map (·.cls) = some (.type "function") := S.ty
    cases z : X.K.lookup f2 with
    | none => rw [z] at ht'; cases ht'
    | some of => rw [z] at ht'; exact ⟨of, I1.kIn _ _ z, Option.some.inj ht'⟩
  have hm : PySem.W.alongIn X.K "__init__" ((cd.mro.dropWhile (· != .ref C)).drop 1) = some (some (.ref f2)) := by
    have := S.meth
    unfold PySem.W.ks_superIn at this
    rw [hcd] at this
    exact this
  refine ks_wpAny_getMethod_super (l₀ := cd.mro) hso (PySem.W.looks_opaque I1.kIn S.opq) (fun A Q E s k q => wpAny_bind ((PySem.W.looks_clsIn I1.kIn hcd) A _ E s k (wpAny_pure q))) rfl I1.kIn hm hof hofc hne (by decide) ?_
  have hq : (h'.push { cls := .type "method", data := .fields #[.ref f2, .ref x] }).get? h'.objs.size = some { cls := .type "method", dict := none, data := .fields #[.ref f2, .ref x], slots := #[] } := Heap.get?_push_size _ rfl
  have I2 : Inv X pins σ H ⟨h'.push { cls := .type "method", data := .fields #[.ref f2, .ref x] }, g, dd, tt + 1, os⟩ := I1.kept (t' := tt + 1) fun b o e => Heap.get?_push_of_some _ e
  have hfp : FpOk X pins H h'.objs.size := I1.fpOk (Nat.le_refl _) (I1.hok.fresh (Nat.le_refl _))
  have I3 := I2.pinned (fp := [h'.objs.size]) (fun b hb => by rw [List.mem_singleton.mp hb]; exact hfp) (fun b hb => by rw [List.mem_singleton.mp hb]; exact ⟨_, hq, fun v z => by cases z⟩)
  have hsp : wpAny (model X.prog X.w) X.A (spliced (backTo cpos (starEach (e :: es) X.env))) (fun vs s₁ => PySem.W.MethP X.K h'.objs.size f2 (.ref x) s₁.heap ∧ wpAny (model X.prog X.w) X.A (call (.ref h'.objs.size) ([] ++ vs)) (fun _ s' => SP X pins D .next s') X.xe s₁) X.xe ⟨h'.push { cls := .type "method", data := .fields #[.ref f2, .ref x] }, g, dd, tt + 1, os⟩ := by
    refine thn (ha.run cpos _ _ σ H _ I3 h) fun us s1 ⟨vs, H1, I4, rv, q⟩ => ?_
    have hq4 : s1.heap.get? h'.objs.size = some { cls := .type "method", dict := none, data := .fields #[.ref f2, .ref x], slots := #[] } := (I4.pin (h'.objs.size, _) (List.mem_append_right _ (List.mem_append_right _ (mem_pinsAt (List.mem_singleton.mpr rfl) hq)))).1
    have I5 : Inv X pins σ H1 s1 := I4.pins_of fun p hp => I4.pin p (List.mem_append_right _ (List.mem_append_left _ hp))
    refine ⟨⟨hq4, I5.kIn⟩, ?_⟩
    refine wpAny_call (ks_codeAny_call_bound hq4 ?_)
    refine codeAny_mono (run_fnR (us := .ref x :: us) (vs := .ref x :: vs) F (hr.mono hk) pass0 I5 (.cons rfl rv) q) fun r s' hq' => ?_
    cases r with
    | error e => exact hq'
    | ok fl =>
      cases fl with
      | ret u =>
        obtain ⟨v, H', I6, _, q6⟩ := hq'
        exact ⟨σ, H', I6, q6⟩
      | next => exact hq'
      | brk => exact hq'
      | cont => exact hq'
  have hfin : wpAny (model X.prog X.w) X.A (callWith cpos (.ref h'.objs.size) [] (backTo cpos (starEach (e :: es) X.env)) []) (fun _ s' => SP X pins D .next s') X.xe ⟨h'.push { cls := .type "method", data := .fields #[.ref f2, .ref x] }, g, dd, tt + 1, os⟩ := by
    rw [he] at hsp ⊢
    exact PySem.W.callWith_of (by show ((false || (backTo cpos (starEach es X.env)).any (·.1)) || false) = false; rw [hpl]; rfl) (PySem.W.keeps_M S.fi) (PySem.Calls.evalArgs_plain hsp)
  refine thn hfin fun _ s' hs' => ?_
  exact wpAt_of_wpAny (wpAny_execs_nil hs')
end K15

/-! part E7 -/
set_option Elab.async false
set_option linter.all false
set_option maxRecDepth 100000
set_option maxHeartbeats 1000000
/-! def f(self, .., **names) called with keywords -/
namespace K15z
open PySem PySem.W PyProof.Rows
section
variable {prog : Program} {w : World} {A : Around} {E : Value → Shared → Prop} {d : Addr}
theorem kw_set {s : Shared} {es : List DictEntry} {n : Nat} {k : Str} {v : Value} {Q : Unit → Shared → Prop} (D : s.heap.get? d = some (dictOf es n)) (hs : ∀ e ∈ es, e.key.isStr k = false) (hr : ∀ e ∈ es, e.refKey = false)
    (h : ∀ h', h'.get? d = some (dictOf (es ++ [⟨PyData.keyHash w.params k, .str k s.toks, v⟩]) (n + 1)) → Heap.SameBut d s.heap h' → Q () { s with heap := h', toks := s.toks + 1 }) : wpAny (model prog w) A (nsSet d k v) Q E s := by
  have e1 : es.any (·.key.isStr k) = false := List.any_eq_false.mpr fun e he => by rw [hs e he]; decide
  have e2 : es.any (·.refKey) = false := List.any_eq_false.mpr fun e he => by rw [hr e he]; decide
  have e : Obj.putName k (PyData.keyHash w.params k) (.str k s.toks) v (dictOf es n) = dictOf (es ++ [⟨PyData.keyHash w.params k, .str k s.toks, v⟩]) (n + 1) := by
    rw [putName_dict, putL_new hs]
    unfold putN
    rw [e1, if_neg Bool.false_ne_true]
  have c : aRefKeyMayBeTheName k es.toArray = false := by
    rw [aRefKeyMayBeTheName_at, ← Array.any_toList, ← Array.any_toList]
    show (!es.any (·.key.isStr k) && es.any (·.refKey)) = false
    rw [e2, Bool.and_false]
  unfold nsSet
  refine wpAny_bind (wpAny_bind (wpAny_askSetting (wpAny_pure (wpAny_bind (wpAny_mkText (wpAny_bind (wpAny_loadPart D ?_)))))))
  dsimp only
  rw [c]
  refine wpAny_updatePart D (h _ ?_ (Heap.SameBut.update ..))
  have := Heap.get?_update_self (Obj.putName k (PyData.keyHash w.params k) (.str k s.toks) v) D (by rw [e]; rfl)
  rw [e] at this
  exact this
theorem kw_fill {Q : PUnit → Shared → Prop} : ∀ (ex : List (Str × Value)) (s : Shared) (es : List DictEntry) (n : Nat), s.heap.get? d = some (dictOf es n) →
    (∀ e ∈ es, ∀ x ∈ ex, e.key.isStr x.1 = false) → (∀ e ∈ es, e.refKey = false) → (ex.map (·.1)).Nodup →
    (∀ h', h'.get? d = some (dictOf (es ++ kwEs w.params s.toks ex) (n + ex.length)) → (∀ b, b ≠ d → h'.get? b = s.heap.get? b) → h'.objs.size = s.heap.objs.size → Q ⟨⟩ { s with heap := h', toks := s.toks + ex.length }) →
    wpAny (model prog w) A (forIn ex PUnit.unit fun x _ => (nsSet d x.1 x.2 >>= fun _ => pure (ForInStep.yield PUnit.unit))) Q E s
  | [], s, es, n, D, _, _, _, h => by
    rw [List.forIn_nil]
    refine wpAny_pure (h s.heap ?_ (fun _ _ => rfl) rfl)
    show _ = some (dictOf (es ++ []) n)
    rw [List.append_nil]
    exact D
  | x :: r, s, es, n, D, hs, hr, hn, h => by
    obtain ⟨hn1, hn2⟩ := List.nodup_cons.mp (show (x.1 :: r.map (·.1)).Nodup from hn)
    rw [List.forIn_cons]
    refine wpAny_bind (wpAny_bind (kw_set D (fun e he => hs e he x (.head _)) hr fun h' D' sb => wpAny_pure ?_))
    show wpAny (model prog w) A (forIn r PUnit.unit fun x _ => (nsSet d x.1 x.2 >>= fun _ => pure (ForInStep.yield PUnit.unit))) Q E { s with heap := h', toks := s.toks + 1 }
    refine kw_fill r { s with heap := h', toks := s.toks + 1 } _ _ D' (fun e he y hy => ?_) (fun e he => ?_) hn2 fun h'' D'' k'' z'' => ?_
    · rcases List.mem_append.mp he with he | he
      · exact hs e he y (.tail _ hy)
      · obtain rfl := List.mem_singleton.mp he
        show (x.1 == y.1) = false
        exact beq_eq_false_iff_ne.mpr fun q => hn1 (by rw [q]; exact List.mem_map_of_mem hy)
    · rcases List.mem_append.mp he with he | he
      · exact hr e he
      · obtain rfl := List.mem_singleton.mp he
        rfl
    · have t1 : s.toks + 1 + r.length = s.toks + (r.length + 1) := by omega
      have t2 : n + 1 + r.length = n + (r.length + 1) := by omega
      show Q ⟨⟩ { s with heap := h'', toks := s.toks + 1 + r.length }
      rw [t1]
      refine h h'' ?_ (fun b hb => (k'' b hb).trans (sb.2 b hb)) (z''.trans sb.1)
      rw [t2, List.append_assoc] at D''
      exact D''
end
end K15z
namespace K15
open PySem PySem.Spec PyProof.Rows L2 RZ
def kwV : List Str → List V → List (Key × V)
  | k :: ks, v :: vs => ((Sum.inr k : Key), v) :: kwV ks vs
  | _, _ => []
theorem kw_pairs {P : Program} {w : World} : ∀ {ks : List Str} {zs : List V} {ws : List Value} (t : Tok), Vals zs ws → zs.length = ks.length → ∃ vs : List (Key × Value), KV (kwV ks zs) vs ∧ Pairs (mixKind P w) (PySem.W.kwEs w.params t (ks.zip ws)) vs ∧ vs.map (·.1) = ks.map Sum.inr
  | [], [], _, t, .nil, _ => ⟨[], .nil, .nil, rfl⟩
  | k :: ks, z :: zs, _, t, .cons (b := u) r rs, hl => by
    obtain ⟨vs, h1, h2, h3⟩ := kw_pairs (P := P) (w := w) (t + 1) rs (Nat.succ.inj hl)
    exact ⟨(.inr k, u) :: vs, .cons ⟨rfl, r⟩ h1, .cons (keyIs_str k t) rfl h2, by rw [List.map_cons, List.map_cons, h3]⟩
theorem kw_dict {P : Program} {w : World} {H : Hp} {h : Heap} {d : Addr} {ks : List Str} {zs : List V} {ws : List Value} {t n : Nat} (r : Vals zs ws) (hl : zs.length = ks.length) (hn : ks.Nodup) (hz : ks.length ≤ 1000) (hb : (d == sysModules) = false)
    (hd : h.get? d = some (PySem.W.dictOf (PySem.W.kwEs w.params t (ks.zip ws)) n)) : ObjOk P w H h d (.dK (kwV ks zs)) := by
  obtain ⟨vs, h1, h2, h3⟩ := kw_pairs (P := P) (w := w) t r hl
  have hlen : (kwV ks zs).length = vs.length := h1.length
  have hvl : vs.length = ks.length := by
    have := congrArg List.length h3
    simpa using this
  refine ⟨by rw [hlen, hvl]; exact sz_of (Nat.le_trans hz (by decide)), hb, vs, h1, _, _, _, hd, ⟨rfl, rfl, rfl⟩, rfl, ?_, ?_, ?_⟩
  · intro e he
    have he : e ∈ PySem.W.kwEs w.params t (ks.zip ws) := by simpa using he
    obtain ⟨k, u, e1, e2⟩ := PySem.W.kwEs_key _ _ _ he
    exact ⟨.inr k, by rw [e1]; exact keyIs_str k u, e2⟩
  · simpa using h2
  · rw [h3]
    exact List.Pairwise.map _ (fun a b hab e => hab (Sum.inr.inj e)) hn
/-- a def's promise at a call with keywords -/
def FnRK (P : Program) (w : World) (K : PySem.W.Frag) (mg : Str → Option Value) (base : Heap) (k : Nat) (f : Addr) (n : Nat) (ks : List Str) (sp : SpK) : Prop :=
  ∀ (A : Around) (outer : List Env) (s : Shared) (H : Hp) (us ws : List Value) (vs zs : List V) (Q : VK) (E : XK), Room k A → Env0 P w K mg base A outer s H → Vals vs us → Vals zs ws → vs.length = n → zs.length = ks.length → sp vs zs H Q E →
    codeAny (model P w) A (.call (.ref f) ⟨us, ks.zip ws⟩) (CR CX0 outer P w H s Q E) s
section
variable {P : Program} {w : World} {K : PySem.W.Frag} {mg : Str → Option Value} {base : Heap} {k : Nat} {f cc : Addr} {name qual : Str} {params : Arguments} {body : List Stmt} {scope : Scope} {dV kV doc pm cdv ct oc D : Value} {an od : Option Addr} {osl : Array (Option Value)} {N ps : List Str}
/-- def __init__(self, .., **names), super() within -/
theorem fnrk_cl {pv : Str} {ks : List Str} {sp : Sp} (lk : K.lookup f = some ⟨oc, od, .func (PySem.W.fnX name qual params body scope [("__class__", cc)] dV kV doc pm an cdv ct), osl⟩) (hcd : PySem.W.codeIn K cdv qual = true)
    (hcc : ∃ c d sl, K.lookup cc = some ⟨c, d, .cell (some D), sl⟩) (S : ClScope N (ps ++ [pv]) scope) (hn : ks.Nodup) (hz : ks.length ≤ 1000)
    (hb : ∀ us ws : List Value, us.length = ps.length → ws.length = ks.length → bindArgs (PySem.W.fnX name qual params body scope [("__class__", cc)] dV kV doc pm an cdv ct) ⟨us, ks.zip ws⟩ =
      ((alloc ({ cls := .type "dict", data := .dict #[] } : Obj) : Sem Addr) >>= fun d => (forIn (ks.zip ws) PUnit.unit fun x _ => (nsSet d x.1 x.2 >>= fun _ => pure (ForInStep.yield PUnit.unit))) >>= fun _ => pure (ps.zip us ++ [(pv, Value.ref d)])))
    (hbody : ∀ (A : Around) (outer : List Env) (s : Shared) (H : Hp) (vs : List V) (Q : VK) (E : XK), Room k (A.deeper (envCl qual scope s.heap.objs.size f cdv cc)) → sp vs H Q E →
      ∃ t, PSsAt (cxCl CX0 P w K mg base N qual scope f cdv cc A outer s H E) body body t ∧ t { nx := fun _ H' => Q .non H', rt := Q } (L2.start N vs) H) :
    FnRK P w K mg base (k + 1) f ps.length ks (fun vs zs H Q E => ∀ d, H d = none → sp (vs ++ [.ref d]) (upd H d (.dK (kwV ks zs))) Q E) := by
  intro A outer s H us ws vs zs Q E hr e0 r rz l1 l2 hq
  have hu : us.length = ps.length := r.length.symm.trans l1
  have hw : ws.length = ks.length := rz.length.symm.trans l2
  have hnn : H s.heap.objs.size = none := e0.hok.fresh (Nat.le_refl _)
  refine run_bndCl lk hcd hcc S hr e0 (G := fun xs H2 => ∃ d, H d = none ∧ xs = vs ++ [.ref d] ∧ H2 = upd H d (.dK (kwV ks zs))) (fun A' Ex Q' h => ?_) fun s2 H2 xs ⟨d, hd, ex, eH⟩ hr' => ?_
  · rw [hb us ws hu hw]
    refine wpAny_bind (wpAny_alloc ?_)
    have hd0 : (s.heap.push ({ cls := .type "dict", data := .dict #[] } : Obj)).get? s.heap.objs.size = some (PySem.W.dictOf [] 0) := Heap.get?_push_size _ rfl
    have hm : ((ks.zip ws).map (·.1)) = ks := List.map_fst_zip (by omega)
    refine wpAny_bind (K15z.kw_fill (ks.zip ws) { s with heap := s.heap.push ({ cls := .type "dict", data := .dict #[] } : Obj) } [] 0 hd0 (fun e he => nomatch he) (fun e he => nomatch he) (by rw [hm]; exact hn) fun h' D' kp' z' => wpAny_pure ?_)
    have keep : ∀ b o, s.heap.get? b = some o → h'.get? b = some o := fun b o e => (kp' b (Nat.ne_of_lt (Heap.lt_size e))).trans (Heap.get?_push_of_some _ e)
    have hbm : (s.heap.objs.size == sysModules) = false := beq_eq_false_iff_ne.mpr (Nat.ne_of_gt (StX.env0_big e0))
    have new : ObjOk P w (upd H s.heap.objs.size (.dK (kwV ks zs))) h' s.heap.objs.size (.dK (kwV ks zs)) := kw_dict rz l2 hn hz hbm D'
    have un : Un (frs outer) [] H (upd H s.heap.objs.size (.dK (kwV ks zs))) s.heap h' := Un.laid keep (Nat.le_refl _) hnn
    have e2 : Env0 P w K mg base A outer { s with heap := h', toks := s.toks + (ks.zip ws).length } (upd H s.heap.objs.size (.dK (kwV ks zs))) := by
      refine ⟨e0.frames, e0.mod, fun b o e => ?_, ?_, ?_, fun b hb => ?_, e0.hok.laid keep (Nat.le_refl _) new, e0.bare⟩
      · obtain ⟨h1, h2⟩ := e0.bs b o e
        exact ⟨keep _ _ h1, by rw [upd_ne (Nat.ne_of_lt (Heap.lt_size h1))]; exact h2⟩
      · show base.objs.size ≤ h'.objs.size
        rw [z', Heap.size_push]
        exact Nat.le_succ_of_le e0.bsz
      · exact Heap.FunFrames.of_keeps (fun b o e _ => ⟨o, keep b o e, rfl⟩) e0.funs
      · obtain ⟨_, o, ho, _⟩ := e0.funs.mem hb
        rw [upd_ne (Nat.ne_of_lt (Heap.lt_size ho))]
        exact e0.frf b hb
    have z := h { s with heap := h', toks := s.toks + (ks.zip ws).length } (upd H s.heap.objs.size (.dK (kwV ks zs))) (vs ++ [V.ref s.heap.objs.size]) (us ++ [Value.ref s.heap.objs.size]) e2 un rfl (fun e s' hx => hx) (r.append (.cons rfl .nil)) (by rw [List.length_append, List.length_append, l1] <;> rfl) ⟨_, hnn, rfl, rfl⟩
    rw [List.zip_append hu.symm] at z
    exact z
  · subst ex eH
    exact hbody A outer s2 _ _ Q E hr' (hq d hd)
/-- def __init__(self, .., *words), super() within -/
theorem fn_starCl {pv : Str} {sp : Sp} (lk : K.lookup f = some ⟨oc, od, .func (PySem.W.fnX name qual params body scope [("__class__", cc)] dV kV doc pm an cdv ct), osl⟩) (hcd : PySem.W.codeIn K cdv qual = true) (hcc : ∃ c d sl, K.lookup cc = some ⟨c, d, .cell (some D), sl⟩) (S : ClScope N (ps ++ [pv]) scope)
    (hb : ∀ us rest : List Value, us.length = ps.length → bindArgs (PySem.W.fnX name qual params body scope [("__class__", cc)] dV kV doc pm an cdv ct) ⟨us ++ rest, []⟩ = (newTuple rest >>= fun t => pure (ps.zip us ++ [(pv, t)])))
    (hbody : ∀ (A : Around) (outer : List Env) (s : Shared) (H : Hp) (vs : List V) (Q : VK) (E : XK), Room k (A.deeper (envCl qual scope s.heap.objs.size f cdv cc)) → sp vs H Q E →
      ∃ t, PSsAt (cxCl CX0 P w K mg base N qual scope f cdv cc A outer s H E) body body t ∧ t { nx := fun _ H' => Q .non H', rt := Q } (L2.start N vs) H) :
    FnR P w K mg base CX0 (k + 1) f (fun vs H Q E => ∃ ws rest, vs = ws ++ rest ∧ ws.length = ps.length ∧ rest.length ≤ sizeLine ∧ ∀ p, H p = none → sp (ws ++ [V.ref p]) (upd H p (.tup rest)) Q E) := by
  intro A outer s H us vs Q E hr e0 r hsp
  obtain ⟨ws, rest, ev, hl, hz, hq⟩ := hsp
  subst ev
  obtain ⟨u1, u2, eu, r1, r2⟩ := StX.vals_split r
  subst eu
  have hn : H s.heap.objs.size = none := e0.hok.fresh (Nat.le_refl _)
  have hl1 : u1.length = ps.length := by rw [← r1.length]; exact hl
  have hl2 : u2.length ≤ sizeLine := by rw [← r2.length]; exact hz
  refine run_bndCl lk hcd hcc S hr e0 (G := fun xs H2 => ∃ p, H p = none ∧ xs = ws ++ [V.ref p] ∧ H2 = upd H p (.tup rest)) (fun A' Ex Q' h => ?_) fun s2 H2 xs ⟨p, hp, ex, eH⟩ hr' => ?_
  · rw [hb u1 u2 hl1]
    refine wpAny_bind (wpAny_newTuple (wpAny_pure ?_) hl2)
    have new : ObjOk P w (upd H s.heap.objs.size (.tup rest)) (s.heap.push ({ cls := .type "tuple", data := .seq u2.toArray } : Obj)) s.heap.objs.size (.tup rest) := ⟨hz, u2, r2, ⟨_, Heap.get?_push_size _ rfl, rfl, _, rfl⟩⟩
    have un := StX.un_laid (fs := frs outer) (s := s) (o := ({ cls := .type "tuple", data := .seq u2.toArray } : Obj)) (u := .tup rest) hn
    have z := h _ _ (ws ++ [V.ref s.heap.objs.size]) (u1 ++ [Value.ref s.heap.objs.size]) (StX.env0_laid e0 new) un rfl (fun e s' hx => hx) (r1.append (.cons rfl .nil)) (by rw [List.length_append, List.length_append, hl] <;> rfl) ⟨_, hn, rfl, rfl⟩
    rw [List.zip_append hl1.symm] at z
    exact z
  · subst ex eH
    exact hbody A outer s2 _ _ Q E hr' (hq p hp)
end
/-- C(e, .., k = v, ..), its __init__ by such a promise -/
def tMakeRK (C : Addr) (n m : Nat) (sp : SpK) (t tk : TA) : TE := fun σ H Q => t σ H fun vs H1 => tk σ H1 fun zs H2 => vs.length = n ∧ zs.length = m ∧
  ∀ x dx, H2 x = none → H2 dx = none → dx ≠ x → sp (.ref x :: vs) zs (upd (upd H2 dx (.own x)) x (.ins C dx [])) (fun v H3 => v = .non ∧ Q (.ref x) H3) E0
theorem pe_makeRK {X : Cx} {j k n : Nat} {f C : Addr} {ks : List Str} {sp : SpK} {x : Str} {p pos : Pos} {e : Expr} {es : List Expr} {kws : List Keyword} {t tk : TA} (M : Mk X.K C f) (F : FnRK X.prog X.w X.K X.mg X.base k f (n + 1) ks sp) (hr : Room j X.A) (hk : k + 1 ≤ j) (hg : Gl X x) (hm : X.mg x = some (.ref C))
    (ha : PA X (e :: es) t) (hkw : PK X kws tk) (hall : (backToKw pos (keywordEach kws X.env)).all (·.1.isSome) = true := by rfl) (hks : (backToKw pos (keywordEach kws X.env)).filterMap (·.1) = ks := by rfl)
    (hdb : (x == ("__debug__" : Str)) = false := by decide) (he : starEach (e :: es) X.env = (false, eval e X.env) :: starEach es X.env := by rfl)
    (hpl : ((backTo pos (starEach (e :: es) X.env)).any (·.1) || (backToKw pos (keywordEach kws X.env)).any (·.1.isNone)) = false := by rfl) :
    PE X (.Call (.Name x p) (e :: es) kws pos) (tMakeRK C n ks.length sp t tk) := by
  refine ⟨fun pins s σ H Q I h => ?_⟩
  refine wpAny_Call_Name_kw (ld_glob I hg hm ?_ hdb)
  refine PySem.W.callWith_KW (h₀ := X.base) I.ok.mod.kin M.kp hall (thn (ha.run pos pins s σ H _ I h) fun us s1 ⟨vs, H1, I1, r, q⟩ => ?_) hpl he
  refine thn (hkw.run pos pins s1 σ H1 _ I1 q) fun ws s2 ⟨zs, H2, I2, rz, l1, l2, q2⟩ => ⟨I2.kIn, ?_⟩
  rw [hks]
  have hq := q2 (s2.heap.objs.size + 1) s2.heap.objs.size (I2.hok.fresh (Nat.le_succ _)) (I2.hok.fresh (Nat.le_refl _)) (Nat.ne_of_lt (Nat.lt_succ_self _))
  have I3 := Inv.made (C := C) I2
  have r1 : Vals (V.ref (s2.heap.objs.size + 1) :: vs) (Value.ref (s2.heap.objs.size + 1) :: us) := .cons rfl r
  have hr2 := hr.mono hk
  refine wpAny_call (make_map (f := f) I2.kIn M.makes M.init (beq_iff_eq.mp M.fn) (codeAny_mono (F _ X.stack _ _ (Value.ref (s2.heap.objs.size + 1) :: us) ws _ _ _ E0 (hr2.make C us (ks.zip ws)) (I3.env0.make C us (ks.zip ws)) r1 rz (congrArg Nat.succ l1) l2 hq) fun r s' hq' => ?_))
  cases r with
  | error e => exact hq'.elim
  | ok fl =>
    cases fl with
    | ret u =>
      obtain ⟨v, H', I4, rv, ev, q3⟩ := I3.after hq'
      subst ev
      exact ⟨rv, ⟨V.ref (s2.heap.objs.size + 1), H', I4, rfl, q3⟩⟩
    | next => exact False.elim hq'
    | brk => exact False.elim hq'
    | cont => exact False.elim hq'
end K15

/-! part E8 -/
set_option Elab.async false
set_option linter.all false
set_option maxRecDepth 100000
set_option maxHeartbeats 1000000
/-! x != y by the own __eq__ that the class or one above it has; k not in x by the own __contains__ -/
namespace K15z
open PySem PySem.W PyProof.Rows
section
variable {prog : Program} {w : World} {A : Around} {E : Value → Shared → Prop} {s : Shared} {K : PySem.W.Frag} {x C L f : Addr} {h₀ : Heap} {m : Str → Option Value} {ox : Obj} {od : Option Obj} {b tb : Value}
theorem slotNe : Slot "object" "__ne__" "object.__ne__" := PySem.F.cmp_object.ne
theorem ifBound_ne {M : Model} {args : List Value} {Q : Option Value → Shared → Prop} (X : K.In s.heap) (I : InstAt s.heap x ox C od) (hs : findIn K (.ref C) "__ne__" = some (some (.builtin "object.__ne__")))
    (h : wpAny M A (call (.builtin "object.__ne__") (.ref x :: args)) (fun v => Q (some v)) E s) : wpAny M A (callSpecialIfBound? (.ref x) "__ne__" args) Q E s := by
  simp only [callSpecialIfBound?, bindSpecialIfBound?]
  refine wpAny_holding (wpAny_bind (wpAny_bind (wpAny_bind (I.type.here ((looks_findIn X hs).here ?_)))))
  refine wpAny_bind (wpAny_askSetting (wpAny_ite ?_))
  have fin : wpAny M A (call (.builtin "object.__ne__") ([.ref x] ++ args) >>= fun v => pure (some v)) Q E s := wpAny_bind (wpAny_mono h (fun v s' h' => wpAny_pure h') fun _ _ h' => h')
  simp only [slotNe.bind]
  split
  · exact wpAny_bind (wpAny_pure (wpAny_pure fin))
  · exact wpAny_tryCatch (wpAny_bind (wpAny_pure (wpAny_pure fin)))
theorem ne_K {Q : Value → Shared → Prop} (hu : A.units + 1 < cLine) (F : Fr h₀ L s.heap m) (X₀ : K.In h₀) (I : InstAt s.heap x ox C od) (hb : Looks (model prog w) s.heap (typeOf b) tb) (hn : notFirst K C tb = true)
    (hne : findIn K (.ref C) "__ne__" = some (some (.builtin "object.__ne__"))) (hs : findIn K (.ref C) "__eq__" = some (some (.ref f))) (hf : isFn K (.ref f) = true) (ho : subIn K (.ref C) (.type "object") = some true)
    (h : wpAny (model prog w) A.in1 (call (.ref f) [.ref x, b]) (fun v s' => ∃ r, v = .bool r ∧ Q (.bool (!r)) s') E s) : wpAny (model prog w) A (richCompare .NotEq (.ref x) b) Q E s := by
  have X := X₀.keeps F.keep
  have hi : Looks (model prog w) s.heap (isInstance (.ref x) (.type "object")) true := I.type.andThen (looks_subIn X ho)
  have one : wpAny (model prog w) A (tryCompare (.ref x) "__ne__" b) (fun r s' => ∃ v, r = some v ∧ Q v s') E s := by
    unfold tryCompare
    refine wpAny_bind (ifBound_ne X I hne (wpAny_call (codeAny_call_builtin slotNe.plain PySem.F.cmpEntry_ne (check_slot PySem.F.cmpKind_ne PySem.F.cmpSplit_ne hi (PySem.F.cmpArgs_ne _ _) ?_))))
    show wpAny _ _ (Builtin.«object.__ne__» ⟨[.ref x, b], []⟩) _ _ _
    unfold Builtin.«object.__ne__»
    have hu' : A.in1.units < cLine := by simpa using hu
    repeat (first
      | with_reducible refine wpAny_cRoomFor hu' ?_
      | (refine wpAny_bind (m := callSpecialIfBound? (.ref x) (Str.ofString "__eq__") [b])
          (ifBound_K X I hs hf (wpAny_mono h (fun r s' hr => by
            obtain ⟨b, rfl, hq⟩ := hr
            repeat (first | exact ⟨_, rfl, hq⟩ | exact wpAny_pure hq | exact wpAny_truthy_bool hq | (refine wpAny_bind (m := truthy (.bool _)) (wpAny_truthy_bool ?_)) | wp_step)) fun _ _ e => e)))
      | wp_step)
  unfold richCompare
  simp only [oneThing_ref]
  refine wpAny_holding (wpAny_bind (wpAny_cRoomFor (Nat.lt_of_succ_lt hu) ?_))
  refine wpAny_bind (I.type.here (wpAny_bind (hb.here ?_)))
  split
  · rename_i q
    have e : subIn K tb (.ref C) = some false := by
      rcases Bool.or_eq_true_iff.mp hn with e | e
      · rw [beq_iff_eq.mp e] at q; simp at q
      · exact beq_iff_eq.mp e
    refine wpAny_bind ((looks_subIn X e).here ?_)
    simp only [Bool.false_eq_true, if_false]
    refine wpAny_bind (wpAny_mono one (fun r s' z => ?_) fun _ _ e => e)
    obtain ⟨v, rfl, hq⟩ := z
    exact wpAny_pure hq
  · refine wpAny_bind (wpAny_pure ?_)
    simp only [Bool.false_eq_true, if_false]
    refine wpAny_bind (wpAny_mono one (fun r s' z => ?_) fun _ _ e => e)
    obtain ⟨v, rfl, hq⟩ := z
    exact wpAny_pure hq
end
end K15z
namespace K15
open PySem PySem.Spec PyProof.Rows L2 RZ
/-- what != asks of the class at C, its == the def at g -/
structure NeOk (K : PySem.W.Frag) (C g : Addr) : Prop where
  ne : PySem.W.findIn K (.ref C) "__ne__" = some (some (.builtin "object.__ne__"))
  eq : PySem.W.findIn K (.ref C) "__eq__" = some (some (.ref g))
  fn : PySem.W.isFn K (.ref g) = true
  ob : PySem.W.subIn K (.ref C) (.type "object") = some true
/-- x != y of instances, y's class not below x's -/
def rNeOwn (K : PySem.W.Frag) (g : Addr) (sp : Sp) : R2 := fun x y H Q => ∃ a C dx fs b D dy gs, x = .ref a ∧ y = .ref b ∧ H a = some (.ins C dx fs) ∧ H b = some (.ins D dy gs) ∧ PySem.W.notFirst K C (.ref D) = true ∧ NeOk K C g ∧
  sp [.ref a, .ref b] H (fun z H' => ∃ r, z = .bl r ∧ Q (.bl (!r)) H') E0
/-- k not in x, x an instance -/
def rNotInOwn (K : PySem.W.Frag) (g : Addr) (sp : Sp) : R2 := fun k x H Q => ∃ a C dx fs, x = .ref a ∧ H a = some (.ins C dx fs) ∧ PySem.W.findIn K (.ref C) "__contains__" = some (some (.ref g)) ∧
  sp [.ref a, k] H (fun z H' => ∃ r, z = .bl r ∧ Q (.bl (!r)) H') E0
section
variable {X : Cx} {n j : Nat} {g : Addr} {sp : Sp}
theorem op_neOwn (K : PySem.W.Frag) (hK : X.K = K) (F : FnR X.prog X.w X.K X.mg X.base CX0 n g sp) (hr : Room j X.A) (hn : n + 1 ≤ j) : OpR X (compareOp .NotEq) (rNeOwn K g sp) := by
  subst hK
  intro pins s σ H x y v u Q I rx ry h
  obtain ⟨a, C, dx, fs, b, D, dy, gs, rfl, rfl, ha, hb, hf, N, q⟩ := h
  cases (show v = Value.ref a from rx)
  cases (show u = Value.ref b from ry)
  obtain ⟨mA, O, _⟩ := ins_get I.hok ha
  obtain ⟨od, J, _⟩ := O.look
  obtain ⟨mB, O', _⟩ := ins_get I.hok hb
  obtain ⟨od', J', _⟩ := O'.look
  obtain ⟨m, hF⟩ := I.fr
  have hr1 : Room n X.A.in1 := (hr.mono hn).in1
  refine K15z.ne_K (tb := .ref D) (by have := hr1.units0; simpa using this) hF I.ok.mod.kin J J'.type hf N.ne N.eq N.fn N.ob ?_
  refine wpAny_mono (wpAny_call (codeAny_mono (F X.A.in1 X.stack s H [.ref a, .ref b] [.ref a, .ref b] _ E0 hr1 I.env0.in1 (.cons rfl (.cons rfl .nil)) q) fun r s' hq => ?_)) (fun _ _ z => z) fun _ _ z => z
  cases r with
  | error e => exact False.elim hq
  | ok fl =>
    cases fl with
    | ret u =>
      obtain ⟨z, H', I', rz, b, ez, q⟩ := I.after hq
      subst ez
      cases (show u = Value.bool b from rz)
      exact ⟨b, rfl, .bl (!b), H', I', rfl, q⟩
    | next => exact False.elim hq
    | brk => exact False.elim hq
    | cont => exact False.elim hq
theorem op_notInOwn (K : PySem.W.Frag) (hK : X.K = K) (F : FnR X.prog X.w X.K X.mg X.base CX0 n g sp) (hf : PySem.W.isFn X.K (.ref g) = true) (hr : Room j X.A) (hn : n ≤ j) : OpR X (compareOp .NotIn) (rNotInOwn K g sp) := by
  subst hK
  intro pins s σ H x y v u Q I rx ry h
  obtain ⟨a, C, dx, fs, rfl, ha, hs, q⟩ := h
  cases (show u = Value.ref a from ry)
  obtain ⟨mA, O, _⟩ := ins_get I.hok ha
  obtain ⟨od, J, _⟩ := O.look
  obtain ⟨m, hF⟩ := I.fr
  refine PySem.W.notIn_K hF I.ok.mod.kin J hs hf ?_
  refine wpAny_mono (wpAny_call (run_fnR (us := [.ref a, v]) (vs := [.ref a, x]) F (hr.mono hn) pass0 I (.cons rfl (.cons rx .nil)) q)) (fun w s' z => ?_) fun _ _ x => x
  obtain ⟨z', H', I', rz, b, ez, qz⟩ := z
  subst ez
  cases (show w = Value.bool b from rz)
  exact wpAny_truthy_bool ⟨.bl (!b), H', I', rfl, qz⟩
end
end K15

/-! part E9 -/
set_option Elab.async false
set_option linter.all false
set_option maxRecDepth 100000
set_option maxHeartbeats 1000000
/-! sorted(range(len(l)), key=lambda a: l[a]) -/
namespace K15z
open PySem PySem.W PyProof.Rows
theorem each_range : ∀ (l : List Value) (m : Nat), (∀ j v, l[j]? = some v → ∃ t, v = Value.int ((m + j : Nat) : Int) t) → EachIs (fun v (x : Nat) => ∃ t, v = Value.int (x : Int) t) l (List.range' m l.length)
  | [], _, _ => .nil
  | v :: l, m, h => by
    rw [List.length_cons, List.range'_succ]
    refine .cons (h 0 v rfl) (each_range l (m + 1) fun j u e => ?_)
    obtain ⟨t, q⟩ := h (j + 1) u (by simpa using e)
    exact ⟨t, by rw [q]; congr 2; omega⟩
section
variable {prog : Program} {w : World} {A : Around} {E : Value → Shared → Prop} {s : Shared}
theorem sorted_range_key {r f : Addr} {n : Nat} {t u v : Tok} {Q : Value → Shared → Prop} (k : Nat → PyData) (hh : A.handled = none) (hr : IsRange s.heap r 0 (n : Int) 1 t u v) (hn : n ≤ 1000) (hal : AllAlike ((List.range n).map k)) (hk : Sortable ((List.range n).map k)) (hu : ∀ x ∈ List.range n, A.units + 2 + (k x).depth < cLine)
    (turn : ∀ (x : Nat) (q : Tok), x < n → ∀ (h : Heap) (tk : Nat), (∀ b o, s.heap.get? b = some o → h.get? b = some o) → wpAny (model prog w) A.in1.in1 (call (.ref f) [.int (x : Int) q]) (KeyPure (k x) { s with heap := h, toks := tk }) (fun _ _ => False) { s with heap := h, toks := tk })
    (h : ∀ (out : List Value) (c : Nat) (h1 h' : Heap) (tk : Nat), (∀ b o, s.heap.get? b = some o → h1.get? b = some o) → (∀ b o, h1.get? b = some o → h'.get? b = some o) → h'.get? h1.objs.size = some (seqObj "list" (List.toArray out) c) → out.length = n → EachIs (fun v (x : Nat) => ∃ t, v = Value.int (x : Int) t) out ((List.range n).mergeSort (dataLe false k)) → Q (.ref h1.objs.size) { s with heap := h', toks := tk }) :
    wpAny (model prog w) A (call (.builtin "sorted") [.ref r] [(Str.ofString "key", .ref f)]) Q E s := by
  refine call_function_entry_kw kind_sorted plain_sorted entry_sorted (ksk_s1 _ _) ?_
  unfold Builtin.«sorted»
  refine wpAny_bind (m := checkCount "sorted" 1 1 _) (wpAny_pure ?_)
  refine wpAny_bind (L2.collect_range (A := A.in1) (n := n) hh hr (small_one (by omega) (by omega) (by omega) (by omega)) (by rw [rangeSize_nat]; simp) (by omega) fun h1 tk acc hkp hI => ?_)
  have hlen : acc.toList.length = n := by rw [Array.length_toList]; exact hI.1
  have hZ : acc.toList.length ≤ sizeLine := by rw [hlen, sizeLine_eq]; omega
  have e : EachIs (fun v (x : Nat) => ∃ t, v = Value.int (x : Int) t) acc.toList (List.range n) := by
    rw [← hlen, List.range_eq_range']
    refine each_range _ 0 fun j v e => ?_
    obtain ⟨t, q⟩ := hI.2 j v (by rw [← e, Array.getElem?_toList])
    exact ⟨t, by rw [q]; congr 1; omega⟩
  have lt1 : ∀ b o, s.heap.get? b = some o → b ≠ h1.objs.size := fun b o q => Nat.ne_of_lt (Heap.lt_size (hkp b o q))
  refine wpAny_bind (wpAny_newList ?_ hZ)
  refine wpAny_bind (wpAny_holding (wpAny_call_entry_kw slot_list_sort ⟨_, Heap.get?_push_size _ rfl, rfl⟩ entry_list_sort ?body (ksk_l1 _ _)))
  case body =>
    show wpAny (model prog w) A.in1.in1 (Builtin.«list.sort» ⟨[.ref h1.objs.size], [(Str.ofString "key", .ref f)]⟩) _ _ _
    rw [ksk_t1]
    have up : ∀ {g : Heap}, KeepsBut h1.objs.size (h1.push (seqObj "list" acc.toList.toArray 0)) g → ∀ b o, s.heap.get? b = some o → g.get? b = some o := fun {g} kp b o q => kp b o (lt1 b o q) (Heap.get?_push_of_some _ (hkp b o q))
    refine wpAny_mono (keyH_tree (kz := (List.range n).map k) (vs := acc.toList) (b := false) (P := fun fin s' => fin = .done (.ret .none) ∧ Q (.ref h1.objs.size) s') (s := { s with heap := h1.push (seqObj "list" acc.toList.toArray 0), toks := tk }) (Heap.get?_push_size _ rfl) (by rw [List.length_map, List.length_range, hlen]) hZ hal hk (fun d hd => ?_)
      (fun i x d hx hd g tk2 kp => ?_) fun h' tk2 out c kp hD ko => ⟨rfl, ?_⟩) (fun fin s' hf => ?_) fun _ _ e => e
    · obtain ⟨x, hx, rfl⟩ := List.mem_map.mp hd
      have := hu x hx
      show A.units + 1 + 1 + _ < _
      omega
    · have hi : i < n := by rw [← hlen]; exact (List.getElem?_eq_some_iff.mp hx).1
      rw [List.getElem?_map, List.getElem?_range hi] at hd
      obtain rfl := Option.some.inj hd
      obtain ⟨q, hq⟩ := hI.2 i x (by rw [← hx, Array.getElem?_toList])
      have e1 : x = .int (i : Int) q := by rw [hq]; congr 1; omega
      rw [e1]
      exact turn i q hi g tk2 (up kp)
    · exact h out c h1 h' tk2 hkp (fun b o q => kp b o (Nat.ne_of_lt (Heap.lt_size q)) (Heap.get?_push_of_some _ q)) hD ((ko.length (by rw [List.length_map, List.length_range, hlen])).trans hlen) (keyedOut_each k ko e)
    · obtain ⟨rfl, hq⟩ := hf
      exact ⟨_, rfl, wpAny_pure ⟨_, rfl, hq⟩⟩
theorem lam_item {f c' c p : Addr} {qual a b : Str} {params : Arguments} {scope : Scope} {cl : List (Str × Addr)} {pm ctv : Value} {its : Array Value} {x : Nat} {q t : Tok} {z : Str} {p1 p2 p3 : Pos} (hroom : A.depth < recursionLimit)
    (of1 : s.heap.get? f = some (kla_obj "<lambda>" qual params (.Subscript (.Name b p1) (.Name a p2) p3) scope cl pm c' ctv)) (hk : scope.kind = .function) (hco : scope.isCoroutine = false) (hgen : scope.isGenerator = false) (hcell : ∀ y ∈ scope.names, y.2 ≠ .cell)
    (ha : scope.names.lookup a = some .local) (hb : scope.names.lookup b = some .free) (hcl : cl.lookup b = some c) (hc : s.heap.IsCell c (some (.ref p))) (hl : s.heap.IsList p its) (hx : its[x]? = some (.str z t)) (hxb : x < 2 ^ 60) (hcd : s.heap.CodeRec (.ref c') qual)
    (hbind : ∀ u : Value, bindArgs (kla_fn "<lambda>" qual params (.Subscript (.Name b p1) (.Name a p2) p3) scope cl pm (.ref c') ctv) ⟨[u], []⟩ = pure [(a, u)]) (lim : s.heap.NoLimit)
    (hda : (a == ("__debug__" : Str)) = false) (hdb : (b == ("__debug__" : Str)) = false) (hdc : (b == ("__classdict__" : Str)) = false) :
    wpAny (model prog w) A (call (.ref f) [.int (x : Int) q]) (KeyPure (.str z) s) E s := by
  refine wpAny_call (kla_callFunE hroom of1 rfl hco hgen rfl hcd ?_)
  rw [hbind]
  refine wpAny_pure (wpAny_newFunctionEnv hcell (fun y hy => ?_) (fun h1 hns hsb => ⟨lim.fresh _ hsb, ?_⟩) hk)
  · have e : y = (a, .int (x : Int) q) := by simpa using hy
    rw [e]
    exact ha
  · have kp : ∀ b o, s.heap.get? b = some o → h1.get? b = some o := fun b o e => hsb.extBut b o (Nat.ne_of_lt (Heap.lt_size e)) (Heap.get?_push_of_some _ e)
    refine kla_codeExpr (Subscript_ (wpAny_Name (wpAny_loadName_free hk hb hcl (hc.keeps kp) ?_ hdc) hdb))
    refine wpAny_Name (wpAny_loadName_local hk ha hns (v := .int (x : Int) q) ?_ ?_) hda
    · show ([(a, Value.int (x : Int) q)].reverse).lookup a = _
      simp
    · obtain ⟨o, ho, hcls, n, hd⟩ := hl
      refine item_listR (items := its) ⟨o, kp _ _ ho, hcls, n, hd⟩ (by omega) (by omega) (by simpa using hx) ?_ ?_
      · exact ⟨h1, _, rfl, kp, .str z t⟩
      · rfl
end
end K15z
namespace K15
open PySem PySem.Spec PyProof.Rows L2 RZ
open LamX (ExtN Tabs TabB CodeO)
def sortBy (l : List Str) : List Nat := (List.range l.length).mergeSort fun i j => decide ((l.getD i Str.empty).cps.toList ≤ (l.getD j Str.empty).cps.toList)
/-- sorted(range(e), key=lambda a: b[a]), b the slot i -/
def tSortBy (T : List (Addr × Str)) (i : Nat) (te : TE) : TE := fun σ H Q => te σ H fun x H1 => ∃ p l, x = .int ((l.length : Nat) : Int) ∧ Tabs T H1 ∧ σ[i]? = some (some (.ref p)) ∧ H1 p = some (.lst (l.map V.str)) ∧ l.length ≤ 1000 ∧
  ∀ H2 r, ExtN H1 H2 → Tabs T H2 → H2 r = none → Q (.ref r) (upd H2 r (.lst ((sortBy l).map fun n => V.int ((n : Nat) : Int))))
theorem pe_sortBy {X : Cx} {T : List (Addr × Str)} {c P : Addr} {i k : Nat} {e : Expr} {te : TE} {a b : Str} {params : Arguments} {scope : Scope} {p1 p2 p3 lpos rp rpos sp pos kpos : Pos} (hc : X.calm = true) (hr : Room k X.A) (hk : 3 ≤ k) (hgs : Gl X "sorted") (hms : X.mg "sorted" = none) (hgr : Gl X "range") (hmr : X.mg "range" = none) (he : PE X e te)
    (TB : TabB X.base X.mg c P) (hcode : X.env.code = .ref c) (hmT : (P, X.env.qual ++ "<lambda>") ∈ T) (hu : ∀ p ∈ T, p.1 = P → p.2 = X.env.qual ++ "<lambda>")
    (hN : X.N[i]? = some b) (hvb : X.env.scope.names.lookup b = some .cell) (hsk : scope.kind = .function) (hco : scope.isCoroutine = false) (hgen : scope.isGenerator = false) (hcell : ∀ y ∈ scope.names, y.2 ≠ .cell) (ha : scope.names.lookup a = some .local) (hb : scope.names.lookup b = some .free)
    (hfr : ∀ y ∈ scope.names, y.2 = .free → X.env.scope.names.lookup y.1 = some .cell)
    (hdef : defaultsOf params X.env = ([], []) := by rfl) (hbind : ∀ (q : Str) (cl : List (Str × Addr)) (pm cv ctv u : Value), bindArgs (PySem.W.kla_fn "<lambda>" q params (.Subscript (.Name b p1) (.Name a p2) p3) scope cl pm cv ctv) ⟨[u], []⟩ = pure [(a, u)] := by intros; rfl)
    (hda : (a == ("__debug__" : Str)) = false := by decide) (hdb : (b == ("__debug__" : Str)) = false := by decide) (hdc : (b == ("__classdict__" : Str)) = false := by decide)
    (na : starEach [e] X.env = (false, eval e X.env) :: starEach [] X.env := by rfl)
    (na2 : backTo pos (starEach [.Call (.Name "range" rp) [e] [] rpos] X.env) = (false, eval (.Call (.Name "range" rp) [e] [] rpos) X.env) :: backTo pos (starEach [] X.env) := by rfl) :
    PE X (.Call (.Name "sorted" sp) [.Call (.Name "range" rp) [e] [] rpos] [⟨some "key", .Lambda params (.Subscript (.Name b p1) (.Name a p2) p3) scope lpos, kpos⟩] pos) (tSortBy T i te) := by
  refine ⟨fun pins s σ H Q I h => ?_⟩
  refine wpAny_Call_Name_kw (ld_blt I hgs hms (by decide +kernel : bootBuiltins "sorted" = some (.builtin "sorted")) ?_)
  refine PyProof.Rows.callWith_kw ?_ na2 rfl rfl rfl
  rw [na2]
  refine Calls.spliced_cons (Call_ (ld_blt I hgr hmr boot_range (PyProof.Rows.callWith_type1 (one_arg he I h (fun v s1 x H1 I1 r1 q1 => ?_) na) na)))
  obtain ⟨p, l, rfl, hT, hi, hp, hz, q⟩ := q1
  obtain ⟨tn, rfl⟩ := r1
  refine call_range_1 ?_
  have I2 : Inv X pins σ H1 { s1 with heap := s1.heap.push { cls := .type "range", data := .fields #[.int 0 s1.toks, .int ((l.length : Nat) : Int) tn, .int 1 (s1.toks + 1)] }, toks := s1.toks + 1 + 1 } := I1.kept fun b u e => Heap.get?_push_of_some _ e
  have hrg := Heap.get?_push_size s1.heap (o := ({ cls := .type "range", data := .fields #[.int 0 s1.toks, .int ((l.length : Nat) : Int) tn, .int 1 (s1.toks + 1)] } : Obj)) rfl
  have hfp : FpOk X pins H1 s1.heap.objs.size := I1.fpOk (Nat.le_refl _) (I1.hok.fresh (Nat.le_refl _))
  have I3 := I2.pinned (fp := [s1.heap.objs.size]) (fun b hb => by rw [List.mem_singleton.mp hb]; exact hfp) (fun b hb => by rw [List.mem_singleton.mp hb]; exact ⟨_, hrg, fun v z => by cases z⟩)
  refine Calls.spliced_nil ?_
  show wpAny _ _ (evalAll [do let v ← eval (.Lambda params (.Subscript (.Name b p1) (.Name a p2) p3) scope lpos) X.env; standAt pos; pure v]) _ _ _
  refine wpAny_evalAll_cons (wpAny_bind (LamX.lam_make2 I3 TB hcode hmT hu hT hdef (fun y hy ef => I3.ok.has _ (.inl (hfr y hy ef))) fun f c' pm ctv H2 s2 I4 eN T2 hf hfn hff hco' => wpAny_bind (wpAny_standAt (wpAny_pure (wpAny_evalAll_nil ?_)))))
  have hrg2 : s2.heap.get? s1.heap.objs.size = some ({ cls := .type "range", data := .fields #[.int 0 s1.toks, .int ((l.length : Nat) : Int) tn, .int 1 (s1.toks + 1)] } : Obj) := (I4.pin (s1.heap.objs.size, _) (List.mem_append_right _ (List.mem_append_right _ (mem_pinsAt (List.mem_singleton.mpr rfl) hrg)))).1
  have I5 : Inv X pins σ H2 s2 := I4.pins_of fun p hp => I4.pin p (List.mem_append_right _ (List.mem_append_left _ hp))
  have hp2 : H2 p = some (.lst (l.map V.str)) := eN _ _ hp fun ps z => by cases z
  obtain ⟨its, rv, pl, hzz⟩ := I5.list (SqL.of hp2)
  obtain ⟨cn, hcn⟩ : ∃ cn, X.env.cells.lookup b = some cn := I5.ok.has _ (.inl hvb)
  have hcell2 : s2.heap.IsCell cn (some (.ref p)) := by
    obtain ⟨m, hn, hl⟩ := I5.loc
    obtain ⟨u, ru, q⟩ := hl i b (.ref p) hN hi (.inr (.inl hvb))
    obtain rfl : u = Value.ref p := ru
    rcases q with ⟨q, _⟩ | ⟨_, c2, hc2, q⟩
    · have q : X.env.scope.names.lookup b = some .local := q
      rw [hvb] at q
      cases q
    · rw [hcn] at hc2
      cases hc2
      exact q
  have hcl : (cloFrom X.env.cells scope.names []).lookup b = some cn := by
    have hy : (b, NameKind.free) ∈ scope.names := PySem.mem_of_lookup hb
    obtain ⟨c2, h2⟩ := mem_lookup (cloFrom_has (cells := X.env.cells) (acc := []) hy)
    rw [h2]
    rcases cloFrom_mem (PySem.mem_of_lookup h2) with hm | ⟨h1, h3⟩
    · cases hm
    · rw [h3, hcn]
      rfl
  obtain ⟨⟨oc, vs, t, hoc, hdat, hvc⟩, _, _⟩ := I5.hok c' _ hco'
  have hroom := (hr.mono hk)
  have hr2 : Room 1 X.A.in1.in1 := hroom.in1.in1
  refine K15z.sorted_range_key (n := l.length) (fun j => .str (l.getD j Str.empty)) (I5.ok.hd hc) hrg2 hz (PySem.W.AllAlike.of (enc := fun j => PyData.str (l.getD j Str.empty)) fun _ _ => by simp [PySem.W.alike, PySem.W.alikeAll]) (PySem.W.Sortable.others (enc := fun j => PyData.str (l.getD j Str.empty)) fun _ => ⟨(fun z => nomatch z), (fun _ z => nomatch z)⟩) (fun x hx => ?_) (fun x q hx h tk kp => ?_) fun out cc h1 h' tk k1 k2 hD hlen eo => ?_
  · have := hr2.units0
    show X.A.units + 2 + _ < _
    simpa [PyData.depth] using this
  · have hxl : x < its.length := by rw [← rv.length, List.length_map]; exact hx
    have hgx : (l.map V.str)[x]? = some (.str (l.getD x Str.empty)) := by
      rw [List.getElem?_map, List.getElem?_eq_getElem hx, List.getD_eq_getElem?_getD, List.getElem?_eq_getElem hx]
      rfl
    obtain ⟨u, hu', ru⟩ := rv.get hgx
    obtain ⟨tz, rfl⟩ := ru
    refine K15z.lam_item (s := { s2 with heap := h, toks := tk }) hr2.depth (kp _ _ hf) hsk hco hgen hcell ha hb hcl (hcell2.keeps kp) (its := its.toArray) (by obtain ⟨o, ho, r⟩ := pl.isList; exact ⟨o, kp _ _ ho, r⟩) (x := x) (z := l.getD x Str.empty) (by simpa using hu') (by omega) ⟨c', oc, vs, t, rfl, kp _ _ hoc, hdat, hvc⟩ (fun u => hbind _ _ _ _ _ u) (I5.nolimit.keeps kp) hda hdb hdc
  · have I6 : Inv X pins σ H2 { s2 with heap := h1, toks := tk } := I5.kept k1
    have eqs : PySem.W.dataLe false (fun j => PyData.str (l.getD j Str.empty)) = fun i j => decide ((l.getD i Str.empty).cps.toList ≤ (l.getD j Str.empty).cps.toList) := PySem.W.dataLe_str _
    rw [eqs] at eo
    have rv2 : Vals ((sortBy l).map fun n => V.int ((n : Nat) : Int)) out := by
      have : ∀ (us : List Value) (ns : List Nat), PySem.W.EachIs (fun v (x : Nat) => ∃ t, v = Value.int (x : Int) t) us ns → Vals (ns.map fun n => V.int ((n : Nat) : Int)) us := by
        intro us ns e
        induction e with
        | nil => exact .nil
        | cons r _ ih => exact .cons r ih
      exact this _ _ eo
    have hl2 : ((sortBy l).map fun n => V.int ((n : Nat) : Int)).length = l.length := by rw [rv2.length]; exact hlen
    refine ⟨.ref h1.objs.size, upd H2 h1.objs.size (.lst ((sortBy l).map fun n => V.int ((n : Nat) : Int))), I6.laid (t' := tk) k2 (Nat.le_refl _) (show ObjOk X.prog X.w _ _ _ (.lst _) from ⟨?_, out, cc, rv2, hD⟩), rfl, q _ _ eN T2 (I6.hok.fresh (Nat.le_refl _))⟩
    rw [hl2, sizeLine_eq]
    omega
end K15

/-! part DC -/
set_option Elab.async false
set_option linter.all false
set_option maxRecDepth 100000
set_option maxHeartbeats 1000000
namespace K15
open PySem PySem.Spec PyProof.Rows L2 RZ
/-! ### steps by a word -/
local macro_rules | `(tactic| walk_at "ov") => `(tactic| first
  | with_reducible exact ov_eqS
  | with_reducible exact ov_eqI
  | with_reducible exact ov_neS
  | with_reducible exact ov_neI
  | with_reducible exact ov_neB
  | with_reducible exact ov_ltS
  | with_reducible exact ov_inS
  | with_reducible exact ov_I0 (fun _ => Dt.int _)
  | with_reducible exact ov_I0 (fun _ => Dt.bl _))
local macro_rules | `(tactic| walk_at "ev") => `(tactic| first
  | with_reducible exact evd_i
  | with_reducible exact evd_s
  | with_reducible exact evd_b
  | with_reducible exact evd_n
  | ((with_reducible refine' evd_var (by assumption) ?hv); (case hv => rfl))
  | with_reducible assumption
  | ((with_reducible refine' evd_op ?ha ?hb ?hr); (case ha => walk_at "ev"); (case hb => walk_at "ev"); (case hr => walk_at "ov"))
  | ((with_reducible refine' evd_and ?ha (fun hc => ?hb)); (case ha => walk_at "ev"); (case hb => walk_at "ev"))
  | ((with_reducible refine' evd_or ?ha (fun hc => ?hb)); (case ha => walk_at "ev"); (case hb => walk_at "ev"))
  | ((with_reducible refine' evd_not ?ha); (case ha => walk_at "ev"))
  | ((with_reducible refine' evd_isi ?ha ?hb); (case ha => walk_at "ev"); (case hb => first | exact kb_ii | exact kb_ib | exact kb_ss | exact kb_tt))
  | ((with_reducible refine' evd_tup ?ha ?hb); (case ha => walk_at "ea"); (case hb => first | decide | (simp only [List.length_cons, List.length_nil]; omega)))
  | ((with_reducible refine' evd_chain ?ha ?hb ?hc ?h1 ?h2); (case ha => walk_at "ev"); (case hb => walk_at "ev"); (case hc => walk_at "ev"); (case h1 => walk_at "ov"); (case h2 => walk_at "ov"))
  | ((with_reducible refine' evd_cb ?ha ?hb); (case ha => walk_at "ea"); (case hb => first | with_reducible exact cv_len | with_reducible exact cv_max2 | with_reducible exact cv_int1 | ((with_reducible refine' cv_lenS ?hz); (case hz => omega))))
  | ((with_reducible refine' evd_c1 _ ?hp ?ha); (case ha => walk_at "ea"); (case hp => first | exact True.intro | assumption | (show _ ≤ _; omega))))
local macro_rules | `(tactic| walk_at "ea") => `(tactic| first
  | with_reducible exact eva_nil
  | ((with_reducible refine' eva_cons ?ha ?hb); (case ha => walk_at "ev"); (case hb => walk_at "ea")))
local macro_rules | `(tactic| walk_at "et") => `(tactic| first
  | with_reducible assumption
  | ((with_reducible refine' evt_test ?ha); (case ha => walk_at "ev"))
  | ((with_reducible refine' evt_B ?ha); (case ha => walk_at "ev"))
  | ((with_reducible refine' evt_and ?ha (fun hc => ?hb)); (case ha => walk_at "et"); (case hb => walk_at "et"))
  | ((with_reducible refine' evt_or ?ha (fun hc => ?hb)); (case ha => walk_at "et"); (case hb => walk_at "et"))
  | ((with_reducible refine' evt_not ?ha); (case ha => walk_at "et")))

local macro_rules | `(tactic| walk_at "wk") => `(tactic| first
  | exact Weak.nil
  | ((refine' Weak.keep ?h); (case h => walk_at "wk"))
  | ((refine' Weak.drop ?h); (case h => walk_at "wk")))

section
variable {P : Program} {w : World} {K : PySem.W.Frag} {mg : Str → Option Value} {base : Heap}
/-! ### methods -/
structure Md (K : PySem.W.Frag) (nm qual : Str) (st : Stmt) (f : Addr) : Prop where
  ex : ∃ fd, FunD K nm qual (defArgs st) (defBody st) (defScope st) [] [] f fd
theorem fo_any {k : Nat} {nm qual : Str} {st : Stmt} {f : Addr} {N ps : List Str} {sp : Sp} (F : Md K nm qual st f) (S : FnScope N ps (defScope st))
    (hb : ∀ (kV doc pm : Value) (an : Option Addr) (cdv ct : Value) (us : List Value), us.length = ps.length → bindArgs (PySem.W.fnOf nm qual (defArgs st) (defBody st) (defScope st) .none kV doc pm an cdv ct) ⟨us, []⟩ = pure (ps.zip us))
    (len : ∀ vs H Q E, sp vs H Q E → vs.length = ps.length)
    (hbody : ∀ (cdv : Value) (A : Around) (outer : List Env) (s : Shared) (H : Hp) (vs : List V) (Q : VK) (E : XK), Room k (A.deeper (envOfC qual (defScope st) s.heap.objs.size f cdv)) → sp vs H Q E →
      ∃ t, PSs (cxOf CX0 P w K mg base N qual (defScope st) f cdv A outer s H E).nox (defBody st) t ∧ t { nx := fun _ H' => Q .non H', rt := Q } (L2.start N vs) H) : ∃ fd, FnOk P w K mg base CX0 (k + 1) f fd ps sp ∧ Binds K fd ps [] := by
  obtain ⟨fd, F⟩ := F.ex
  refine ⟨fd, F.ok S len fun cdv A outer s H vs Q E hr h => ?_, F.bindsN hb⟩
  obtain ⟨t, a, b⟩ := hbody cdv A outer s H vs Q E hr h
  exact ⟨t, a.nox, b⟩
theorem fr_any {k : Nat} {nm qual : Str} {st : Stmt} {f : Addr} {N ps : List Str} {sp : Sp} (F : Md K nm qual st f) (S : FnScope N ps (defScope st))
    (hb : ∀ (kV doc pm : Value) (an : Option Addr) (cdv ct : Value) (us : List Value), us.length = ps.length → bindArgs (PySem.W.fnOf nm qual (defArgs st) (defBody st) (defScope st) .none kV doc pm an cdv ct) ⟨us, []⟩ = pure (ps.zip us))
    (len : ∀ vs H Q E, sp vs H Q E → vs.length = ps.length)
    (hbody : ∀ (cdv : Value) (A : Around) (outer : List Env) (s : Shared) (H : Hp) (vs : List V) (Q : VK) (E : XK), Room k (A.deeper (envOfC qual (defScope st) s.heap.objs.size f cdv)) → sp vs H Q E →
      ∃ t, PSs (cxOf CX0 P w K mg base N qual (defScope st) f cdv A outer s H E).nox (defBody st) t ∧ t { nx := fun _ H' => Q .non H', rt := Q } (L2.start N vs) H) : FnR P w K mg base CX0 (k + 1) f sp := by
  obtain ⟨fd, O, B⟩ := fo_any F S hb len hbody
  exact (O.raw B .nil).imp fun vs H Q E h => by rw [List.append_nil]; exact h
/-! ### boxes -/
/-- the box of the class C at x has the machine M -/
def BoxAt (K : PySem.W.Frag) (H : Hp) (x C : Addr) (M : Mc) : Prop := ∃ dx v, H x = some (.ins C dx [("own_machine", v)]) ∧ Dt K H v (eM M)
theorem BoxAt.im {H H' : Hp} {x C : Addr} {M : Mc} (e : Im H H') (h : BoxAt K H x C M) : BoxAt K H' x C M := let ⟨dx, v, a, b⟩ := h; ⟨dx, v, e.i _ _ _ _ a, Dt.im e _ _ b⟩
theorem BoxAt.mono {H H' : Hp} {x C : Addr} {M : Mc} (e : Same H H') (h : BoxAt K H x C M) : BoxAt K H' x C M := h.im (im_same e)
/-- all but x is kept -/
def Bt (x : Addr) (H H' : Hp) : Prop := ∀ b u, b ≠ x → H b = some u → H' b = some u
theorem Bt.tup {x C dx : Addr} {fs : List (Str × V)} {H H' : Hp} (e : Bt x H H') (hx : H x = some (.ins C dx fs)) : ∀ b xs, Rd H b (.tup xs) → Rd H' b (.tup xs) := fun b xs r => by
  have nb : b ≠ x := by
    rintro rfl
    rcases r with r | ⟨o, r⟩ <;> rw [hx] at r <;> cases r
  rcases r with r | ⟨o, r⟩
  · exact .inl (e _ _ nb r)
  · exact .inr ⟨o, e _ _ nb r⟩
theorem Bt.dt {x C dx : Addr} {fs : List (Str × V)} {H H' : Hp} (e : Bt x H H') (hx : H x = some (.ins C dx fs)) {d : PyData} {v : V} (h : Dt K H v d) : Dt K H' v d := Dt.imT (e.tup hx) _ _ h
/-- what the classes of boxes have in common -/
structure Bc (K : PySem.W.Frag) (C : Addr) : Prop where
  cls : Cls K C
  om : NoAttr K C "own_machine"
abbrev s_Box___init__ : Stmt := inClass (top 61) 0
theorem sc_Box___init__ : FnScope ["self", "machine"] ["self", "machine"] (defScope s_Box___init__) := ⟨rfl, rfl, rfl, by decide +kernel, rfl, by decide +kernel, by decide +kernel⟩
def SpInit (K : PySem.W.Frag) : Sp := fun vs H Q _ => ∃ x v C dx M, vs = [.ref x, v] ∧ Bc K C ∧ H x = some (.ins C dx []) ∧ Dt K H v (eM M) ∧ Wf M ∧ ∀ H', Bt x H H' → BoxAt K H' x C (walkedM M) → Q .non H'
theorem fn_init {f : Addr} (F : Md K "__init__" "Box.__init__" s_Box___init__ f) (T : Top mg) (d_lets_machine : Df P w K mg base 6 "lets_machine" (SpLetsMachine K)) (d_walked : Df P w K mg base 2 "walked" (SpWalked K)) : FnR P w K mg base CX0 7 f (SpInit K) := by
  refine fr_any F sc_Box___init__ (fun _ _ _ _ _ _ us hl => match us, hl with | [_, _], _ => rfl) (fun vs H Q E ⟨_, _, _, _, _, h, _⟩ => by rw [h]; rfl) (fun cdv A outer s H vs Q E hr h => ?_)
  refine ⟨_, (pss_cons (ps_expr (pe_d d_lets_machine hr (by decide) rfl (pa_cons (pv 1) pa_nil)))
      (pss_one (ps_fld (pv 0) (pe_d d_walked hr (by decide) rfl (pa_cons (pv 1) pa_nil)) rfl))), ?_⟩
  obtain ⟨x, v, C, dx, M, rfl, hc, hx, hv, hw, k⟩ := h
  have a : At K (.of H) [.v (.ref x), .d (eM M)] [] (L2.start ["self", "machine"] [.ref x, v]) H := ⟨Same.refl _, ⟨rfl, hv, True.intro⟩, Own.nil, True.intro⟩
  refine' q_drop a (evd_c1 M hw (eva_cons (evd_var a rfl) eva_nil)) fun H1 a1 => ?_
  show tCallR _ _ _ _ _
  refine' evd_c1 M hw (eva_cons (evd_var a1 rfl) eva_nil) H1 (Same.refl _) _ fun u H2 e2 hu => ?_
  have hx2 : H2 x = some (.ins C dx []) := e2 _ _ (a1.sm _ _ hx)
  refine ⟨.ref x, (a1.up e2).env.val (i := 0) rfl, x, C, dx, [], rfl, hx2, hc.cls, hc.om, by decide, ?_⟩
  have b2 : Bt x H2 (upd H2 x (.ins C dx (putF "own_machine" u []))) := fun b o nb e => by rw [upd_ne nb]; exact e
  refine k _ (fun b o nb e => b2 b o nb (e2 _ _ (a1.sm _ _ e))) ⟨dx, u, upd_same, b2.dt hx2 hu⟩
end
end K15

/-! part DD -/
set_option Elab.async false
set_option linter.all false
set_option maxRecDepth 100000
set_option maxHeartbeats 1000000
namespace K15
open PySem PySem.Spec PyProof.Rows L2 RZ
/-! ### steps by a word -/
local macro_rules | `(tactic| walk_at "ov") => `(tactic| first
  | with_reducible exact ov_eqS
  | with_reducible exact ov_eqI
  | with_reducible exact ov_neS
  | with_reducible exact ov_neI
  | with_reducible exact ov_neB
  | with_reducible exact ov_ltS
  | with_reducible exact ov_inS
  | with_reducible exact ov_I0 (fun _ => Dt.int _)
  | with_reducible exact ov_I0 (fun _ => Dt.bl _))
local macro_rules | `(tactic| walk_at "ev") => `(tactic| first
  | with_reducible exact evd_i
  | with_reducible exact evd_s
  | with_reducible exact evd_b
  | with_reducible exact evd_n
  | ((with_reducible refine' evd_var (by assumption) ?hv); (case hv => rfl))
  | with_reducible assumption
  | ((with_reducible refine' evd_op ?ha ?hb ?hr); (case ha => walk_at "ev"); (case hb => walk_at "ev"); (case hr => walk_at "ov"))
  | ((with_reducible refine' evd_and ?ha (fun hc => ?hb)); (case ha => walk_at "ev"); (case hb => walk_at "ev"))
  | ((with_reducible refine' evd_or ?ha (fun hc => ?hb)); (case ha => walk_at "ev"); (case hb => walk_at "ev"))
  | ((with_reducible refine' evd_not ?ha); (case ha => walk_at "ev"))
  | ((with_reducible refine' evd_isi ?ha ?hb); (case ha => walk_at "ev"); (case hb => first | exact kb_ii | exact kb_ib | exact kb_ss | exact kb_tt))
  | ((with_reducible refine' evd_tup ?ha ?hb); (case ha => walk_at "ea"); (case hb => first | decide | (simp only [List.length_cons, List.length_nil]; omega)))
  | ((with_reducible refine' evd_chain ?ha ?hb ?hc ?h1 ?h2); (case ha => walk_at "ev"); (case hb => walk_at "ev"); (case hc => walk_at "ev"); (case h1 => walk_at "ov"); (case h2 => walk_at "ov"))
  | ((with_reducible refine' evd_cb ?ha ?hb); (case ha => walk_at "ea"); (case hb => first | with_reducible exact cv_len | with_reducible exact cv_max2 | with_reducible exact cv_int1 | ((with_reducible refine' cv_lenS ?hz); (case hz => omega))))
  | ((with_reducible refine' evd_c1 _ ?hp ?ha); (case ha => walk_at "ea"); (case hp => first | exact True.intro | assumption | (show _ ≤ _; omega))))
local macro_rules | `(tactic| walk_at "ea") => `(tactic| first
  | with_reducible exact eva_nil
  | ((with_reducible refine' eva_cons ?ha ?hb); (case ha => walk_at "ev"); (case hb => walk_at "ea")))
local macro_rules | `(tactic| walk_at "et") => `(tactic| first
  | with_reducible assumption
  | ((with_reducible refine' evt_test ?ha); (case ha => walk_at "ev"))
  | ((with_reducible refine' evt_B ?ha); (case ha => walk_at "ev"))
  | ((with_reducible refine' evt_and ?ha (fun hc => ?hb)); (case ha => walk_at "et"); (case hb => walk_at "et"))
  | ((with_reducible refine' evt_or ?ha (fun hc => ?hb)); (case ha => walk_at "et"); (case hb => walk_at "et"))
  | ((with_reducible refine' evt_not ?ha); (case ha => walk_at "et")))

local macro_rules | `(tactic| walk_at "wk") => `(tactic| first
  | exact Weak.nil
  | ((refine' Weak.keep ?h); (case h => walk_at "wk"))
  | ((refine' Weak.drop ?h); (case h => walk_at "wk")))

section
variable {P : Program} {w : World} {K : PySem.W.Frag} {mg : Str → Option Value} {base : Heap}
/-! ### the properties -/
theorem evd_fldS {σ : L2.St} {H : Hp} {B : Base} {Γ : List Sl} {Θ : List (Addr × Ob)} {i : Nat} {x C : Addr} {M : Mc} (a : At K B Γ Θ σ H) (hi : Γ[i]? = some (.v (.ref x))) (hc : Bc K C) (hx : BoxAt K H x C M) : EvD K (tFld K (tVar i) "own_machine") σ H (eM M) := fun H1 e Q q => by
  obtain ⟨dx, v, h1, h2⟩ := hx.mono e
  exact ⟨.ref x, a.env.val hi, x, C, dx, _, v, rfl, h1, hc.cls, hc.om, rfl, q v H1 (Same.refl _) h2⟩
def SpGetM (K : PySem.W.Frag) (C : Addr) : Sp := fun vs H Q _ => ∃ x M, vs = [.ref x] ∧ BoxAt K H x C M ∧ ∀ v H', Same H H' → Dt K H' v (eM M) → Q v H'
def SpGetL (K : PySem.W.Frag) (C : Addr) : Sp := fun vs H Q _ => ∃ x M, vs = [.ref x] ∧ BoxAt K H x C M ∧ ∀ v H', Same H H' → Dt K H' v (eL M.L) → Q v H'
abbrev s_Box_machine : Stmt := inClass (top 61) 3
theorem sc_Box_machine : FnScope ["self"] ["self"] (defScope s_Box_machine) := ⟨rfl, rfl, rfl, by decide +kernel, rfl, by decide +kernel, by decide +kernel⟩
abbrev s_Box_letters : Stmt := inClass (top 61) 4
theorem sc_Box_letters : FnScope ["self"] ["self"] (defScope s_Box_letters) := ⟨rfl, rfl, rfl, by decide +kernel, rfl, by decide +kernel, by decide +kernel⟩
theorem fo_machine {f C : Addr} (hc : Bc K C) (F : Md K "machine" "Box.machine" s_Box_machine f) : ∃ fd, FnOk P w K mg base CX0 1 f fd ["self"] (SpGetM K C) ∧ Binds K fd ["self"] [] := by
  refine fo_any F sc_Box_machine (fun _ _ _ _ _ _ us hl => match us, hl with | [_], _ => rfl) (fun vs H Q E ⟨_, _, h, _⟩ => by rw [h]; rfl) (fun cdv A outer s H vs Q E hr h => ?_)
  refine ⟨_, (pss_one (ps_ret (pe_fld (pv 0) rfl))), ?_⟩
  obtain ⟨x, M, rfl, hx, k⟩ := h
  have a : At K (.of H) [.v (.ref x)] [] (L2.start ["self"] [.ref x]) H := ⟨Same.refl _, ⟨rfl, True.intro⟩, Own.nil, True.intro⟩
  exact f_ret a (evd_fldS a rfl hc hx) k
theorem fo_letters {f C : Addr} (hc : Bc K C) (F : Md K "letters" "Box.letters" s_Box_letters f) : ∃ fd, FnOk P w K mg base CX0 1 f fd ["self"] (SpGetL K C) ∧ Binds K fd ["self"] [] := by
  refine fo_any F sc_Box_letters (fun _ _ _ _ _ _ us hl => match us, hl with | [_], _ => rfl) (fun vs H Q E ⟨_, _, h, _⟩ => by rw [h]; rfl) (fun cdv A outer s H vs Q E hr h => ?_)
  refine ⟨_, (pss_one (ps_ret (pe_ix (ix_tup' K (by rfl)) (pe_fld (pv 0) rfl) pe_int (fun _ _ => rfl)))), ?_⟩
  obtain ⟨x, M, rfl, hx, k⟩ := h
  have a : At K (.of H) [.v (.ref x)] [] (L2.start ["self"] [.ref x]) H := ⟨Same.refl _, ⟨rfl, True.intro⟩, Own.nil, True.intro⟩
  exact f_ret a (evd_ix0 (evd_fldS a rfl hc hx)) k
theorem evd_propM {σ : L2.St} {H : Hp} {i : Nat} {x C : Addr} {M : Mc} {ta : TE} (ha : EvV ta σ H (.ref x)) (hx : BoxAt K H x C M) : EvD K (tProp C (SpGetM K C) [] E0 ta) σ H (eM M) := fun H1 e Q q => ha H1 e _ fun H2 e2 => by
  obtain ⟨dx, v, h1, h2⟩ := hx.mono (e.trans e2)
  exact ⟨x, dx, _, rfl, h1, x, M, rfl, ⟨dx, v, h1, h2⟩, fun v H3 e3 h3 => q v H3 (e2.trans e3) h3⟩
theorem evd_propL {σ : L2.St} {H : Hp} {i : Nat} {x C : Addr} {M : Mc} {ta : TE} (ha : EvV ta σ H (.ref x)) (hx : BoxAt K H x C M) : EvD K (tProp C (SpGetL K C) [] E0 ta) σ H (eL M.L) := fun H1 e Q q => ha H1 e _ fun H2 e2 => by
  obtain ⟨dx, v, h1, h2⟩ := hx.mono (e.trans e2)
  exact ⟨x, dx, _, rfl, h1, x, M, rfl, ⟨dx, v, h1, h2⟩, fun v H3 e3 h3 => q v H3 (e2.trans e3) h3⟩
/-- the class C, or one above it, has the property f, its getter of such a promise -/
structure Pr (P : Program) (w : World) (K : PySem.W.Frag) (mg : Str → Option Value) (base : Heap) (C : Addr) (f : Str) (sp : Sp) : Prop where
  ex : ∃ (p g : Addr) (fd : FuncData), PropOf K C f p g ∧ FnOk P w K mg base CX0 1 g fd ["self"] sp ∧ Binds K fd ["self"] []
theorem pe_pr {X : Cx} {C : Addr} {f : Str} {sp : Sp} {e : Expr} {ta : TE} {pos : Pos} {j : Nat} (p : Pr X.prog X.w X.K X.mg X.base C f sp) (hc : Bc X.K C) (hr : Room j X.A) (hj : 2 ≤ j) (he : PE X e ta) (hab : attributeBase e f X.env (eval e X.env) = eval e X.env) : PE X (.Attribute e f pos) (tProp C sp [] E0 ta) := by
  obtain ⟨q, g, fd, h1, h2, h3⟩ := p.ex
  exact pe_prop he hc.cls h1 h2 (hr.mono hj) h3 .nil pass0 hab
/-! ### x in a box -/
abbrev s_Box___contains__ : Stmt := inClass (top 61) 8
theorem sc_Box___contains__ : FnScope ["self", "thing", "letter"] ["self", "thing"] (defScope s_Box___contains__) := ⟨rfl, rfl, rfl, by decide +kernel, rfl, by decide +kernel, by decide +kernel⟩
def SpCont (K : PySem.W.Frag) (C : Addr) : Sp := fun vs H Q _ => ∃ x s M, vs = [.ref x, .str s] ∧ M.L.length ≤ 1000 ∧ BoxAt K H x C M ∧ ∀ H', Same H H' → Q (.bl (decide (s ∈ M.L))) H'
theorem fn_contains {f C : Addr} (hc : Bc K C) (T : Top mg) (F : Md K "__contains__" "Box.__contains__" s_Box___contains__ f) (p_letters : Pr P w K mg base C "letters" (SpGetL K C)) : FnR P w K mg base CX0 3 f (SpCont K C) := by
  refine fr_any F sc_Box___contains__ (fun _ _ _ _ _ _ us hl => match us, hl with | [_, _], _ => rfl) (fun vs H Q E ⟨_, _, _, h, _⟩ => by rw [h]; rfl) (fun cdv A outer s H vs Q E hr h => ?_)
  refine ⟨_, (pss_one (ps_ret (pe_callB (c_any' K (by rfl) rfl) (by rfl) T.any_ (by decide +kernel) (pa_cons (pe_lc (own := [("letter", 2)]) rfl sc_Box___contains__.nd (pi_tup' K (by rfl) (pe_pr p_letters hc hr (by decide) (pe_var (i := 0) rfl (by first | exact Or.inl rfl | exact Or.inr (Or.inl rfl))) rfl)) (blkOk_by (N := ["self", "thing", "letter"]) (sc := defScope s_Box___contains__) (by decide +kernel)) (fun _ _ _ _ _ => by exact (pg_name (i := 2) sc_Box___contains__.nd rfl (by first | exact Or.inl rfl | exact Or.inr rfl))) (fun _ _ _ _ _ => pts_nil) (fun _ _ _ _ _ => by exact (pe_cmpR op_eq (pv 2) (pv 1) (nomark _)))) pa_nil)))), ?_⟩
  obtain ⟨x, t, M, rfl, hz, hx, k⟩ := h
  have a : At K (.of H) [.v (.ref x), .d (.str t), .o] [] (L2.start ["self", "thing", "letter"] [.ref x, .str t]) H := ⟨Same.refl _, ⟨rfl, .str t, True.intro, True.intro⟩, Own.nil, True.intro⟩
  refine f_ret a (EvD.is (evd_any (p := fun l => decide (l = t)) (evl_lcn (l := M.L) (en := .str) _ a (src_tup (evd_propL (i := 0) (evv_var a rfl) hx)) (Nat.le_trans hz (by decide)) ?h2 fun l σ' H2 hm a2 => ?h3)) (d' := .bool (decide (t ∈ M.L))) ?h4) fun v H' e hv => ?_
  case h2 => decide
  case h3 => walk_at "ev"
  case h4 =>
    congr 1
    rw [Bool.eq_iff_iff]
    simp [List.any_eq_true]
  · rw [hv.bl_inv]
    exact k H' e
/-! ### x == y -/
abbrev s_Box___eq__ : Stmt := inClass (top 61) 13
theorem sc_Box___eq__ : FnScope ["self", "other"] ["self", "other"] (defScope s_Box___eq__) := ⟨rfl, rfl, rfl, by decide +kernel, rfl, by decide +kernel, by decide +kernel⟩
def SpEq (K : PySem.W.Frag) (CB : Addr) : Sp := fun vs H Q _ => ∃ x y C M N, vs = [.ref x, .ref y] ∧ Bc K C ∧ Wf M ∧ Wf N ∧ BoxAt K H x C M ∧ BoxAt K H y CB N ∧ ∀ H', Same H H' → Q (.bl (PyData.eqv (eM M) (eM N))) H'
theorem evd_isC {σ : L2.St} {H : Hp} {ta : TE} {y CB : Addr} {N : Mc} (ha : EvV ta σ H (.ref y)) (hy : BoxAt K H y CB N) :
    EvD K (tCB (fun xs H Q => ∃ a dx fs, xs = [.ref a, .ref CB] ∧ H a = some (.ins CB dx fs) ∧ Q (.bl true) H) (tCons ta (tCons (tC (.ref CB)) tNil))) σ H (.bool true) := fun H1 e Q q => ha H1 e _ fun H2 e2 => by
  obtain ⟨dx, v, h1, h2⟩ := hy.mono (e.trans e2)
  exact ⟨y, dx, _, rfl, h1, q _ H2 e2 (.bl true)⟩
theorem fn_eq {f CB : Addr} (hc : Bc K CB) (ic : C8.InsC K CB) (T : Top mg) (g_Box : mg "Box" = some (.ref CB)) (F : Md K "__eq__" "Box.__eq__" s_Box___eq__ f) : FnR P w K mg base CX0 1 f (SpEq K CB) := by
  refine fr_any F sc_Box___eq__ (fun _ _ _ _ _ _ us hl => match us, hl with | [_, _], _ => rfl) (fun vs H Q E ⟨_, _, _, _, _, h, _⟩ => by rw [h]; rfl) (fun cdv A outer s H vs Q E hr h => ?_)
  refine ⟨_, (pss_one (ps_ret (pe_and (pe_callB (C8.call_isC ic) (by rfl) T.isinstance_ (by decide +kernel) (pa_cons (pv 1) (pa_cons (pe_glob (v := .ref _) rfl g_Box rfl) pa_nil))) (pe_one (pe_cmpR (op_eqD' K (by rfl) hr.units) (pe_fld (pv 0) rfl) (pe_fld (pv 1) rfl) (nomark _)))))), ?_⟩
  obtain ⟨x, y, C, M, N, rfl, hcC, hM, hN, hx, hy, k⟩ := h
  have a : At K (.of H) [.v (.ref x), .v (.ref y)] [] (L2.start ["self", "other"] [.ref x, .ref y]) H := ⟨Same.refl _, ⟨rfl, rfl, True.intro⟩, Own.nil, True.intro⟩
  refine f_ret a (EvD.is (evd_and (evd_isC (evv_var a rfl) hy) fun _ => evd_op (evd_fldS a rfl hcC hx) (evd_fldS a rfl hc hy) (ov_eqD (hM.sh.shaped (by decide)) (hN.sh.shaped (by decide)))) (d' := .bool (PyData.eqv (eM M) (eM N))) (by rw [Bool.true_and])) fun v H' e hv => ?_
  rw [hv.bl_inv]
  exact k H' e
/-! ### a box called -/
abbrev s_Box___call__ : Stmt := inClass (top 61) 7
theorem sc_Box___call__ : FnScope ["self", "past"] ["self", "past"] (defScope s_Box___call__) := ⟨rfl, rfl, rfl, by decide +kernel, rfl, by decide +kernel, by decide +kernel⟩
def SpCall (K : PySem.W.Frag) (C : Addr) : Sp := fun vs H Q _ => ∃ x v M rd, vs = [.ref x, v] ∧ RunOk (M, rd, 0) ∧ BoxAt K H x C M ∧ Dt K H v (eL rd) ∧ ∀ u H', Same H H' → Dt K H' u (eL (runW M rd 0)) → Q u H'
theorem fn_call {f C : Addr} (hc : Bc K C) (T : Top mg) (F : Md K "__call__" "Box.__call__" s_Box___call__ f) (d_require_letters : Df P w K mg base 1 "require_letters" (SpReqLetters K)) (d_run : Df P w K mg base 2 "run" (SpRun K)) : FnR P w K mg base CX0 3 f (SpCall K C) := by
  refine fr_any F sc_Box___call__ (fun _ _ _ _ _ _ us hl => match us, hl with | [_, _], _ => rfl) (fun vs H Q E ⟨_, _, _, _, h, _⟩ => by rw [h]; rfl) (fun cdv A outer s H vs Q E hr h => ?_)
  refine ⟨_, (pss_cons (ps_expr (pe_d d_require_letters hr (by decide) rfl (pa_cons (pe_ix (ix_tup' K (by rfl)) (pe_fld (pv 0) rfl) pe_int (fun _ _ => rfl)) (pa_cons (pv 1) pa_nil))))
      (pss_one (ps_ret (pe_callTy (c_tup' K (by rfl)) (by rfl) T.tuple_ (by decide +kernel) (pa_cons (pe_ix (ix_tup' K (by rfl)) (pe_d d_run hr (by decide) rfl (pa_cons (pe_fld (pv 0) rfl) (pa_cons (pv 1) (pa_cons pe_int pa_nil)))) pe_int (fun _ _ => rfl)) pa_nil))))), ?_⟩
  obtain ⟨x, v, M, rd, rfl, ⟨hw, hn, hz, hr⟩, hx, hv, k⟩ := h
  have a : At K (.of H) [.v (.ref x), .d (eL rd)] [] (L2.start ["self", "past"] [.ref x, v]) H := ⟨Same.refl _, ⟨rfl, hv, True.intro⟩, Own.nil, True.intro⟩
  refine' q_drop a (evd_c1 (M.L, rd) ⟨hw.le1000, hr⟩ (eva_cons (evd_ix0 (evd_fldS a rfl hc hx)) (eva_cons (evd_var a rfl) eva_nil))) fun H1 a1 => ?_
  exact f_ret a1 (evd_tupL (evl_run1 ⟨hw, hn, hz, hr⟩ (eva_cons (evd_fldS a1 rfl hc (hx.mono a1.sm)) (eva_cons (evd_var a1 rfl) (eva_cons evd_i eva_nil))))) k
end
end K15

/-! part DE -/
set_option Elab.async false
set_option linter.all false
set_option maxRecDepth 100000
set_option maxHeartbeats 1000000
namespace K15
open PySem PySem.Spec PyProof.Rows L2 RZ
/-! ### steps by a word -/
local macro_rules | `(tactic| walk_at "ov") => `(tactic| first
  | with_reducible exact ov_eqS
  | with_reducible exact ov_eqI
  | with_reducible exact ov_neS
  | with_reducible exact ov_neI
  | with_reducible exact ov_neB
  | with_reducible exact ov_ltS
  | with_reducible exact ov_inS
  | with_reducible exact ov_I0 (fun _ => Dt.int _)
  | with_reducible exact ov_I0 (fun _ => Dt.bl _))
local macro_rules | `(tactic| walk_at "ev") => `(tactic| first
  | with_reducible exact evd_i
  | with_reducible exact evd_s
  | with_reducible exact evd_b
  | with_reducible exact evd_n
  | ((with_reducible refine' evd_var (by assumption) ?hv); (case hv => rfl))
  | with_reducible assumption
  | ((with_reducible refine' evd_op ?ha ?hb ?hr); (case ha => walk_at "ev"); (case hb => walk_at "ev"); (case hr => walk_at "ov"))
  | ((with_reducible refine' evd_and ?ha (fun hc => ?hb)); (case ha => walk_at "ev"); (case hb => walk_at "ev"))
  | ((with_reducible refine' evd_or ?ha (fun hc => ?hb)); (case ha => walk_at "ev"); (case hb => walk_at "ev"))
  | ((with_reducible refine' evd_not ?ha); (case ha => walk_at "ev"))
  | ((with_reducible refine' evd_isi ?ha ?hb); (case ha => walk_at "ev"); (case hb => first | exact kb_ii | exact kb_ib | exact kb_ss | exact kb_tt))
  | ((with_reducible refine' evd_tup ?ha ?hb); (case ha => walk_at "ea"); (case hb => first | decide | (simp only [List.length_cons, List.length_nil]; omega)))
  | ((with_reducible refine' evd_chain ?ha ?hb ?hc ?h1 ?h2); (case ha => walk_at "ev"); (case hb => walk_at "ev"); (case hc => walk_at "ev"); (case h1 => walk_at "ov"); (case h2 => walk_at "ov"))
  | ((with_reducible refine' evd_cb ?ha ?hb); (case ha => walk_at "ea"); (case hb => first | with_reducible exact cv_len | with_reducible exact cv_max2 | with_reducible exact cv_int1 | ((with_reducible refine' cv_lenS ?hz); (case hz => omega))))
  | ((with_reducible refine' evd_c1 _ ?hp ?ha); (case ha => walk_at "ea"); (case hp => first | exact True.intro | assumption | (show _ ≤ _; omega))))
local macro_rules | `(tactic| walk_at "ea") => `(tactic| first
  | with_reducible exact eva_nil
  | ((with_reducible refine' eva_cons ?ha ?hb); (case ha => walk_at "ev"); (case hb => walk_at "ea")))
local macro_rules | `(tactic| walk_at "et") => `(tactic| first
  | with_reducible assumption
  | ((with_reducible refine' evt_test ?ha); (case ha => walk_at "ev"))
  | ((with_reducible refine' evt_B ?ha); (case ha => walk_at "ev"))
  | ((with_reducible refine' evt_and ?ha (fun hc => ?hb)); (case ha => walk_at "et"); (case hb => walk_at "et"))
  | ((with_reducible refine' evt_or ?ha (fun hc => ?hb)); (case ha => walk_at "et"); (case hb => walk_at "et"))
  | ((with_reducible refine' evt_not ?ha); (case ha => walk_at "et")))

local macro_rules | `(tactic| walk_at "wk") => `(tactic| first
  | exact Weak.nil
  | ((refine' Weak.keep ?h); (case h => walk_at "wk"))
  | ((refine' Weak.drop ?h); (case h => walk_at "wk")))

section
variable {P : Program} {w : World} {K : PySem.W.Frag} {mg : Str → Option Value} {base : Heap}
theorem PSsAt.nox {X : Cx} {body st : List Stmt} {t : TS} (h : PSsAt X.nox body st t) : PSsAt X body st t := ⟨fun pins s σ H D I hw => by
  have z := h.run pins s σ H D (I.wish _) hw
  exact ks_wpAt_mono z (fun _ _ q => q.unwish) fun _ _ z => False.elim z⟩
/-- an __init__ that says super().__init__: the def at f, of the class at C; the def found is at f2 -/
structure MdC (P : Program) (K : PySem.W.Frag) (mg : Str → Option Value) (nm qual : Str) (st : Stmt) (f C f2 cda : Addr) : Prop where
  ex : ∃ (cc : Addr) (oc : Value) (od : Option Addr) (kV doc pm : Value) (an : Option Addr) (ct : Value) (osl : Array (Option Value)),
    K.lookup f = some ⟨oc, od, .func (PySem.W.fnX nm qual (defArgs st) (defBody st) (defScope st) [("__class__", cc)] .none kV doc pm an (.ref cda) ct), osl⟩ ∧ ∃ c d sl, K.lookup cc = some ⟨c, d, .cell (some (.ref C)), sl⟩
  cd : PySem.W.codeIn K (.ref cda) qual = true
  code : ∃ (ccl : Value) (cdd : Option Addr) (vs : Array Value) (ccs : Array (Option Value)) (file : Str) (tf : Tok), K.lookup cda = some ⟨ccl, cdd, .fields vs, ccs⟩ ∧ vs[2]? = some (.str file tf) ∧ ((P.main.file : Str) == file) = true
  cls : ∃ cd, PySem.W.clsIn K C = some cd
  sub : PySem.W.mroIn K C (.ref C) = some true
  meth : PySem.W.ks_superIn K C C "__init__" = some (some (.ref f2))
  ty : PySem.W.typeIn K (.ref f2) = some (.type "function")
  fi : PySem.W.fnIn K f2 = true
  opq : PySem.W.nsIn K cStatics "thirdparty.any" = some none
  top : (P.main.scope.names.lookup ("super" : Str)).isSome = false
  unb : mg "super" = none
theorem sup_of {nm qual : Str} {st : Stmt} {f C f2 cc cda : Addr} {N ps : List Str} {A : Around} {outer : List Env} {s : Shared} {H : Hp} {E : XK} {oc kV doc pm ct : Value} {od an : Option Addr} {osl : Array (Option Value)} (F : MdC P K mg nm qual st f C f2 cda)
    (h1 : K.lookup f = some ⟨oc, od, .func (PySem.W.fnX nm qual (defArgs st) (defBody st) (defScope st) [("__class__", cc)] .none kV doc pm an (.ref cda) ct), osl⟩) (h2 : ∃ c d sl, K.lookup cc = some ⟨c, d, .cell (some (.ref C)), sl⟩) (S : ClScope N ps (defScope st))
    (hp : ∃ ar : Arg, ((defArgs st).posonlyargs ++ (defArgs st).args).head? = some ar ∧ ar.arg = "self") (ks : (defScope st).names.lookup ("super" : Str) = some .globalImplicit) (kc : (defScope st).names.lookup ("__class__" : Str) = some .free) (ka : (defScope st).names.lookup ("self" : Str) = some .local) :
    SupOk (cxCl CX0 P w K mg base N qual (defScope st) f (.ref cda) cc A outer s H E).nox f C f2 "self" where
  fn := let ⟨ar, e1, e2⟩ := hp; ⟨_, _, _, _, ar, h1, e1, e2⟩
  func := rfl
  code := let ⟨ccl, cdd, vs, ccs, file, tf, a, b, c⟩ := F.code; ⟨cda, ccl, cdd, vs, ccs, file, tf, rfl, a, b, c⟩
  cell := by
    obtain ⟨c, d, sl, h⟩ := h2
    refine ⟨cc, c, d, sl, ?_, h⟩
    show (cellsFrom (s.heap.objs.size + 1) (defScope st).names [] ++ [(("__class__" : Str), cc)]).lookup _ = _
    rw [List.lookup_append, S.own']
    rfl
  cls := F.cls
  sub := F.sub
  meth := F.meth
  ty := F.ty
  fi := F.fi
  opq := F.opq
  top := F.top
  unb := F.unb
  ks := ks
  kc := kc
  ka := ka
/-! ### require of the boxes -/
abbrev s_require1 : Stmt := top 59
theorem sc_require1 : FnScope ["condition", "word", "at"] ["condition", "word", "at"] (defScope s_require1) := ⟨rfl, rfl, rfl, by decide +kernel, rfl, by decide +kernel, by decide +kernel⟩
abbrev SpRequireB (K : PySem.W.Frag) : Sp := spQ K (fun _ : Str × PyData => True) (fun i => [.bool true, .str i.1, i.2]) (fun _ => .none)
theorem df_require1 (T : Top mg) (F : Fn K mg "require_boxes" "require" s_require1) : Df P w K mg base 1 "require_boxes" (SpRequireB K) := by
  refine df_pure F sc_require1 (fun _ _ _ _ _ _ us hl => match us, hl with | [_, _, _], _ => rfl) (fun _ => rfl) (fun i f cdv A outer s H σ E hp a hr => ?_)
  refine ⟨_, (pss_one (ps_if (pt_not (pt_val (pv 0))) (pss_one ps_never) pss_nil)), fun Q k => ?_⟩
  try dsimp only [List.map]
  exact s_no a (EvT.is (evt_not (evt_test (evd_var a rfl))) rfl) fun H1 a1 => k _ H1 a1.sm .non
/-! ### Quiet -/
abbrev s_Quiet : Stmt := inClass (top 67) 0
theorem sc_Quiet___init__ : ClScope ["self", "box", "words", "k", "word"] ["self", "box", "words"] (defScope s_Quiet) := ⟨rfl, rfl, rfl, by decide +kernel, rfl, by decide +kernel, by decide +kernel, by decide +kernel⟩
def SpQuiet0 (K : PySem.W.Frag) (CB CQ : Addr) : Sp := fun vs H Q _ => ∃ x b p dx M ns, vs = [.ref x, .ref b, .ref p] ∧ H x = some (.ins CQ dx []) ∧ BoxAt K H b CB M ∧ SqT K H p (ns.map V.str) ∧ ns.length ≤ 100 ∧ (∀ n ∈ ns, isNm n = true) ∧ Wf M ∧ Wf (mapW (hush ns) M) ∧
  ∀ H', Bt x H H' → BoxAt K H' x CQ (walkedM (mapW (hush ns) M)) → Q .non H'
theorem isNm_le {x : Str} (h : isNm x = true) : x.length ≤ 8 := by
  unfold isNm at h
  simp only [Bool.and_eq_true, decide_eq_true_eq] at h
  omega
theorem fn_quiet {f CB CQ fi cda : Addr} (hcB : Bc K CB) (hcQ : Bc K CQ) (T : Top mg) (F : MdC P K mg "__init__" "Quiet.__init__" s_Quiet f CQ fi cda) (Fi : FnR P w K mg base CX0 7 fi (SpInit K)) (p_machine : Pr P w K mg base CB "machine" (SpGetM K CB))
    (d_is_name : Df P w K mg base 1 "is_name" (SpIsName K)) (d_require_boxes : Df P w K mg base 1 "require_boxes" (SpRequireB K)) (d_quieted : Df P w K mg base 1 "quieted" (SpQuieted K)) :
    FnR P w K mg base CX0 8 f (fun vs H Q E => ∃ ws rest, vs = ws ++ rest ∧ ws.length = 2 ∧ rest.length ≤ sizeLine ∧ ∀ p, H p = none → SpQuiet0 K CB CQ (ws ++ [V.ref p]) (upd H p (.tup rest)) Q E) := by
  obtain ⟨cc, oc, od, kV, doc, pm, an, ct, osl, h1, h2⟩ := F.ex
  refine fn_starCl (ps := ["self", "box"]) (pv := "words") h1 F.cd h2 sc_Quiet___init__ (StX.bind_star2 (B := fun l => bindArgs (PySem.W.fnX "__init__" "Quiet.__init__" (defArgs s_Quiet) (defBody s_Quiet) (defScope s_Quiet) [("__class__", cc)] .none kV doc pm an (.ref cda) ct) ⟨l, []⟩) (fun _ _ => rfl) fun _ _ _ _ => rfl) fun A outer s H vs Q E hr h => ?_
  have S := sup_of (A := A) (outer := outer) (s := s) (H := H) (E := E) (w := w) (base := base) F h1 h2 sc_Quiet___init__ ⟨_, rfl, rfl⟩ (by decide +kernel) (by decide +kernel) (by decide +kernel)
  refine ⟨_, PSsAt.nox (pat_cons (ps_for PassesOwn.never rfl (pi_enumT K (by rfl) (by rfl) T.enumerate_ (pa_cons (pv 2) pa_nil)) (pg_pair K (by rfl) (i := 3) (j := 4) rfl sc_Quiet___init__.nd rfl rfl (by first | exact Or.inl rfl | exact Or.inr rfl) (by first | exact Or.inl rfl | exact Or.inr rfl) (by first | exact Or.inl rfl | exact Or.inr rfl) (by first | exact Or.inl rfl | exact Or.inr rfl)) (pss_one (ps_expr (pe_d d_require_boxes hr (by decide) rfl (pa_cons (pe_d d_is_name hr (by decide) rfl (pa_cons (pv 4) pa_nil)) (pa_cons pe_str (pa_cons (pv 3) pa_nil))))))) (pat_super (i := 0) S Fi hr (by decide) rfl (pa_cons (pe_d d_quieted hr (by decide) rfl (pa_cons (pe_pr p_machine hcB hr (by decide) (pv 1) rfl) (pa_cons (pv 2) pa_nil))) pa_nil))), ?_⟩
  obtain ⟨x, b, p, dx, M, ns, rfl, hx, hb, hp, hz, hn, hw, hw2, k⟩ := h
  have a : At K (.of H) [.v (.ref x), .v (.ref b), .d (eL ns), .o, .o] [] (L2.start ["self", "box", "words", "k", "word"] [.ref x, .ref b, .ref p]) H := ⟨Same.refl _, ⟨rfl, rfl, .tup hp (dtAll_strs ns), True.intro, True.intro, True.intro⟩, Own.nil, True.intro⟩
  refine' q_forS (l := (List.range ns.length).zip ns) (en := fun p => .tuple [.int (p.1 : Int), .str p.2]) (Γf := fun _ => [.v (.ref x), .v (.ref b), .d (eL ns), .o, .o]) (Θf := fun _ => []) a ?hs ?hw rfl (fun G st i y v σ5 H5 hi a5 hv => ?h1) fun σ5 H5 a5 => ?h2
  case hs =>
    rw [← enumD_map PyData.str]
    exact srcS_enumT (eva_cons (evd_var a rfl) eva_nil)
  case hw => walk_at "wk"
  case h1 =>
    refine g_pair a5 hv fun σ6 a6 => ?_
    have hm : y.2 ∈ ns := (List.of_mem_zip (List.mem_of_getElem? hi)).2
    have hnm := hn _ hm
    refine' s_drop a6 (evd_c1 (("word" : Str), PyData.int (y.1 : Int)) True.intro (eva_cons (EvD.is (evd_c1 y.2 (show y.2.length ≤ 1000 from Nat.le_trans (isNm_le hnm) (by decide)) (eva_cons (evd_var a6 rfl) eva_nil)) (by show PyData.bool (isNm y.2) = _; rw [hnm])) (eva_cons evd_s (eva_cons (evd_var a6 rfl) eva_nil)))) fun H7 a7 => a7.weak (by walk_at "wk")
  case h2 =>
    refine ⟨x, dx, [], a5.env.val (i := 0) rfl, a5.sm _ _ hx, ?_⟩
    have h5 := evd_propM (i := 1) (evv_var a5 (i := 1) rfl) (hb.mono a5.sm)
    refine eva_cons (evd_c1 (M, ns) hw (eva_cons h5 (eva_cons (evd_var a5 rfl) eva_nil))) eva_nil H5 (Same.refl _) _ fun vs H6 e6 hv => ?_
    obtain ⟨v, ev, hv2⟩ := hv.one
    subst ev
    exact ⟨x, v, CQ, dx, mapW (hush ns) M, rfl, hcQ, e6 _ _ (a5.sm _ _ hx), hv2, hw2, fun H7 b7 h7 => k H7 (fun c u nc e => b7 c u nc (e6 _ _ (a5.sm _ _ e))) h7⟩
end
end K15

/-! part DF -/
set_option Elab.async false
set_option linter.all false
set_option maxRecDepth 100000
set_option maxHeartbeats 1000000
namespace K15
open PySem PySem.Spec PyProof.Rows L2 RZ
/-! ### a dict walked by its keys: it is locked meanwhile -/
theorem SlOk.imT {K : PySem.W.Frag} {H H' : Hp} (e : ∀ b xs, Rd H b (.tup xs) → Rd H' b (.tup xs)) : ∀ {g : Sl} {s : Option V}, SlOk K H g s → SlOk K H' g s
  | .o, _, _ => True.intro
  | .d x, some v, h => Dt.imT e x v h
  | .v x, some v, h => h
  | .d _, none, h => h.elim
  | .v _, none, h => h.elim
theorem Sls.imT {K : PySem.W.Frag} {H H' : Hp} (e : ∀ b xs, Rd H b (.tup xs) → Rd H' b (.tup xs)) : ∀ {σ : L2.St} {Γ : List Sl}, Sls K H σ Γ → Sls K H' σ Γ
  | [], [], _ => True.intro
  | s :: σ, g :: Γ, h => ⟨SlOk.imT e h.1, Sls.imT e h.2⟩
  | [], _ :: _, h => h.elim
  | _ :: _, [], h => h.elim
theorem DV.imT {K : PySem.W.Frag} {H H' : Hp} (e : ∀ b xs, Rd H b (.tup xs) → Rd H' b (.tup xs)) {ks : List (Key × V)} {l : List (Key × PyData)} (h : DV K H ks l) : DV K H' ks l := by
  induction h with
  | nil => exact .nil
  | cons h1 _ ih => exact .cons ⟨h1.1, Dt.imT e _ _ h1.2⟩ ih
/-- a dict, locked or not -/
def HasR (K : PySem.W.Frag) (H : Hp) (p : Addr) (l : List (Key × PyData)) : Prop := ∃ ks, Rd H p (.dK ks) ∧ DV K H ks l
theorem HasR.mono {K : PySem.W.Frag} {H H' : Hp} {p : Addr} {l : List (Key × PyData)} (e : Same H H') (h : HasR K H p l) : HasR K H' p l := let ⟨xs, a, b⟩ := h; ⟨xs, sm_rd e a, b.im (im_same e)⟩
theorem HasK.r {K : PySem.W.Frag} {H : Hp} {p : Addr} {l : List (Key × PyData)} (h : HasK K H p l) : HasR K H p l := let ⟨xs, a, b⟩ := h; ⟨xs, .inl a, b⟩
section
variable {K : PySem.W.Frag} {σ : L2.St} {H H' : Hp} {d : Addr} {od : Obj} {ks : List (Key × V)} {l : List (Key × PyData)} {B : Base} {Γ Γ2 : List Sl} {Θ : List (Addr × Ob)} {i j : Nat} {D : Ends} {tz tbody : TS}
theorem lock_t (h : H d = some (.dK ks)) : ∀ b xs, Rd H b (.tup xs) → Rd (upd H d (.frz od (.dK ks))) b (.tup xs) := fun b xs r => by
  have nb : b ≠ d := by
    rintro rfl
    rcases r with r | ⟨o, r⟩ <;> rw [h] at r <;> cases r
  rcases r with r | ⟨o, r⟩
  · exact .inl (by rw [upd_ne nb]; exact r)
  · exact .inr ⟨o, by rw [upd_ne nb]; exact r⟩
theorem unlock_t (h : H d = some (.frz od (.dK ks))) : ∀ b xs, Rd H b (.tup xs) → Rd (upd H d (.dK ks)) b (.tup xs) := fun b xs r => by
  have nb : b ≠ d := by
    rintro rfl
    rcases r with r | ⟨o, r⟩ <;> rw [h] at r <;> cases r
  rcases r with r | ⟨o, r⟩
  · exact .inl (by rw [upd_ne nb]; exact r)
  · exact .inr ⟨o, by rw [upd_ne nb]; exact r⟩
theorem lock_sm (h : H d = some (.dK ks)) (e : Same (upd H d (.frz od (.dK ks))) H') : Same H (upd H' d (.dK ks)) := fun b u r => by
  by_cases nb : b = d
  · subst nb
    rw [h] at r
    cases r
    exact upd_same
  · rw [upd_ne nb]
    exact e _ _ (by rw [upd_ne nb]; exact r)
theorem lock_im (h : H d = some (.dK ks)) : Im H (upd H d (.frz od (.dK ks))) := im_upd fun o e => by
  rw [h] at e
  cases e
  exact True.intro
theorem walk_keysD {o : Obj} : Walk (Itk d o ks) ks.length (fun H => H d = some (.frz o (.dK ks)) ∧ DV K H ks l) (Yd K (l.map fun p => keyD p.1)) := by
  refine ⟨fun i H hi q => ⟨q.1, hi⟩, fun H q => ⟨q.1, Nat.le_refl _⟩, fun i H x H' hi q y => ?_⟩
  obtain ⟨rfl, k, v, hk, rfl⟩ := y
  refine ⟨Same.refl _, keyD k, ?_, keyD_dt k⟩
  have hkeys := q.2.keys
  have e1 : (ks.map (·.1))[i]? = some k := by rw [List.getElem?_map, hk]; rfl
  rw [hkeys, List.getElem?_map] at e1
  rw [List.getElem?_map]
  cases z : l[i]? with
  | none => rw [z] at e1; cases e1
  | some p =>
    rw [z] at e1
    have : p.1 = k := Option.some.inj e1
    show some (keyD p.1) = _
    rw [this]
/-- for k in d: .., a body that changes nothing -/
theorem s_keys (a : At K B Γ Θ σ H) (hi : Γ[i]? = some (.v (.ref d))) (hd : HasK K H d l) (hw : Weak Γ Γ2)
    (hs : ∀ (od : Obj) ks, H d = some (.dK ks) → ∀ x ∈ l, ∀ σ' H' D', At K (.of (upd H d (.frz od (.dK ks)))) (Γ2.set j (.d (keyD x.1))) [] σ' H' → HasR K H' d l → tbody (Tn K (.of (upd H d (.frz od (.dK ks)))) Γ2 [] D') σ' H')
    (hk : ∀ σ' H', At K B Γ2 Θ σ' H' → D.nx σ' H') : tLock (tFor (iKeys (tVar i)) (gName j) tbody) D σ H := by
  obtain ⟨ks, hx, hv⟩ := hd
  refine ⟨d, .dK ks, hx, True.intro, fun od => ?_⟩
  have ho : (upd H d (.frz od (.dK ks))) d = some (.frz od (.dK ks)) := upd_same
  refine ⟨.ref d, a.env.val hi, d, od, rfl, .inl ⟨ks, ho, ?_⟩⟩
  have a0 : At K (.of (upd H d (.frz od (.dK ks)))) Γ2 [] σ (upd H d (.frz od (.dK ks))) := ⟨Same.refl _, Sls.imT (lock_t hx) (hw.sls a.env), Own.nil, True.intro⟩
  have hv0 : DV K (upd H d (.frz od (.dK ks))) ks l := hv.imT (lock_t hx)
  refine for_it (walk_keysD (K := K) (l := l)) (fun n σ' H' => At K (.of (upd H d (.frz od (.dK ks)))) Γ2 [] σ' H') a0 (fun n σ' H' _ h => ⟨h.sm _ _ ho, hv0.im (im_same h.sm)⟩) (fun n x σ' H' H'' hn h y => ?_) fun σ' H' h => ?_
  · obtain ⟨s, dd, hdi, hx2⟩ := y
    have h2 := h.up s
    rw [List.getElem?_map] at hdi
    cases z : l[n]? with
    | none => rw [z] at hdi; cases hdi
    | some p =>
      rw [z] at hdi
      obtain rfl := Option.some.inj hdi
      show tbody _ (σ'.set j (some x)) H''
      exact hs od ks hx p (List.mem_of_getElem? z) _ _ _ (h2.setD hx2) ⟨ks, .inr ⟨od, h2.sm _ _ ho⟩, hv0.im (im_same h2.sm)⟩
  · have hf := h.sm _ _ ho
    exact ⟨hf, hk σ' _ (a.step (lock_sm hx h.sm) (Sls.imT (unlock_t hf) h.env))⟩
theorem q_keys (a : At K B Γ Θ σ H) (hi : Γ[i]? = some (.v (.ref d))) (hd : HasK K H d l) (hw : Weak Γ Γ2)
    (hs : ∀ (od : Obj) ks, H d = some (.dK ks) → ∀ x ∈ l, ∀ σ' H' D', At K (.of (upd H d (.frz od (.dK ks)))) (Γ2.set j (.d (keyD x.1))) [] σ' H' → HasR K H' d l → tbody (Tn K (.of (upd H d (.frz od (.dK ks)))) Γ2 [] D') σ' H')
    (hk : ∀ σ' H', At K B Γ2 Θ σ' H' → tz D σ' H') : tSeq (tLock (tFor (iKeys (tVar i)) (gName j) tbody)) tz D σ H := s_keys (D := { D with nx := tz D }) a hi hd hw hs hk
theorem src_keys {o : Obj} (a : At K B Γ Θ σ H) (hi : Γ[i]? = some (.v (.ref d))) (h : H d = some (.frz o (.dK ks))) (hv : DV K H ks l) : Src K (iKeys (tVar i)) σ H (l.map fun p => keyD p.1) := ⟨fun H1 e R k => by
  refine ⟨.ref d, a.env.val hi, d, o, rfl, .inl ⟨ks, e _ _ h, ?_⟩⟩
  have W := walk_keysD (K := K) (l := l) (ks := ks) (d := d) (o := o)
  have hl : ks.length = (l.map fun p => keyD p.1).length := by rw [List.length_map]; exact hv.length
  rw [hl] at W
  exact k _ _ _ H1 (Same.refl _) W (fun H3 e3 => ⟨e3 _ _ (e _ _ h), hv.im (im_same (e.trans e3))⟩) fun n x H3 H4 hn e3 y => y⟩
/-- a list made while a dict is locked -/
theorem evl_lock {t : TE} {ds : List PyData} (hd : HasK K H d l) (h : ∀ (od : Obj) ks H1, Same H H1 → H1 d = some (.dK ks) → DV K H1 ks l → EvL K t σ (upd H1 d (.frz od (.dK ks))) ds) : EvL K (tLockE t) σ H ds := fun H1 e Q q => by
  obtain ⟨ks, hx, hv⟩ := hd.mono e
  refine ⟨d, .dK ks, hx, True.intro, fun od => ?_⟩
  refine h od ks H1 e hx hv _ (Same.refl _) _ fun p xs H2 hp e2 hl hds => ?_
  have hf := e2 d _ upd_same
  have np : p ≠ d := by
    rintro rfl
    rw [upd_same] at hp
    cases hp
  refine ⟨hf, q p xs _ (by rw [upd_ne np] at hp; exact hp) (lock_sm hx e2) (by rw [upd_ne np]; exact hl) ?_⟩
  exact DtAll.imT (unlock_t hf) _ _ hds
theorem evd_dgetR {td ty : TE} {key : Key} {dd : PyData} (ho : EvV td σ H (.ref d)) (h : HasR K H d l) (hk : EvD K ty σ H (keyD key)) (hg : getK l key = some dd) : EvD K (tDGet td ty) σ H dd := fun H1 e1 Q q =>
  ho H1 e1 _ fun H2 e2 => hk H2 (e1.trans e2) _ fun v H3 e3 hv => by
    obtain ⟨ks, hx, hd⟩ := h.mono ((e1.trans e2).trans e3)
    obtain ⟨w, hw, hwd⟩ := hd.some hg
    obtain rfl := keyD_inv hv
    refine ⟨d, w, rfl, hw ▸ ?_, q w H3 (e2.trans e3) hwd⟩
    exact .inl ⟨ks, key, hx, rfl, rfl⟩
end
end K15

/-! part EA -/
set_option Elab.async false
set_option linter.all false
set_option maxRecDepth 100000
set_option maxHeartbeats 3200000
/-! len(set(l)), the texts of l distinct -/
namespace K15z
open PySem PySem.Spec PyProof.Rows
section
variable {prog : Program} {w : World} {A : Around} {R : Result → Shared → Prop} {I : Addr} {fp wr : List Addr} {G : Array GenState → Array GenState → Prop} {n : Nat} {P : Nat → Value → Prop} {St : Nat → Shared → Prop}
/-- the set filled, turn by turn, by distinct texts -/
theorem fill (W : WalksS prog w A.in1 I fp wr G n P St) (S : Addr) (hSf : S ∉ fp) (xs : List Str) (hsz : xs.length = n) (hn1 : n ≤ 100) (hnd : xs.Nodup)
    (hval : ∀ i v, P i v → ∃ t, v = .str (xs.getD i Str.empty) t) :
    ∀ (k i : Nat) (s : Shared), n - i = k → i ≤ n → St i s → s.heap.SetOf (PySem.strKind prog w) S (fun k' => (xs.take i).any (· == k')) i →
      (∀ s', Moved (S :: wr) G s s' → s'.heap.SetOf (PySem.strKind prog w) S (fun k' => (xs.take n).any (· == k')) n → R (.ok (.ret .none)) s') →
      codeAny (model prog w) A (.builtin "set.update.loop" ⟨[.ref S, .ref I], []⟩) R s := by
  have hSw : S ∉ wr := fun h => hSf (W.sub _ h)
  have hsub : ∀ b ∈ wr, b ∈ S :: wr := fun b hb => List.mem_cons_of_mem _ hb
  have moved : ∀ {i : Nat} {s s' : Shared}, Moved wr G s s' → s.heap.SetOf (PySem.strKind prog w) S (fun k' => (xs.take i).any (· == k')) i → s'.heap.SetOf (PySem.strKind prog w) S (fun k' => (xs.take i).any (· == k')) i :=
    fun hm ⟨o, es, ep, t, ho, rest⟩ => ⟨o, es, ep, t, hm.heap S _ hSw ho, rest⟩
  intro k
  induction k with
  | zero =>
    intro i s hk hi hst hS hR
    obtain rfl : i = n := by omega
    refine codeAny_builtin PyProof.Rows.F.entry_set_update_loop ?_
    rw [Around.under_plainId PyProof.Rows.F.plain_set_update_loop _]
    show wpAny _ A.in1 (pyNext (.ref I) >>= _) _ _ s
    exact wpAny_bind (W.done s _ _ hst fun s' hm => wpAny_pure (hR s' (hm.mono hsub) (moved hm hS)))
  | succ k ih =>
    intro i s hk hi hst hS hR
    have hlt : i < n := by omega
    have hx : xs.getD i Str.empty = xs[i]'(by omega) := by rw [List.getD_eq_getElem?_getD, List.getElem?_eq_getElem (by omega)]; rfl
    refine codeAny_builtin PyProof.Rows.F.entry_set_update_loop ?_
    rw [Around.under_plainId PyProof.Rows.F.plain_set_update_loop _]
    show wpAny _ A.in1 (pyNext (.ref I) >>= _) _ _ s
    refine wpAny_bind (W.item i s _ _ hlt hst fun v s' hP hst' hm => ?_)
    obtain ⟨t, rfl⟩ := hval i v hP
    have hS' := moved hm hS
    show wpAny _ A.in1 (holding [Value.str (xs.getD i Str.empty) t] (setAdd S (.str (xs.getD i Str.empty) t)) >>= _) _ _ s'
    refine wpAny_bind (wpAny_holding ?_)
    unfold setAdd
    refine wpAny_holding ?_
    refine wpAny_bind ((PySem.strKind prog w).pyHash (k := xs.getD i Str.empty) (strKind_is _ _ _ _) ?_)
    refine wpAny_setAddHashed_of (knd := PySem.strKind prog w) (s := { s' with toks := s'.toks + 1 }) (strKind_is _ _ _ _) rfl hS' (by unfold scanBound; omega) fun h' hsb hS2 => ?_
    have fresh : ((xs.take i).any (· == xs.getD i Str.empty)) = false := by
      rw [hx]
      refine List.any_eq_false.mpr fun y hy e => ?_
      have e : y = xs[i] := by simpa using e
      obtain ⟨j, hj, ej⟩ := List.getElem_of_mem hy
      rw [List.getElem_take] at ej
      rw [List.length_take] at hj
      exact (List.pairwise_iff_getElem.mp hnd) j i (by omega) (by omega) (by omega) (ej.trans e)
    have hSi : h'.SetOf (PySem.strKind prog w) S (fun k' => (xs.take (i + 1)).any (· == k')) (i + 1) := by
      refine SetOf_congr hS2 (fun k' => ?_) (by rw [fresh]; rfl)
      rw [List.take_add_one, List.getElem?_eq_getElem (by omega), hx]
      simp only [Option.toList_some, List.any_append, List.any_cons, List.any_nil, Bool.or_false]
      congr 1
      by_cases e : k' = xs[i]'(by omega)
      · rw [e, beq_self_eq_true]
        exact decide_eq_true rfl
      · rw [decide_eq_false e]
        exact (beq_eq_false_iff_ne.mpr fun z => e z.symm).symm
    refine wpAny_pure ⟨plainId_quiet PyProof.Rows.F.plain_set_update_loop _, ih (i + 1) _ (by omega) hlt (W.frame _ s' _ _ hst' (Nat.le_succ _) fun b hb o e => ?_) hSi fun s'' hm'' hS'' => ?_⟩
    · rw [hsb.2 b (fun h : b = S => hSf (by rw [← h]; exact hb))]
      exact e
    · refine hR s'' (Moved.trans W.gtrans ((hm.mono hsub).then_heap (Nat.le_succ _) fun b o hb e => ?_) hm'') hS''
      rw [hsb.2 b (fun h : b = S => hb (by rw [h]; exact List.mem_cons_self))]
      exact e
end
section
variable {prog : Program} {w : World} {A : Around} {E : Value → Shared → Prop} {s : Shared}
theorem set_strs {l : Addr} {items : Array Value} {xs : List Str} {Q : Value → Shared → Prop} (hh : A.handled = none) (hl : s.heap.IsList l items) (hi : PyProof.Rows.StrsAre items.toList xs) (hn1 : xs.length ≤ 100) (hnd : xs.Nodup)
    (h : ∀ (h' : Heap) (tk : Nat), h'.SetOf (PySem.strKind prog w) s.heap.objs.size (fun k' => (xs.take items.size).any (· == k')) items.size → (∀ b o, b < s.heap.objs.size → s.heap.get? b = some o → h'.get? b = some o) → Q (.ref s.heap.objs.size) { s with heap := h', toks := tk }) :
    wpAny (model prog w) A (call (.type "set") [.ref l]) Q E s := by
  obtain ⟨c, tl, hmro⟩ := PySem.F.called_set.mro
  have hmade := PySem.F.called_set.made
  have hsub := PySem.F.called_set.sub
  refine wpAny_call (codeAny_of_tree ?_)
  show wpAny _ _ (callAny (.type "set") _) _ _ _
  refine wpAny_pure ⟨Code.quiet_builtin _ (by decide +kernel), codeAny_builtin PySem.F.entry_type_call ?_⟩
  rw [Around.under_plain (weight_type_call_type "set" [.ref l] []) rfl]
  have h1 := PySem.F.called_set.notType
  have h2 := PySem.F.called_set.canCreate
  have hct := PySem.F.typeCall_set_1 (.ref l)
  repeat (any_goals (first | assumption | wp_step))
  refine codeAny_mono (code_set_new_1 (.ref l) (E := E) (Q₁ := fun obj s₁ => ∃ led : Bool, obj = .ref s.heap.objs.size ∧ s₁ = { s with heap := s.heap.push { cls := .type "set", dict := none, data := .set #[] 0 (.fresh 0 0 led) } }) fun led => ⟨led, rfl, rfl⟩) fun r s₁ hr => ?_
  cases r with
  | error e => exact hr
  | ok fl =>
    cases fl with
    | ret obj =>
      obtain ⟨led, rfl, rfl⟩ := hr
      have hS : (s.heap.push { cls := .type "set", dict := none, data := .set #[] 0 (.fresh 0 0 led) }).get? s.heap.objs.size = some { cls := .type "set", dict := none, data := .set #[] 0 (.fresh 0 0 led) } := Heap.get?_push_size _ rfl
      have hT : Shared.TypeIs { s with heap := s.heap.push { cls := .type "set", dict := none, data := .set #[] 0 (.fresh 0 0 led) } } (.ref s.heap.objs.size) "set" := ⟨_, hS, rfl⟩
      have hli := PySem.F.called_set.init.lookup
      have hbi := PySem.F.called_set.init.bind (.ref s.heap.objs.size)
      repeat (any_goals (first | assumption | wp_step))
      refine codeAny_mono (codeAny_call_builtin (R := wants (fun r s₂ => r = .none ∧ ∃ h' tk, s₂ = { s with heap := h', toks := tk } ∧ h'.SetOf (PySem.strKind prog w) s.heap.objs.size (fun k' => (xs.take items.size).any (· == k')) items.size ∧
          (∀ b o, b < s.heap.objs.size → s.heap.get? b = some o → h'.get? b = some o)) E) PySem.F.called_set.init.plain PySem.F.entry_set_init (check_set_init_1 hT ?_)) fun r₂ s₂ hr₂ => ?_
      · obtain ⟨ol, hol, hcl, nl, hdl⟩ := hl
        obtain ⟨ocls, odict, odata, oslots⟩ := ol
        simp only at hcl hdl
        subst hcl; subst hdl
        have hol' : (s.heap.push { cls := .type "set", dict := none, data := .set #[] 0 (.fresh 0 0 led) }).get? l = some { cls := .type "list", dict := odict, data := .seq items nl, slots := oslots } := Heap.get?_push_of_some _ hol
        have hsls := PySem.F.sub_list_set
        have hslf := PySem.F.sub_list_frozenset
        have hne : (Value.type "list" == Value.type "dict") = false := by decide
        have hl1 : (s.heap.push { cls := .type "set", dict := none, data := .set #[] 0 (.fresh 0 0 led) }).IsList l items := ⟨_, hol', rfl, nl, rfl⟩
        unfold Builtin.«set.__init__» noKeywords Builtin.Frozenset.updateFrom
        generalize hPI : pyIter = PI
        wp_walk
        subst hPI
        refine wpAny_pyIter_list hl1 ?_
        refine wpAny_bind (wpAny_runValue ?_)
        have hlS : l < s.heap.objs.size := Heap.lt_size hol
        have hh3 : A.in1.in1.in1.handled = none := by simp [hh]
        have hneI : l ≠ (s.heap.push { cls := .type "set", dict := none, data := .set #[] 0 (.fresh 0 0 led) }).objs.size := by
          rw [Heap.size_push]; exact Nat.ne_of_lt (Nat.lt_succ_of_lt hlS)
        have hSf : s.heap.objs.size ∉ [(s.heap.push { cls := .type "set", dict := none, data := .set #[] 0 (.fresh 0 0 led) }).objs.size, l] := by
          rw [Heap.size_push]; simp only [List.mem_cons, List.mem_singleton, List.not_mem_nil, or_false, not_or]
          exact ⟨Nat.ne_of_lt (Nat.lt_succ_self _), Nat.ne_of_gt hlS⟩
        have hsz : xs.length = items.size := by rw [← StrsAre.len_eq hi, Array.length_toList]
        have hval : ∀ (i : Nat) (v : Value), items[i]? = some v → ∃ t, v = .str (xs.getD i Str.empty) t := fun i v hv => SS.strs_at hi i v (by rw [Array.getElem?_toList]; exact hv)
        refine fill ((Walks.list hh3 _ l hneI items).toS) s.heap.objs.size hSf xs hsz (by rw [← hsz]; exact hn1) hnd hval (items.size - 0) 0 _ (by omega) (Nat.zero_le _) ⟨⟨_, Heap.get?_push_size _ rfl, rfl, rfl⟩, (hl1.push _)⟩ ?hS0 ?hR
        case hS0 =>
          have hget : ((s.heap.push { cls := .type "set", dict := none, data := .set #[] 0 (.fresh 0 0 led) }).push { cls := .type "list_iterator", data := .fields #[.ref l, .int 0 0] }).get? s.heap.objs.size
              = some { cls := .type "set", dict := none, data := .set #[] 0 (.fresh 0 0 led) } := Heap.get?_push_of_some _ hS
          exact PyProof.Rows.SetOf_congr ((PyProof.Rows.setObjOf_fresh (knd := PySem.strKind prog w) led).setOf hget (by unfold scanBound; omega)) (fun _ => rfl) rfl
        case hR =>
          intro s' hm hS'
          obtain ⟨h', g', d', tk', os'⟩ := s'
          have eg : g' = s.gens := hm.gens
          have ed : d' = s.drawn := hm.drawn
          have eo : os' = s.os := hm.os
          subst eg; subst ed; subst eo
          show wpAny _ _ _ _ _ _
          refine wpAny_pure ?_
          show wpAny _ _ (ret Value.none) _ _ _
          refine wpAny_pure ⟨rfl, h', tk', rfl, hS', fun b o hb e => ?_⟩
          have hb1 : b ≠ s.heap.objs.size := Nat.ne_of_lt hb
          have hb2 : b ≠ (s.heap.push { cls := .type "set", dict := none, data := .set #[] 0 (.fresh 0 0 led) }).objs.size := by
            rw [Heap.size_push]; exact Nat.ne_of_lt (Nat.lt_succ_of_lt hb)
          exact hm.heap b o (by simp only [List.mem_cons, List.mem_singleton, List.not_mem_nil, or_false, not_or]; exact ⟨hb1, hb2⟩) (Heap.get?_push_of_some _ (Heap.get?_push_of_some _ e))
      · cases r₂ with
        | error e => exact hr₂
        | ok fl₂ =>
          cases fl₂ with
          | ret r =>
            obtain ⟨rfl, h', tk, rfl, hS', hk'⟩ := hr₂
            repeat (any_goals (first | assumption | wp_step))
            exact h _ _ hS' hk'
          | _ => exact hr₂.elim
    | _ => exact hr.elim
end
end K15z
namespace K15
open PySem PySem.Spec PyProof.Rows L2 RZ
/-- len(set(e)), e a list of distinct texts -/
def tLenSet2 (K : PySem.W.Frag) (ta : TE) : TE := fun σ H Q => ta σ H fun x H1 => ∃ l, ∃ xs : List Str, x = .ref l ∧ SqL K H1 l (xs.map V.str) ∧ xs.Nodup ∧ xs.length ≤ 100 ∧ Q (.int xs.length) H1
theorem pe_lenSet2 {X : Cx} (K : PySem.W.Frag) (hK : X.K = K) {a : Expr} {ta : TE} {p p2 q pos : Pos} (hc : X.calm = true) (hg : Gl X "len") (hm : X.mg "len" = none) (hg2 : Gl X "set") (hm2 : X.mg "set" = none) (ha : PE X a ta)
    (na : starEach [a] X.env = (false, eval a X.env) :: starEach [] X.env := by rfl) : PE X (.Call (.Name "len" p) [.Call (.Name "set" p2) [a] [] q] [] pos) (tLenSet2 K ta) := by
  subst hK
  refine ⟨fun pins s σ H Q I h => ?_⟩
  refine Call_ (ld_blt I hg hm boot_len ?_)
  refine PyProof.Rows.callWith_builtin1 (PyProof.Rows.args_cons ?_ rfl) rfl rfl
  refine Call_ (ld_blt I hg2 hm2 boot_set ?_)
  refine PyProof.Rows.callWith_type1 (PyProof.Rows.args_cons (thn (ha.run pins s σ H _ I h) fun v s1 ⟨x, H1, I1, r1, q1⟩ => PyProof.Rows.args_nil ?_) na) na rfl
  obtain ⟨l, xs, rfl, hq, hn, hz1, q1⟩ := q1
  cases r1
  obtain ⟨its, r, pl, hz⟩ := I1.list hq
  refine K15z.set_strs (I1.ok.hd hc) pl.isList (xs := xs) (by simpa using strsAre_of r) hz1 hn fun h' tk hS hk => PyProof.Rows.args_nil ?_
  have hl : its.toArray.size = xs.length := by rw [List.size_toArray, ← r.length, List.length_map]
  rw [hl] at hS
  obtain ⟨o, es, ep, t, ho, hex, hd, _, _, _, hf, hn⟩ := hS
  have I2 : Inv X pins σ H1 { s1 with heap := h', toks := tk } := I1.kept fun b o e => hk b o (Heap.lt_size e) e
  exact call_len_set ho hex hd hf (by rw [hn] <;> omega) ⟨.int xs.length, H1, I2.tok _, ⟨_, by rw [hn]⟩, q1⟩
end K15

/-! part DG -/
set_option Elab.async false
set_option linter.all false
set_option maxRecDepth 100000
set_option maxHeartbeats 1000000
namespace K15
open PySem PySem.Spec PyProof.Rows L2 RZ
open LamX (ExtN Tabs TabB CodeO)
/-! ### steps by a word -/
local macro_rules | `(tactic| walk_at "ov") => `(tactic| first
  | with_reducible exact ov_eqS
  | with_reducible exact ov_eqI
  | with_reducible exact ov_neS
  | with_reducible exact ov_neI
  | with_reducible exact ov_neB
  | with_reducible exact ov_ltS
  | with_reducible exact ov_inS
  | with_reducible exact ov_I0 (fun _ => Dt.int _)
  | with_reducible exact ov_I0 (fun _ => Dt.bl _))
local macro_rules | `(tactic| walk_at "ev") => `(tactic| first
  | with_reducible exact evd_i
  | with_reducible exact evd_s
  | with_reducible exact evd_b
  | with_reducible exact evd_n
  | ((with_reducible refine' evd_var (by assumption) ?hv); (case hv => rfl))
  | with_reducible assumption
  | ((with_reducible refine' evd_op ?ha ?hb ?hr); (case ha => walk_at "ev"); (case hb => walk_at "ev"); (case hr => walk_at "ov"))
  | ((with_reducible refine' evd_and ?ha (fun hc => ?hb)); (case ha => walk_at "ev"); (case hb => walk_at "ev"))
  | ((with_reducible refine' evd_or ?ha (fun hc => ?hb)); (case ha => walk_at "ev"); (case hb => walk_at "ev"))
  | ((with_reducible refine' evd_not ?ha); (case ha => walk_at "ev"))
  | ((with_reducible refine' evd_isi ?ha ?hb); (case ha => walk_at "ev"); (case hb => first | exact kb_ii | exact kb_ib | exact kb_ss | exact kb_tt))
  | ((with_reducible refine' evd_tup ?ha ?hb); (case ha => walk_at "ea"); (case hb => first | decide | (simp only [List.length_cons, List.length_nil]; omega)))
  | ((with_reducible refine' evd_chain ?ha ?hb ?hc ?h1 ?h2); (case ha => walk_at "ev"); (case hb => walk_at "ev"); (case hc => walk_at "ev"); (case h1 => walk_at "ov"); (case h2 => walk_at "ov"))
  | ((with_reducible refine' evd_cb ?ha ?hb); (case ha => walk_at "ea"); (case hb => first | with_reducible exact cv_len | with_reducible exact cv_max2 | with_reducible exact cv_int1 | ((with_reducible refine' cv_lenS ?hz); (case hz => omega))))
  | ((with_reducible refine' evd_c1 _ ?hp ?ha); (case ha => walk_at "ea"); (case hp => first | exact True.intro | assumption | (show _ ≤ _; omega))))
local macro_rules | `(tactic| walk_at "ea") => `(tactic| first
  | with_reducible exact eva_nil
  | ((with_reducible refine' eva_cons ?ha ?hb); (case ha => walk_at "ev"); (case hb => walk_at "ea")))
local macro_rules | `(tactic| walk_at "et") => `(tactic| first
  | with_reducible assumption
  | ((with_reducible refine' evt_test ?ha); (case ha => walk_at "ev"))
  | ((with_reducible refine' evt_B ?ha); (case ha => walk_at "ev"))
  | ((with_reducible refine' evt_and ?ha (fun hc => ?hb)); (case ha => walk_at "et"); (case hb => walk_at "et"))
  | ((with_reducible refine' evt_or ?ha (fun hc => ?hb)); (case ha => walk_at "et"); (case hb => walk_at "et"))
  | ((with_reducible refine' evt_not ?ha); (case ha => walk_at "et")))

local macro_rules | `(tactic| walk_at "wk") => `(tactic| first
  | exact Weak.nil
  | ((refine' Weak.keep ?h); (case h => walk_at "wk"))
  | ((refine' Weak.drop ?h); (case h => walk_at "wk")))

/-- names exchanged -/
abbrev Nms := List (Str × Str)
def nmOf (ns : Nms) (x : Str) : Str := ((ns.find? fun p => decide (p.1 = x)).map (·.2)).getD x
def newsOf (ns : Nms) (M : Mc) : List Str := M.L.map (nmOf ns)
/-- rows and letters in the order of the new letters -/
def permM (nw : List Str) (M : Mc) : Mc := ⟨(sortBy nw).map fun j => nw.getD j Str.empty, M.R.map fun r => (sortBy nw).map fun j => r.getD j (0, Str.empty)⟩
abbrev eN (ns : Nms) : List (Key × PyData) := ns.map fun p => ((.inr p.1 : Key), PyData.str p.2)
theorem getK_eN (ns : Nms) (x : Str) : ((getK (eN ns) (.inr x)).getD (.str x)) = .str (nmOf ns x) := by
  unfold nmOf getK
  induction ns with
  | nil => rfl
  | cons p ns ih =>
    show (((((Sum.inr p.1 : Key), PyData.str p.2) :: eN ns).find? _).map _).getD _ = _
    rw [List.find?_cons, List.find?_cons]
    by_cases e : p.1 = x
    · simp [e]
    · have e2 : decide ((Sum.inr p.1 : Key) = Sum.inr x) = false := decide_eq_false fun z => e (Sum.inr.inj z)
      simp only [e2, decide_eq_false e]
      exact ih
theorem getK_mem {ns : Nms} (nd : (ns.map (·.1)).Nodup) : ∀ p ∈ ns, getK (eN ns) (.inr p.1) = some (.str p.2) := by
  induction ns with
  | nil => exact fun _ h => nomatch h
  | cons q ns ih =>
    intro p hp
    obtain ⟨h1, h2⟩ := List.nodup_cons.mp (show (q.1 :: ns.map (·.1)).Nodup from nd)
    show (((((Sum.inr q.1 : Key), PyData.str q.2) :: eN ns).find? _).map _) = _
    rw [List.find?_cons]
    rcases List.mem_cons.mp hp with e | hp
    · rw [e]
      simp
    · have e2 : decide ((Sum.inr q.1 : Key) = Sum.inr p.1) = false := decide_eq_false fun z => h1 (by rw [Sum.inr.inj z]; exact List.mem_map_of_mem hp)
      simp only [e2]
      exact ih h2 p hp
theorem mem_sortBy {nw : List Str} {j : Nat} (h : j ∈ sortBy nw) : j < nw.length := List.mem_range.mp ((List.mergeSort_perm _ _).mem_iff.mp h)
theorem len_sortBy (nw : List Str) : (sortBy nw).length = nw.length := by
  unfold sortBy
  rw [List.length_mergeSort, List.length_range]
theorem evd_notInB {K : PySem.W.Frag} {σ : L2.St} {H : Hp} {ta tb : TE} {s : Str} {b C g : Addr} {M : Mc} (ha : EvD K ta σ H (.str s)) (hb : EvV tb σ H (.ref b)) (hx : BoxAt K H b C M) (hz : M.L.length ≤ 1000) (hc : PySem.W.findIn K (.ref C) "__contains__" = some (some (.ref g))) :
    EvD K (tOp (rNotInOwn K g (SpCont K C)) ta tb) σ H (.bool (!decide (s ∈ M.L))) := fun H1 e Q q => ha H1 e _ fun v H2 e2 hv => hb H2 (e.trans e2) _ fun H3 e3 => by
  cases hv
  obtain ⟨dx, v, h1, h2⟩ := hx.mono ((e.trans e2).trans e3)
  exact ⟨b, C, dx, _, rfl, h1, hc, b, s, M, rfl, hz, ⟨dx, v, h1, h2⟩, fun H4 e4 => ⟨_, rfl, q _ H4 ((e2.trans e3).trans e4) (.bl _)⟩⟩
theorem evd_lenSet2 {K : PySem.W.Frag} {σ : L2.St} {H : Hp} {ta : TE} {p : Addr} {l : List Str} (ho : EvV ta σ H (.ref p)) (h : HasL K H p (l.map .str)) (hn : l.Nodup) (hz : l.length ≤ 100) : EvD K (tLenSet2 K ta) σ H (.int (l.length : Int)) := fun H1 e Q q => ho H1 e _ fun H2 e2 => by
  obtain ⟨xs, hx, hd⟩ := h.mono (e.trans e2)
  obtain rfl := hd.strs
  exact ⟨p, l, rfl, SqL.of hx, hn, hz, q _ H2 e2 (.int _)⟩
theorem tabs_bt {T : List (Addr × Str)} {x C dx : Addr} {fs : List (Str × V)} {H H' : Hp} (e : Bt x H H') (hx : H x = some (.ins C dx fs)) (h : Tabs T H) : Tabs T H' := fun p hp => by
  obtain ⟨ps, h1, h2, h3⟩ := h p hp
  have n1 : p.1 ≠ x := fun z => by
    rw [z, hx] at h1
    cases h1
  refine ⟨ps, e _ _ n1 h1, h2, fun pos cv hc => ?_⟩
  obtain ⟨c, e1, e2⟩ := h3 pos cv hc
  have n2 : c ≠ x := fun z => by
    rw [z, hx] at e2
    unfold CodeO at e2
    cases e2
  exact ⟨c, e1, e _ _ n2 e2⟩
theorem extN_t {H H' : Hp} (e : ExtN H H') : ∀ b xs, Rd H b (.tup xs) → Rd H' b (.tup xs) := fun b xs r => by
  rcases r with r | ⟨o, r⟩
  · exact .inl (e _ _ r fun ps z => by cases z)
  · exact .inr ⟨o, e _ _ r fun ps z => by cases z⟩
section
variable {P : Program} {w : World} {K : PySem.W.Frag} {mg : Str → Option Value} {base : Heap}
theorem kwV_eN {H : Hp} : ∀ ns : Nms, DV K H (kwV (ns.map (·.1)) (ns.map fun p => V.str p.2)) (eN ns)
  | [] => .nil
  | p :: ns => .cons ⟨rfl, .str p.2⟩ (kwV_eN ns)
abbrev s_Renamed___init__ : Stmt := inClass (top 66) 0
theorem sc_Renamed___init__ : ClScope ["self", "box", "names", "letter", "news", "order", "rows", "place", "row"] ["self", "box", "names"] (defScope s_Renamed___init__) := ⟨rfl, rfl, rfl, by decide +kernel, rfl, by decide +kernel, by decide +kernel, by decide +kernel⟩
/-- all but x and the tables is kept -/
def Bx (T : List (Addr × Str)) (x : Addr) (H H' : Hp) : Prop := (∀ b u, b ≠ x → H b = some u → (∀ ps, u ≠ .tbl ps) → H' b = some u) ∧ Tabs T H'
def SpRen0 (K : PySem.W.Frag) (T : List (Addr × Str)) (CR : Addr) (BC : Addr → Prop) : Sp := fun vs H Q _ => ∃ x b d dx C M ns, vs = [.ref x, .ref b, .ref d] ∧ BC C ∧ H x = some (.ins CR dx []) ∧ BoxAt K H b C M ∧ HasK K H d (eN ns) ∧ Tabs T H ∧
  (ns.map (·.1)).Nodup ∧ ns.length ≤ 100 ∧ (∀ p ∈ ns, p.1 ∈ M.L ∧ isNm p.2 = true) ∧ (newsOf ns M).Nodup ∧ Wf M ∧ Wf (permM (newsOf ns M) M) ∧
  ∀ H', Bx T x H H' → BoxAt K H' x CR (walkedM (permM (newsOf ns M) M)) → Q .non H'
theorem fn_ren {f CB CR fi cda TP g : Addr} {BC : Addr → Prop} {ks : List Str} {Tb : List (Addr × Str)} (hks : ks.Nodup) (hkz : ks.length ≤ 1000) (T : Top mg) (TB : TabB base mg cda TP) (hmT : (TP, ("Renamed.__init__" : Str) ++ ".<locals>." ++ "<lambda>") ∈ Tb) (hut : ∀ p ∈ Tb, p.1 = TP → p.2 = ("Renamed.__init__" : Str) ++ ".<locals>." ++ "<lambda>")
    (F : MdC P K mg "__init__" "Renamed.__init__" s_Renamed___init__ f CR fi cda) (Fi : FnR P w K mg base CX0 7 fi (SpInit K)) (hcR : Bc K CR) (hBC : ∀ C, BC C → Bc K C) (hcont : ∀ C, BC C → PySem.W.findIn K (.ref C) "__contains__" = some (some (.ref g))) (Fc : ∀ C, BC C → FnR P w K mg base CX0 3 g (SpCont K C)) (hgf : PySem.W.isFn K (.ref g) = true)
    (p_machine : ∀ C, BC C → Pr P w K mg base C "machine" (SpGetM K C)) (p_letters : ∀ C, BC C → Pr P w K mg base C "letters" (SpGetL K C))
    (d_is_name : Df P w K mg base 1 "is_name" (SpIsName K)) (d_require_boxes : Df P w K mg base 1 "require_boxes" (SpRequireB K))
    (hb : ∀ (cc : Addr) (kV doc pm : Value) (an : Option Addr) (ct : Value) (us ws : List Value), us.length = 2 → ws.length = ks.length → bindArgs (PySem.W.fnX "__init__" "Renamed.__init__" (defArgs s_Renamed___init__) (defBody s_Renamed___init__) (defScope s_Renamed___init__) [("__class__", cc)] .none kV doc pm an (.ref cda) ct) ⟨us, ks.zip ws⟩ =
      ((alloc ({ cls := .type "dict", data := .dict #[] } : Obj) : Sem Addr) >>= fun d => (forIn (ks.zip ws) PUnit.unit fun x _ => (nsSet d x.1 x.2 >>= fun _ => pure (ForInStep.yield PUnit.unit))) >>= fun _ => pure ((["self", "box"] : List Str).zip us ++ [(("names" : Str), Value.ref d)]))) :
    FnRK P w K mg base 8 f 2 ks (fun vs zs H Q E => ∀ d, H d = none → SpRen0 K Tb CR BC (vs ++ [.ref d]) (upd H d (.dK (kwV ks zs))) Q E) := by
  obtain ⟨cc, oc, od, kV, doc, pm, an, ct, osl, h1, h2⟩ := F.ex
  refine fnrk_cl (ps := ["self", "box"]) (pv := "names") h1 F.cd h2 sc_Renamed___init__ hks hkz (fun us ws l1 l2 => hb cc kV doc pm an ct us ws l1 l2) fun A outer s H vs Q E hr h => ?_
  have S := sup_of (A := A) (outer := outer) (s := s) (H := H) (E := E) (w := w) (base := base) F h1 h2 sc_Renamed___init__ ⟨_, rfl, rfl⟩ (by decide +kernel) (by decide +kernel) (by decide +kernel)
  obtain ⟨x, b, d, dx, C, M, ns, rfl, hC, hx, hbx, hd, hT, hnd, hnz, hn, hnw, hw, hw2, k⟩ := h
  have hu := hu_of hr
  have hvb : (defScope s_Renamed___init__).names.lookup ("news" : Str) = some .cell := by decide +kernel
  have hfr : ∀ y ∈ ([("place", .local), ("news", .free)] : List (Str × NameKind)), y.2 = .free → (defScope s_Renamed___init__).names.lookup y.1 = some .cell := by decide +kernel
  have pm' := p_machine C hC
  have pl' := p_letters C hC
  have hcC := hBC C hC
  refine ⟨_, PSsAt.nox (pat_cons (ps_lock (ps_for PassesOwn.never rfl (pi_keys (pv 2)) (pg_name (i := 3) sc_Renamed___init__.nd rfl (by first | exact Or.inl rfl | exact Or.inr rfl)) (pss_one (ps_if (pt_cmpR (op_notInOwn K (by rfl) (Fc C hC) hgf hr (by decide)) (pv 3) (pv 1) (by rfl)) (pss_one ps_never) pss_nil)))) (pat_cons (ps_expr (pe_d d_require_boxes hr (by decide) rfl (pa_cons (pe_callB (c_all' K (by rfl) rfl) (by rfl) T.all_ (by decide +kernel) (pa_cons (pe_lock (pe_lc (own := [("letter", 3)]) rfl sc_Renamed___init__.nd (pi_keys (pv 2)) (blkOk_by (N := ["self", "box", "names", "letter", "news", "order", "rows", "place", "row"]) (sc := defScope s_Renamed___init__) (by decide +kernel)) (fun _ _ _ _ _ => by exact (pg_name (i := 3) sc_Renamed___init__.nd rfl (by first | exact Or.inl rfl | exact Or.inr rfl))) (fun _ _ _ _ _ => pts_nil) (fun _ _ _ _ _ => by exact (pe_d d_is_name hr (by decide) rfl (pa_cons (pe_dget hu (pv 2) (pv 3) (fun _ _ => rfl)) pa_nil))))) pa_nil)) (pa_cons pe_str (pa_cons (pe_un un_neg pe_int) pa_nil))))) (pat_cons (ps_set (i := 4) sc_Renamed___init__.nd rfl (by first | exact Or.inl rfl | exact Or.inr rfl) (pe_lc (own := [("letter", 3)]) rfl sc_Renamed___init__.nd (pi_tup' K (by rfl) (pe_pr pl' hcC hr (by decide) (pv 1) rfl)) (blkOk_by (N := ["self", "box", "names", "letter", "news", "order", "rows", "place", "row"]) (sc := defScope s_Renamed___init__) (by decide +kernel)) (fun _ _ _ _ _ => by exact (pg_name (i := 3) sc_Renamed___init__.nd rfl (by first | exact Or.inl rfl | exact Or.inr rfl))) (fun _ _ _ _ _ => pts_nil) (fun _ _ _ _ _ => by exact (pe_dget2 hu (pv 2) (pv 3) (pv 3) ⟨rfl, rfl, rfl, rfl⟩))))
    (pat_cons (ps_expr (pe_d d_require_boxes hr (by decide) rfl (pa_cons (pe_cmpR op_eq (pe_lenSet2 K (by rfl) rfl (by rfl) T.len_ (by rfl) T.set_ (pv 4)) (pe_callB (c_len' K (by rfl)) (by rfl) T.len_ (by decide +kernel) (pa_cons (pv 4) pa_nil)) (nomark _)) (pa_cons pe_str (pa_cons (pe_un un_neg pe_int) pa_nil))))) (pat_cons (ps_set (i := 5) sc_Renamed___init__.nd rfl (by first | exact Or.inl rfl | exact Or.inr rfl) (pe_sortBy (T := Tb) (i := 4) rfl hr (by decide) (by rfl) T.sorted_ (by rfl) T.range_ (pe_callB (c_len' K (by rfl)) (by rfl) T.len_ (by decide +kernel) (pa_cons (pv 4) pa_nil)) TB rfl hmT hut rfl hvb (by decide +kernel) (by decide +kernel) (by decide +kernel) (by decide +kernel) (by decide +kernel) (by decide +kernel) hfr)) (pat_cons (ps_setLc (i := 6) (own := [("row", 8)]) rfl sc_Renamed___init__.nd rfl rfl (sw_true rfl rfl rfl (by decide +kernel)) (pi_tup' K (by rfl) (pe_ix (ix_tup' K (by rfl)) (pe_pr pm' hcC hr (by decide) (pv 1) rfl) pe_int (fun _ _ => rfl))) (blkOk_by (N := ["self", "box", "names", "letter", "news", "order", "rows", "place", "row"]) (sc := defScope s_Renamed___init__) (by decide +kernel)) (fun _ _ _ _ _ => by exact (pg_name (i := 8) sc_Renamed___init__.nd rfl (by first | exact Or.inl rfl | exact Or.inr rfl))) (fun _ _ _ _ _ => pts_nil) (fun _ _ _ _ _ => by exact (pe_callTy (c_tup' K (by rfl)) (by rfl) T.tuple_ (by decide +kernel) (pa_cons (pe_lc (own := [("place", 7)]) rfl sc_Renamed___init__.nd (pi_list' K (by rfl) (pv 5)) (blkOk_by (by show blkC ["self", "box", "names", "letter", "news", "order", "rows", "place", "row"] (relS _ (defScope s_Renamed___init__)) _ _ = true; decide +kernel)) (fun _ _ _ _ _ => by exact (pg_name (i := 7) sc_Renamed___init__.nd rfl (by first | exact Or.inl rfl | exact Or.inr rfl))) (fun _ _ _ _ _ => pts_nil) (fun _ _ _ _ _ => by exact (pe_ix (ix_tup' K (by rfl)) (pv 8) (pv 7) (fun _ _ => rfl)))) pa_nil))))
    (pat_super (i := 0) S Fi hr (by decide) rfl (pa_cons (pe_tup (pa_cons (pe_callTy (c_tup' K (by rfl)) (by rfl) T.tuple_ (by decide +kernel) (pa_cons (pe_lc (own := [("place", 7)]) rfl sc_Renamed___init__.nd (pi_list' K (by rfl) (pv 5)) (blkOk_by (N := ["self", "box", "names", "letter", "news", "order", "rows", "place", "row"]) (sc := defScope s_Renamed___init__) (by decide +kernel)) (fun _ _ _ _ _ => by exact (pg_name (i := 7) sc_Renamed___init__.nd rfl (by first | exact Or.inl rfl | exact Or.inr rfl))) (fun _ _ _ _ _ => pts_nil) (fun _ _ _ _ _ => by exact (pe_ix (ix_list' K (by rfl)) (pv 4) (pv 7) (fun _ _ => rfl)))) pa_nil)) (pa_cons (pe_callTy (c_tup' K (by rfl)) (by rfl) T.tuple_ (by decide +kernel) (pa_cons (pv 6) pa_nil)) pa_nil))) pa_nil)))))))), ?_⟩
  have a : At K (.of H) [.v (.ref x), .v (.ref b), .v (.ref d), .o, .o, .o, .o, .o, .o] [] (L2.start ["self", "box", "names", "letter", "news", "order", "rows", "place", "row"] [.ref x, .ref b, .ref d]) H := ⟨Same.refl _, ⟨rfl, rfl, rfl, True.intro, True.intro, True.intro, True.intro, True.intro, True.intro, True.intro⟩, Own.nil, True.intro⟩
  have hl1 := hw.l1
  have hnl : (newsOf ns M).length = M.L.length := List.length_map _
  refine' q_keys (Γ2 := [.v (.ref x), .v (.ref b), .v (.ref d), .o, .o, .o, .o, .o, .o]) a rfl hd ?hw1 (fun od ks' hk q hq σ' H' D' a1 hr1 => ?hs1) fun σ1 H1 a1 => ?_
  case hw1 => walk_at "wk"
  case hs1 =>
    obtain ⟨p, hp, rfl⟩ := List.mem_map.mp hq
    have hbx' : BoxAt K H' b C M := (hbx.im (lock_im hk)).mono a1.sm
    refine' s_no a1 (evt_test (EvD.is (evd_notInB (evd_var a1 (i := 3) rfl) (evv_var a1 (i := 1) rfl) hbx' hw.le1000 (hcont C hC)) (by rw [decide_eq_true (hn p hp).1]; rfl))) fun H2 a2 => a2.weak (by walk_at "wk")
  have hd1 := hd.mono a1.sm
  refine' q_drop a1 (evd_c1 (("name" : Str), PyData.int (-1)) True.intro (eva_cons (EvD.is (evd_all (p := fun p : Str × Str => isNm p.2) (evl_lock hd1 fun od ks' H2 e2 hx2 hv2 => ?hc1)) ?hc2) (eva_cons evd_s (eva_cons (evd_neg evd_i) eva_nil)))) fun H2 a2 => ?_
  case hc1 =>
    have A : At K (.of (upd H2 d (.frz od (.dK ks')))) [.v (.ref x), .v (.ref b), .v (.ref d), .o, .o, .o, .o, .o, .o] [] σ1 (upd H2 d (.frz od (.dK ks'))) := ⟨Same.refl _, Sls.imT (lock_t hx2) (a1.up e2).env, Own.nil, True.intro⟩
    have hv3 : DV K (upd H2 d (.frz od (.dK ks'))) ks' (eN ns) := hv2.imT (lock_t hx2)
    have es : (eN ns).map (fun p => keyD p.1) = ns.map fun p => PyData.str p.1 := by rw [List.map_map]; rfl
    refine evl_lcn (l := ns) (en := fun p => .str p.1) _ A (es ▸ src_keys A rfl upd_same hv3) (Nat.le_trans hnz (by decide)) (by decide) fun p σ' H3 hp a3 => ?_
    exact evd_c1 p.2 (show p.2.length ≤ 1000 from Nat.le_trans (isNm_le (hn p hp).2) (by decide)) (eva_cons (evd_dgetR (key := .inr p.1) (evv_var a3 (i := 2) rfl) ⟨ks', .inr ⟨od, a3.sm _ _ upd_same⟩, hv3.im (im_same a3.sm)⟩ (evd_var a3 rfl) (getK_mem hnd p hp)) eva_nil)
  case hc2 =>
    have : (ns.all fun p => isNm p.2) = true := List.all_eq_true.mpr fun p hp => (hn p hp).2
    rw [this]
  have hd2 := hd.mono a2.sm
  refine' q_asgL (ds := (newsOf ns M).map .str) a2 (EvL.is (evl_lcn (l := M.L) (en := .str) (fun l => .str (nmOf ns l)) a2 (src_tup (evd_propL (i := 1) (evv_var a2 (i := 1) rfl) (hbx.mono a2.sm))) (Nat.le_trans hl1 (by decide)) ?hj fun l σ' H3 hm a3 => ?hb3) ?he3) fun pn σ3 H3 a3 => ?_
  case hj => decide
  case hb3 => exact evd_dget2 (key := .inr l) (dx := .str l) (evv_var a3 (i := 2) rfl) (hd.mono a3.sm) (evd_var a3 rfl) (evd_var a3 rfl) (getK_eN ns l)
  case he3 =>
    unfold newsOf
    rw [List.map_map]
    rfl
  have hz3 : (newsOf ns M).length ≤ 100 := by omega
  refine' q_drop a3 (evd_c1 (("twice" : Str), PyData.int (-1)) True.intro (eva_cons (EvD.is (evd_op (evd_lenSet2 (evv_var a3 (i := 4) rfl) (a3.hasL (k := 0) rfl) hnw hz3) (evd_lenV (evv_var a3 (i := 4) rfl) (a3.hasL (k := 0) rfl)) ov_eqI) (by rw [List.length_map]; simp)) (eva_cons evd_s (eva_cons (evd_neg evd_i) eva_nil)))) fun H4 a4 => ?_
  -- the lambda: tables grow
  have e4 : tCB (rLenQ K) (tCons (tVar 4) tNil) σ3 H4 = tCB (rLenQ K) (tCons (tVar 4) tNil) σ3 H4 := rfl
  refine (evd_lenV (evv_var a4 (i := 4) rfl) (a4.hasL (k := 0) rfl)) H4 (Same.refl _) _ fun v H5 e5 hv => ?_
  have a5 := a4.up e5
  obtain ⟨xs5, hx5, hd5⟩ := a5.hasL (k := 0) (p := pn) (ds := (newsOf ns M).map .str) rfl
  obtain rfl := hd5.strs
  have T5 : Tabs Tb H5 := hT.ext fun b o e => a5.sm _ _ e
  refine ⟨pn, newsOf ns M, by rw [hv.int_inv, List.length_map], T5, a5.env.val (i := 4) rfl, hx5, by omega, fun H6 r eN6 T6 hr6 => ?_⟩
  have npr : pn ≠ r := fun z => by
    have := eN6 _ _ hx5 fun ps z => by cases z
    rw [z, hr6] at this
    cases this
  have keep7 : ∀ b u, H b = some u → (∀ ps, u ≠ .tbl ps) → (upd H6 r (.lst ((sortBy (newsOf ns M)).map fun n => V.int ((n : Nat) : Int)))) b = some u := fun c u e nt => by
    have e6 := eN6 _ _ (a5.sm _ _ e) nt
    rw [upd_ne (ne_of_none e6 hr6)]
    exact e6
  have t7 : ∀ b xs, Rd H5 b (.tup xs) → Rd (upd H6 r (.lst ((sortBy (newsOf ns M)).map fun n => V.int ((n : Nat) : Int)))) b (.tup xs) := fun c xs q => sm_rd (sm_new hr6) (extN_t eN6 c xs q)
  have T7 : Tabs Tb (upd H6 r (.lst ((sortBy (newsOf ns M)).map fun n => V.int ((n : Nat) : Int)))) := T6.ext fun c o e => sm_new hr6 _ _ e
  show tSeq _ _ _ (σ3.set 5 (some (.ref r))) (upd H6 r (.lst ((sortBy (newsOf ns M)).map fun n => V.int ((n : Nat) : Int))))
  generalize eH7 : upd H6 r (.lst ((sortBy (newsOf ns M)).map fun n => V.int ((n : Nat) : Int))) = H7 at keep7 t7 T7 ⊢
  have hx7 : H7 x = some (.ins CR dx []) := keep7 _ _ hx fun ps z => by cases z
  have hb7 : BoxAt K H7 b C M := by
    obtain ⟨dx', v', q1, q2⟩ := hbx.mono a5.sm
    obtain ⟨dx2, v2, q3, q4⟩ := hbx
    have e1 := a5.sm _ _ q3
    rw [q1] at e1
    cases e1
    exact ⟨dx', v', keep7 _ _ q3 (fun ps z => nomatch z), Dt.imT t7 _ _ q2⟩
  have hn7 : HasL K H7 pn ((newsOf ns M).map .str) := ⟨_, (by rw [← eH7, upd_ne npr]; exact eN6 _ _ hx5 (fun ps z => nomatch z)), dtAll_strs _⟩
  have ho7 : HasL K H7 r ((sortBy (newsOf ns M)).map fun n => PyData.int ((n : Nat) : Int)) := ⟨_, (by rw [← eH7]; exact upd_same), by
    have : ∀ l : List Nat, DtAll K H7 (l.map fun n => V.int ((n : Nat) : Int)) (l.map fun n => PyData.int ((n : Nat) : Int)) := fun l => by
      induction l with
      | nil => exact .nil
      | cons n l ih => exact .cons (.int _) ih
    exact this _⟩
  have a7 : At K (.of H7) [.v (.ref x), .v (.ref b), .v (.ref d), .o, .v (.ref pn), .v (.ref r), .o, .o, .o] [] (σ3.set 5 (some (.ref r))) H7 := ⟨Same.refl _, Sls.set (g := .v (.ref r)) (s := some (.ref r)) rfl 5 (Sls.imT t7 a5.env), Own.nil, True.intro⟩
  refine' q_asgL (ds := (permM (newsOf ns M) M).R.map eR) a7 (EvL.is (evl_lcn (l := M.R) (en := eR) (fun q => eR ((sortBy (newsOf ns M)).map fun j => q.getD j (0, Str.empty))) a7 (src_tup (evd_ix1 (evd_propM (i := 1) (evv_var a7 (i := 1) rfl) hb7))) (Nat.le_trans hw.r1 (by decide)) ?hj fun q σ' H8 hq a8 => ?hb8) ?he8) fun pr σ8 H8 a8 => ?_
  case hj => decide
  case he8 =>
    show _ = (M.R.map fun r => (sortBy (newsOf ns M)).map fun j => r.getD j (0, Str.empty)).map eR
    rw [List.map_map]
    rfl
  case hb8 =>
    refine evd_tupL (EvL.is (evl_lcn (l := sortBy (newsOf ns M)) (en := fun n => .int ((n : Nat) : Int)) (fun j => eP (q.getD j (0, Str.empty))) a8 (src_has (evv_var a8 (i := 5) rfl) (ho7.mono a8.sm)) (by rw [len_sortBy]; omega) ?hj fun j σ'' H9 hjm a9 => ?hb9) ?he9)
    case hj => decide
    case hb9 =>
      have hj := mem_sortBy hjm
      have hjq : j < q.length := by rw [hw.rl q hq]; omega
      exact evd_op (evd_var a9 (i := 8) rfl) (evd_var a9 rfl) (ov_ix j (by rw [List.getElem?_map, List.getElem?_eq_getElem hjq, List.getD_eq_getElem?_getD, List.getElem?_eq_getElem hjq]; rfl))
    case he9 => rw [List.map_map]; rfl
  refine ⟨x, dx, [], a8.env.val (i := 0) rfl, a8.sm _ _ hx7, ?_⟩
  refine eva_cons (d := eM (permM (newsOf ns M) M)) (evd_tup (eva_cons (evd_tupL (EvL.is (evl_lcn (l := sortBy (newsOf ns M)) (en := fun n => .int ((n : Nat) : Int)) (fun j => .str ((newsOf ns M).getD j Str.empty)) a8 (src_has (evv_var a8 (i := 5) rfl) (ho7.mono a8.sm)) (by rw [len_sortBy]; omega) (by decide) fun j σ'' H9 hjm a9 => ?hb10) ?he10)) (eva_cons (evd_tupV (evv_var a8 (i := 6) rfl) (a8.hasL (k := 0) rfl)) eva_nil))) eva_nil H8 (Same.refl _) _ fun vs H9 e9 hv9 => ?_
  case hb10 =>
    have hj := mem_sortBy hjm
    exact evd_ixL (n := j) (evv_var a9 (i := 4) rfl) (hn7.mono a9.sm) (evd_var a9 rfl) rfl (by rw [List.getElem?_map, List.getElem?_eq_getElem hj, List.getD_eq_getElem?_getD, List.getElem?_eq_getElem hj]; rfl)
  case he10 =>
    show _ = ((sortBy (newsOf ns M)).map fun j => (newsOf ns M).getD j Str.empty).map PyData.str
    rw [List.map_map]
    rfl
  obtain ⟨v9, ev, hv10⟩ := hv9.one
  subst ev
  have hx9 : H9 x = some (.ins CR dx []) := e9 _ _ (a8.sm _ _ hx7)
  refine ⟨x, v9, CR, dx, permM (newsOf ns M) M, rfl, hcR, hx9, hv10, hw2, fun H' bt h' => k H' ⟨fun c u nc e nt => bt c u nc (e9 _ _ (a8.sm _ _ (keep7 _ _ e nt))), ?_⟩ h'⟩
  exact tabs_bt bt hx9 (T7.ext fun c o e => e9 _ _ (a8.sm _ _ e))
end
end K15

/-! part M4 -/
set_option Elab.async false
set_option linter.all false
set_option maxRecDepth 100000
set_option maxHeartbeats 1000000
namespace K15
open PySem
/-- N within M: states by g, letters by f, words by t -/
structure Sim (M N : Mc) (g : Nat → Nat) (f t : Str → Str) : Prop where
  l : M.L = N.L.map f
  z : g 0 = 0
  inj : ∀ a b, a < N.R.length → b < N.R.length → g a = g b → a = b
  row : ∀ s, s < N.R.length → M.R.getD (g s) [] = (N.R.getD s []).map fun p => (g p.1, t p.2)
section
variable {M N : Mc} {g : Nat → Nat} {f t : Str → Str}
abbrev simG (g : Nat → Nat) (f : Str → Str) : Nat × List Str → Nat × List Str := fun c => (g c.1, c.2.map f)
theorem sim_add (hi : ∀ a b, a < N.R.length → b < N.R.length → g a = g b → a = b) (past : List Str) (P : Ps) (c : Str × (Nat × Str)) (hP : ∀ c ∈ P, c.1 < N.R.length) (hc : c.2.1 < N.R.length) :
    addP (past.map f) (P.map (simG g f)) (f c.1, (g c.2.1, t c.2.2)) = (addP past P c).map (simG g f) := by
  have hm : g c.2.1 ∈ (P.map (simG g f)).map (·.1) ↔ c.2.1 ∈ P.map (·.1) := by
    rw [List.map_map, List.mem_map, List.mem_map]
    refine ⟨fun ⟨d, hd, e⟩ => ⟨d, hd, hi _ _ (hP d hd) hc e⟩, fun ⟨d, hd, e⟩ => ⟨d, hd, ?_⟩⟩
    show g d.1 = _
    rw [e]
  unfold addP
  by_cases h : c.2.1 ∈ P.map (·.1)
  · rw [if_pos h, if_pos (hm.mpr h)]
  · rw [if_neg h, if_neg fun z => h (hm.mp z), List.map_append]
    simp
theorem sim_fold (hi : ∀ a b, a < N.R.length → b < N.R.length → g a = g b → a = b) (past : List Str) : ∀ (l : List (Str × (Nat × Str))) (P : Ps), (∀ c ∈ P, c.1 < N.R.length) → (∀ c ∈ l, c.2.1 < N.R.length) →
    (l.map fun c => (f c.1, (g c.2.1, t c.2.2))).foldl (addP (past.map f)) (P.map (simG g f)) = (l.foldl (addP past) P).map (simG g f)
  | [], P, _, _ => rfl
  | c :: l, P, hP, hl => by
    rw [List.map_cons, List.foldl_cons, List.foldl_cons, sim_add hi past P c hP (hl c (List.mem_cons_self ..))]
    refine sim_fold hi past l _ (fun d hd => ?_) fun d hd => hl d (List.mem_cons_of_mem _ hd)
    unfold addP at hd
    split at hd
    · exact hP d hd
    · rcases List.mem_append.mp hd with hd | hd
      · exact hP d hd
      · have : d = (c.2.1, past ++ [c.1]) := by simpa using hd
        rw [this]
        exact hl c (List.mem_cons_self ..)
theorem Sim.expand (S : Sim M N g f t) (hN : Wf N) {P : Ps} {s : Nat} {past : List Str} (hP : ∀ c ∈ P, c.1 < N.R.length) (hs : s < N.R.length) : expandP M (P.map (simG g f)) (g s) (past.map f) = (expandP N P s past).map (simG g f) := by
  unfold expandP
  rw [S.row s hs, S.l, List.zip_map]
  exact sim_fold S.inj past (N.L.zip (N.R.getD s [])) P hP (hN.zip_lt hs)
theorem Sim.lp (S : Sim M N g f t) (hM : Wf M) (hN : Wf N) : lp M = (lp N).map (simG g f) := by
  have aux : ∀ (k i : Nat) (P : Ps), BInv N i P → BInv M i (P.map (simG g f)) → k + i = N.R.length + 1 → K15.lp M = (K15.lp N).map (simG g f) := by
    intro k
    induction k with
    | zero =>
      intro i P h _ e
      have hl := h.pi.len
      have := h.le
      omega
    | succ k ih =>
      intro i P h h' e
      by_cases hi : i < P.length
      · have hg := List.getElem?_eq_getElem hi
        have hg' : (P.map (simG g f))[i]? = some (simG g f P[i]) := by rw [List.getElem?_map, hg]; rfl
        have hx := h'.next hM hg'
        have hlt := h.pi.lt _ (List.mem_of_getElem? hg)
        rw [S.expand hN h.pi.lt hlt] at hx
        exact ih (i + 1) _ (h.next hN hg) hx (by omega)
      · have h1 := h.done (Nat.le_of_not_lt hi)
        have h2 := h'.done (by rw [List.length_map]; exact Nat.le_of_not_lt hi)
        rw [← h1, ← h2]
  refine aux _ 0 [(0, [])] (.start hN) ?_ (Nat.add_zero _)
  have : [((0 : Nat), ([] : List Str))].map (simG g f) = [(0, [])] := by simp [S.z]
  rw [this]
  exact .start hM
theorem Sim.order (S : Sim M N g f t) (hM : Wf M) (hN : Wf N) : order M = (order N).map g := by
  unfold K15.order
  rw [S.lp hM hN, List.map_map, List.map_map]
  rfl
theorem idx_map (g : Nat → Nat) (a : Nat) : ∀ l : List Nat, (∀ b ∈ l, g b = g a → b = a) → (l.map g).idxOf (g a) = l.idxOf a
  | [], _ => rfl
  | b :: l, h => by
    rw [List.map_cons, List.idxOf_cons, List.idxOf_cons, idx_map g a l fun c hc => h c (List.mem_cons_of_mem _ hc)]
    by_cases e : b = a
    · rw [e]
      simp
    · have e2 : g b ≠ g a := fun z => e (h b (List.mem_cons_self ..) z)
      rw [beq_eq_false_iff_ne.mpr e, beq_eq_false_iff_ne.mpr e2]
theorem Sim.walked (S : Sim M N g f t) (hM : Wf M) (hN : Wf N) : walkedM M = ⟨N.L.map f, (walkedM N).R.map fun r => r.map fun p => (p.1, t p.2)⟩ := by
  unfold walkedM
  rw [S.order hM hN, S.l]
  congr 1
  rw [List.map_map, List.map_map]
  refine List.map_congr_left fun s hs => ?_
  have hlt := hN.order_lt s hs
  show relab ((K15.order N).map g) (M.R.getD (g s) []) = (relab (K15.order N) (N.R.getD s [])).map _
  rw [S.row s hlt]
  unfold relab
  rw [List.map_map, List.map_map]
  refine List.map_congr_left fun p hp => ?_
  have hp2 := hN.order_cl hs p hp
  show (((K15.order N).map g).idxOf (g p.1), t p.2) = ((K15.order N).idxOf p.1, t p.2)
  rw [idx_map g p.1 _ fun b hb e => S.inj b p.1 (hN.order_lt b hb) (hN.order_lt _ hp2) e]
/-! ### runs -/
theorem lookL_map (hf : ∀ a b, a ∈ N.L → b ∈ N.L → f a = f b → a = b) (g : Nat → Nat) (t : Str → Str) {x : Str} : ∀ (l : List Str) (r : Rw), r.length = l.length → x ∈ l → (∀ y ∈ l, y ∈ N.L) → lookL (l.map f) (r.map fun p => (g p.1, t p.2)) (f x) = (g (lookL l r x).1, t (lookL l r x).2)
  | [], _, _, h, _ => nomatch h
  | a :: l, [], e, _, _ => nomatch e
  | a :: l, p :: r, e, h, hl => by
    rw [List.map_cons, List.map_cons, lookL_cons, lookL_cons]
    have hx : x ∈ N.L := hl x h
    by_cases c : a = x
    · rw [if_pos c, c, if_pos rfl]
    · rw [if_neg c, if_neg fun z => c (hf _ _ (hl a (List.mem_cons_self ..)) hx z)]
      exact lookL_map hf g t l r (Nat.succ.inj e) ((List.mem_cons.mp h).resolve_left fun z => c z.symm) fun y hy => hl y (List.mem_cons_of_mem _ hy)
theorem Sim.rs (S : Sim M N g f t) (hN : Wf N) (hf : ∀ a b, a ∈ N.L → b ∈ N.L → f a = f b → a = b) {s : Nat} (hs : s < N.R.length) {x : Str} (hx : x ∈ N.L) : rs M (g s) (f x) = (g (rs N s x).1, t (rs N s x).2) := by
  unfold K15.rs
  rw [S.l, S.row s hs]
  exact lookL_map hf g t N.L _ (hN.rl _ (hN.row hs)) hx fun _ h => h
theorem Sim.run (S : Sim M N g f t) (hN : Wf N) (hf : ∀ a b, a ∈ N.L → b ∈ N.L → f a = f b → a = b) : ∀ (l : List Str) (s : Nat), s < N.R.length → (∀ x ∈ l, x ∈ N.L) → runS M (l.map f) (g s) = g (runS N l s) ∧ runW M (l.map f) (g s) = (runW N l s).map t
  | [], s, _, _ => ⟨rfl, rfl⟩
  | x :: l, s, hs, hx => by
    have h := S.rs hN hf hs (hx x (List.mem_cons_self ..))
    obtain ⟨i1, i2⟩ := S.run hN hf l (K15.rs N s x).1 (hN.rs_lt hs (hx x (List.mem_cons_self ..))) fun y hy => hx y (List.mem_cons_of_mem _ hy)
    show runS M (l.map f) (K15.rs M (g s) (f x)).1 = g (runS N l (K15.rs N s x).1) ∧ (K15.rs M (g s) (f x)).2 :: runW M (l.map f) (K15.rs M (g s) (f x)).1 = t (K15.rs N s x).2 :: (runW N l (K15.rs N s x).1).map t
    rw [h]
    exact ⟨i1, by rw [i2]⟩
end
/-! ### walked machines -/
theorem getD_map {α β : Type} {f : α → β} {l : List α} {i : Nat} {d : α} {e : β} (h : i < l.length) : (l.map f).getD i e = f (l.getD i d) := by
  rw [List.getD_eq_getElem?_getD, List.getD_eq_getElem?_getD, List.getElem?_map, List.getElem?_eq_getElem h]
  rfl
theorem Wf.ord0 {M : Mc} (hw : Wf M) : (order M).getD 0 0 = 0 := by
  obtain ⟨i, c, _⟩ := hw.lp_cinv
  have h : ∀ (n i : Nat) (P : Ps), (∃ r, P = (0, []) :: r) → ∃ r, bfs M n i P = (0, []) :: r := by
    intro n
    induction n with
    | zero => exact fun i P h => h
    | succ n ih =>
      intro i P ⟨r, e⟩
      unfold bfs
      split
      · exact ⟨r, e⟩
      · rename_i c' _
        refine ih _ _ ?_
        obtain ⟨Q, e2, _⟩ := fold_new c'.2 (M.L.zip (M.R.getD c'.1 [])) P
        exact ⟨r ++ Q, by show (M.L.zip (M.R.getD c'.1 [])).foldl (addP c'.2) P = _; rw [e2, e]; rfl⟩
  obtain ⟨r, e⟩ := h (M.R.length + 1) 0 [(0, [])] ⟨[], rfl⟩
  have : order M = 0 :: r.map (·.1) := by
    unfold order lp
    rw [e]
    rfl
  rw [this]
  rfl
theorem Wf.ord_pos {M : Mc} (hw : Wf M) : 0 < (order M).length := by
  obtain ⟨i, c, _⟩ := hw.lp_cinv
  have : (0 : Nat) ∈ order M := List.mem_map.mpr ⟨_, c.z, rfl⟩
  exact List.length_pos_of_mem this
theorem Wf.walked {M : Mc} (hw : Wf M) : Wf (walkedM M) where
  l0 := hw.l0
  l1 := hw.l1
  l2 := hw.l2
  nd := hw.nd
  nm := hw.nm
  asc := hw.asc
  r0 := by
    show 0 < ((order M).map _).length
    rw [List.length_map]
    exact hw.ord_pos
  r1 := by
    show ((order M).map _).length ≤ 9
    rw [List.length_map]
    exact Nat.le_trans hw.order_len hw.r1
  rl := fun r hr => by
    obtain ⟨s, hs, rfl⟩ := List.mem_map.mp hr
    show (relab _ _).length = M.L.length
    unfold relab
    rw [List.length_map, hw.rl _ (hw.row (hw.order_lt s hs))]
  rn := fun r hr p hp => by
    obtain ⟨s, hs, rfl⟩ := List.mem_map.mp hr
    obtain ⟨q, hq, rfl⟩ := List.mem_map.mp hp
    show (order M).idxOf q.1 < ((order M).map _).length
    rw [List.length_map]
    exact List.idxOf_lt_length_iff.mpr (hw.order_cl hs q hq)
  sz := fun r hr p hp => by
    obtain ⟨s, hs, rfl⟩ := List.mem_map.mp hr
    obtain ⟨q, hq, rfl⟩ := List.mem_map.mp hp
    exact hw.sz _ (hw.row (hw.order_lt s hs)) q hq
  wd := fun r hr p hp => by
    obtain ⟨s, hs, rfl⟩ := List.mem_map.mp hr
    obtain ⟨q, hq, rfl⟩ := List.mem_map.mp hp
    exact hw.wd _ (hw.row (hw.order_lt s hs)) q hq
theorem getD_idx {l : List Nat} {a : Nat} (h : a ∈ l) : l.getD (l.idxOf a) 0 = a := by
  have hi := List.idxOf_lt_length_iff.mpr h
  rw [List.getD_eq_getElem?_getD, List.getElem?_eq_getElem hi]
  exact List.getElem_idxOf hi
theorem Wf.walk_sim {M : Mc} (hw : Wf M) : Sim M (walkedM M) (fun k => (order M).getD k 0) id id where
  l := (List.map_id _).symm
  z := hw.ord0
  inj := fun a b ha hb e => by
    have ha : a < (order M).length := by
      have : a < ((order M).map _).length := ha
      rwa [List.length_map] at this
    have hb : b < (order M).length := by
      have : b < ((order M).map _).length := hb
      rwa [List.length_map] at this
    simp only [List.getD_eq_getElem?_getD, List.getElem?_eq_getElem ha, List.getElem?_eq_getElem hb, Option.getD_some] at e
    by_cases h : a = b
    · exact h
    · have nd := List.pairwise_iff_getElem.mp hw.order_nd
      rcases Nat.lt_or_gt_of_ne h with h | h
      · exact absurd e (nd a b ha hb h)
      · exact absurd e.symm (nd b a hb ha h)
  row := fun s hs => by
    have hs : s < (order M).length := by
      have : s < ((order M).map _).length := hs
      rwa [List.length_map] at this
    have hm : (order M).getD s 0 ∈ order M := by
      rw [List.getD_eq_getElem?_getD, List.getElem?_eq_getElem hs]
      exact List.getElem_mem hs
    show M.R.getD ((order M).getD s 0) [] = (((order M).map fun s => relab (order M) (M.R.getD s [])).getD s []).map _
    rw [getD_map (d := 0) hs]
    unfold relab
    rw [List.map_map]
    refine (List.map_id _).symm.trans (List.map_congr_left fun p hp => ?_)
    show p = ((order M).getD ((order M).idxOf p.1) 0, p.2)
    rw [getD_idx (hw.order_cl hm p hp)]
theorem mapW_id (M : Mc) : (⟨M.L.map id, M.R.map fun r => r.map fun p => (p.1, id p.2)⟩ : Mc) = M := by
  have : (fun r : Rw => r.map fun p => (p.1, id p.2)) = id := funext fun r => List.map_id r
  rw [this, List.map_id, List.map_id]
theorem Wf.walk_walk {M : Mc} (hw : Wf M) : walkedM (walkedM M) = walkedM M := ((hw.walk_sim.walked hw hw.walked).trans (mapW_id (walkedM (walkedM M)))).symm
theorem Wf.walk_run {M : Mc} (hw : Wf M) {l : List Str} (hl : ∀ x ∈ l, x ∈ M.L) : runW (walkedM M) l 0 = runW M l 0 := by
  have h := (hw.walk_sim.run hw.walked (fun _ _ _ _ e => e) l 0 hw.walked.r0 hl).2
  rw [List.map_id, List.map_id] at h
  have e : (order M).getD 0 0 = 0 := hw.ord0
  rw [e] at h
  exact h.symm
/-! ### other words -/
theorem mapW_sim (T : Str → Str) (M : Mc) : Sim (mapW T M) M id id T where
  l := (List.map_id _).symm
  z := rfl
  inj := fun _ _ _ _ e => e
  row := fun s hs => by
    show (M.R.map fun r => r.map fun p => (p.1, T p.2)).getD s [] = _
    rw [getD_map (d := []) hs]
    rfl
theorem Wf.walk_words {M : Mc} (hw : Wf M) {T : Str → Str} (hT : Wf (mapW T M)) : walkedM (mapW T M) = mapW T (walkedM M) := by
  have h := (mapW_sim T M).walked hT hw
  rw [List.map_id] at h
  exact h
theorem Wf.words_run {M : Mc} (hw : Wf M) (T : Str → Str) {l : List Str} {s : Nat} (hs : s < M.R.length) (hl : ∀ x ∈ l, x ∈ M.L) : runS (mapW T M) l s = runS M l s ∧ runW (mapW T M) l s = (runW M l s).map T := by
  have h := (mapW_sim T M).run hw (fun _ _ _ _ e => e) l s hs hl
  rw [List.map_id] at h
  exact h
theorem Wf.mapW {M : Mc} (hw : Wf M) {T : Str → Str} (h : ∀ x, x.length ≤ 10 → isWd x = true → (T x).length ≤ 10 ∧ isWd (T x) = true) : Wf (mapW T M) where
  l0 := hw.l0
  l1 := hw.l1
  l2 := hw.l2
  nd := hw.nd
  nm := hw.nm
  asc := hw.asc
  r0 := by
    show 0 < (M.R.map _).length
    rw [List.length_map]
    exact hw.r0
  r1 := by
    show (M.R.map _).length ≤ 9
    rw [List.length_map]
    exact hw.r1
  rl := fun r hr => by
    obtain ⟨s, hs, rfl⟩ := List.mem_map.mp hr
    rw [List.length_map]
    exact hw.rl s hs
  rn := fun r hr p hp => by
    obtain ⟨s, hs, rfl⟩ := List.mem_map.mp hr
    obtain ⟨q, hq, rfl⟩ := List.mem_map.mp hp
    show q.1 < (M.R.map _).length
    rw [List.length_map]
    exact hw.rn s hs q hq
  sz := fun r hr p hp => by
    obtain ⟨s, hs, rfl⟩ := List.mem_map.mp hr
    obtain ⟨q, hq, rfl⟩ := List.mem_map.mp hp
    exact (h q.2 (hw.sz s hs q hq) (hw.wd s hs q hq)).1
  wd := fun r hr p hp => by
    obtain ⟨s, hs, rfl⟩ := List.mem_map.mp hr
    obtain ⟨q, hq, rfl⟩ := List.mem_map.mp hp
    exact (h q.2 (hw.sz s hs q hq) (hw.wd s hs q hq)).2
end K15

/-! part M5 -/
set_option Elab.async false
set_option linter.all false
set_option maxRecDepth 100000
set_option maxHeartbeats 1000000
namespace K15
open PySem
/-! ### texts by their order -/
abbrev leT (a b : Str) : Prop := a.cps.toList ≤ b.cps.toList
theorem str_ext {a b : Str} (h : a.cps.toList = b.cps.toList) : a = b := by
  cases a
  cases b
  congr 1
  exact Array.toList_inj.mp h
theorem leT_lt {a b : Str} (h : leT a b) (n : a ≠ b) : ltS a b = true := by
  refine decide_eq_true ?_
  rcases Decidable.em (a.cps.toList < b.cps.toList) with h1 | h1
  · exact h1
  · exact absurd (str_ext (List.le_antisymm h (List.not_lt.mp h1))) n
theorem asc_of : ∀ {l : List Str}, l.Pairwise leT → l.Nodup → ascB l = true
  | [], _, _ => rfl
  | [a], _, _ => rfl
  | a :: b :: l, h, nd => by
    have h1 := asc_of (List.pairwise_cons.mp h).2 (List.nodup_cons.mp nd).2
    have h2 := leT_lt ((List.pairwise_cons.mp h).1 b (List.mem_cons_self ..)) (fun e => (List.nodup_cons.mp nd).1 (e ▸ List.mem_cons_self ..))
    unfold ascB at h1 ⊢
    show (ltS a b && ((b :: l).zip l).all fun p => ltS p.1 p.2) = true
    rw [h2, Bool.true_and]
    exact h1
section
variable {nw : List Str}
theorem sortBy_perm (nw : List Str) : (sortBy nw).Perm (List.range nw.length) := List.mergeSort_perm _ _
theorem sortBy_pw (nw : List Str) : (sortBy nw).Pairwise fun i j => leT (nw.getD i Str.empty) (nw.getD j Str.empty) := by
  have := List.pairwise_mergeSort (le := fun i j => decide (leT (nw.getD i Str.empty) (nw.getD j Str.empty))) (fun a b c h1 h2 => decide_eq_true (List.le_trans (of_decide_eq_true h1) (of_decide_eq_true h2))) (fun a b => by
    rcases List.le_total (nw.getD a Str.empty).cps.toList (nw.getD b Str.empty).cps.toList with h | h
    · rw [decide_eq_true (p := leT _ _) h]
      rfl
    · rw [decide_eq_true (p := leT (nw.getD b Str.empty) (nw.getD a Str.empty)) h]
      exact Bool.or_true _) (List.range nw.length)
  exact this.imp fun h => of_decide_eq_true h
theorem range_getD {α : Type} (l : List α) (d : α) : (List.range l.length).map (fun j => l.getD j d) = l := by
  apply List.ext_getElem
  · simp
  · intro i h1 h2
    simp [List.getD_eq_getElem?_getD, h2]
theorem perm_letters (nw : List Str) : ((sortBy nw).map fun j => nw.getD j Str.empty).Perm nw := by
  have := (sortBy_perm nw).map fun j => nw.getD j Str.empty
  rwa [range_getD] at this
theorem perm_row (nw : List Str) {r : Rw} (h : r.length = nw.length) : ((sortBy nw).map fun j => r.getD j (0, Str.empty)).Perm r := by
  have := (sortBy_perm nw).map fun j => r.getD j (0, Str.empty)
  rw [← h, range_getD] at this
  exact this
theorem lookL_at : ∀ {l : List Str} {r : Rw} {i : Nat} (nd : l.Nodup) (e : r.length = l.length) (h : i < l.length), lookL l r (l[i]) = r[i]'(e ▸ h)
  | a :: l, p :: r, 0, nd, e, h => by
    rw [lookL_cons]
    exact if_pos rfl
  | a :: l, p :: r, i + 1, nd, e, h => by
    rw [lookL_cons]
    have hm : l[i]'(by simpa using h) ∈ l := List.getElem_mem _
    show (if a = l[i]'(by simpa using h) then p else lookL l r (l[i]'(by simpa using h))) = r[i]'(by have := Nat.succ.inj e; simp at h; omega)
    rw [if_neg fun z : a = l[i]'(by simpa using h) => (List.nodup_cons.mp nd).1 (by rw [z]; exact hm)]
    exact lookL_at (List.nodup_cons.mp nd).2 (Nat.succ.inj e) (by simpa using h)
theorem lookL_perm (nd : nw.Nodup) {r : Rw} (e : r.length = nw.length) {j : Nat} (h : j < nw.length) : lookL ((sortBy nw).map fun j => nw.getD j Str.empty) ((sortBy nw).map fun j => r.getD j (0, Str.empty)) nw[j] = r[j]'(e ▸ h) := by
  have hj : j ∈ sortBy nw := (sortBy_perm nw).mem_iff.mpr (List.mem_range.mpr h)
  obtain ⟨k, hk, ek⟩ := List.getElem_of_mem hj
  have hk1 : k < ((sortBy nw).map fun j => nw.getD j Str.empty).length := by rw [List.length_map]; exact hk
  have e1 : ((sortBy nw).map fun j => nw.getD j Str.empty)[k] = nw[j] := by
    rw [List.getElem_map, ek, List.getD_eq_getElem?_getD, List.getElem?_eq_getElem h]
    rfl
  have h2 := lookL_at (l := (sortBy nw).map fun j => nw.getD j Str.empty) (r := (sortBy nw).map fun j => r.getD j (0, Str.empty)) ((perm_letters nw).nodup_iff.mpr nd) (by rw [List.length_map, List.length_map]) hk1
  rw [e1] at h2
  rw [h2, List.getElem_map, ek, List.getD_eq_getElem?_getD, List.getElem?_eq_getElem (e ▸ h)]
  rfl
end
/-! ### the machine of the new letters -/
section
variable {M : Mc} {nw : List Str}
theorem permR (s : Nat) (hs : s < M.R.length) : (permM nw M).R.getD s [] = (sortBy nw).map fun j => (M.R.getD s []).getD j (0, Str.empty) := by
  show (M.R.map fun r => (sortBy nw).map fun j => r.getD j (0, Str.empty)).getD s [] = _
  rw [getD_map (d := []) hs]
theorem Wf.perm (hw : Wf M) (hl : nw.length = M.L.length) (nd : nw.Nodup) (hn : ∀ x ∈ nw, isNm x = true) : Wf (permM nw M) where
  l0 := by
    show 0 < ((sortBy nw).map _).length
    rw [List.length_map, len_sortBy, hl]
    exact hw.l0
  l1 := by
    show ((sortBy nw).map _).length ≤ 10
    rw [List.length_map, len_sortBy, hl]
    exact hw.l1
  l2 := fun x hx => by
    have := isNm_le (hn x ((perm_letters nw).mem_iff.mp hx))
    omega
  nd := (perm_letters nw).nodup_iff.mpr nd
  nm := List.all_eq_true.mpr fun x hx => hn x ((perm_letters nw).mem_iff.mp hx)
  asc := asc_of (List.pairwise_map.mpr (sortBy_pw nw)) ((perm_letters nw).nodup_iff.mpr nd)
  r0 := by
    show 0 < (M.R.map _).length
    rw [List.length_map]
    exact hw.r0
  r1 := by
    show (M.R.map _).length ≤ 9
    rw [List.length_map]
    exact hw.r1
  rl := fun r hr => by
    obtain ⟨s, hs, rfl⟩ := List.mem_map.mp hr
    show ((sortBy nw).map _).length = ((sortBy nw).map _).length
    rw [List.length_map, List.length_map]
  rn := fun r hr p hp => by
    obtain ⟨s, hs, rfl⟩ := List.mem_map.mp hr
    show p.1 < (M.R.map _).length
    rw [List.length_map]
    exact hw.rn s hs p ((perm_row nw (by rw [hw.rl s hs, hl])).mem_iff.mp hp)
  sz := fun r hr p hp => by
    obtain ⟨s, hs, rfl⟩ := List.mem_map.mp hr
    exact hw.sz s hs p ((perm_row nw (by rw [hw.rl s hs, hl])).mem_iff.mp hp)
  wd := fun r hr p hp => by
    obtain ⟨s, hs, rfl⟩ := List.mem_map.mp hr
    exact hw.wd s hs p ((perm_row nw (by rw [hw.rl s hs, hl])).mem_iff.mp hp)
theorem perm_len : (permM nw M).R.length = M.R.length := List.length_map _
theorem Wf.perm_rs (hw : Wf M) {f : Str → Str} (e : nw = M.L.map f) (nd : nw.Nodup) {s : Nat} (hs : s < M.R.length) {x : Str} (hx : x ∈ M.L) : rs (permM nw M) s (f x) = rs M s x := by
  obtain ⟨j, hj, rfl⟩ := List.getElem_of_mem hx
  have hl : nw.length = M.L.length := by rw [e, List.length_map]
  have hr := hw.rl _ (hw.row hs)
  unfold rs
  rw [permR s hs, lookL_at hw.nd hr hj]
  have h1 : f (M.L[j]) = nw[j]'(by omega) := by simp [e]
  rw [h1]
  exact lookL_perm nd (by rw [hr, hl]) (by omega)
theorem Wf.perm_run (hw : Wf M) {f : Str → Str} (e : nw = M.L.map f) (nd : nw.Nodup) : ∀ (l : List Str) (s : Nat), s < M.R.length → (∀ x ∈ l, x ∈ M.L) → runS (permM nw M) (l.map f) s = runS M l s ∧ runW (permM nw M) (l.map f) s = runW M l s
  | [], s, _, _ => ⟨rfl, rfl⟩
  | x :: l, s, hs, hx => by
    have hx0 := hx x (List.mem_cons_self ..)
    have h := hw.perm_rs e nd hs hx0
    obtain ⟨i1, i2⟩ := hw.perm_run e nd l (rs M s x).1 (hw.rs_lt hs hx0) fun y hy => hx y (List.mem_cons_of_mem _ hy)
    show runS _ (l.map f) (rs (permM nw M) s (f x)).1 = _ ∧ (rs (permM nw M) s (f x)).2 :: runW _ (l.map f) (rs (permM nw M) s (f x)).1 = _
    rw [h]
    exact ⟨i1, by rw [i2]; rfl⟩
theorem getD_none {α : Type} {l : List α} {i : Nat} {d : α} (h : l.length ≤ i) : l.getD i d = d := by
  rw [List.getD_eq_getElem?_getD, List.getElem?_eq_none h]
  rfl
theorem Wf.perm_path (hw : Wf M) (hl : nw.length = M.L.length) {k s : Nat} : Path (permM nw M).R k s ↔ Path M.R k s := by
  have h : ∀ s p, p ∈ (permM nw M).R.getD s [] ↔ p ∈ M.R.getD s [] := fun s p => by
    by_cases hs : s < M.R.length
    · rw [permR s hs]
      exact (perm_row nw (by rw [hw.rl _ (hw.row hs), hl])).mem_iff
    · rw [getD_none (l := (permM nw M).R) (by rw [perm_len]; omega), getD_none (by omega)]
  exact ⟨path_same fun s p hp => ⟨p, (h s p).mp hp, rfl⟩, path_same fun s p hp => ⟨p, (h s p).mpr hp, rfl⟩⟩
theorem Wf.perm_order (hw : Wf M) (hl : nw.length = M.L.length) (hw2 : Wf (permM nw M)) : (order (permM nw M)).Perm (order M) := by
  refine (List.perm_ext_iff_of_nodup hw2.order_nd hw.order_nd).mpr fun s => ?_
  rw [hw2.order_iff, hw.order_iff]
  exact ⟨fun ⟨k, h⟩ => ⟨k, (hw.perm_path hl).mp h⟩, fun ⟨k, h⟩ => ⟨k, (hw.perm_path hl).mpr h⟩⟩
theorem lp_uniq {P : Ps} (nd : (P.map (·.1)).Nodup) {s : Nat} {u v : List Str} (h1 : (s, u) ∈ P) (h2 : (s, v) ∈ P) : u = v := by
  induction P with
  | nil => exact nomatch h1
  | cons c P ih =>
    obtain ⟨n1, n2⟩ := List.nodup_cons.mp (show (c.1 :: P.map (·.1)).Nodup from nd)
    rcases List.mem_cons.mp h1 with e1 | h1 <;> rcases List.mem_cons.mp h2 with e2 | h2
    · rw [← e1] at e2
      exact (Prod.mk.inj e2).2.symm
    · exact absurd (by rw [← e1]; exact List.mem_map.mpr ⟨_, h2, rfl⟩) n1
    · exact absurd (by rw [← e2]; exact List.mem_map.mpr ⟨_, h1, rfl⟩) n1
    · exact ih n2 h1 h2
theorem Wf.perm_past (hw : Wf M) (hl : nw.length = M.L.length) (hw2 : Wf (permM nw M)) {s : Nat} {u v : List Str} (h1 : (s, u) ∈ lp M) (h2 : (s, v) ∈ lp (permM nw M)) : u.length = v.length := by
  obtain ⟨e, he, e1, e2⟩ := hw2.lp_short ((hw.perm_path hl).mpr (hw.lp_path h1))
  obtain ⟨d, hd, d1, d2⟩ := hw.lp_short ((hw.perm_path hl).mp (hw2.lp_path h2))
  obtain ⟨e0, e3⟩ := e
  obtain ⟨d0, d3⟩ := d
  simp only at e1 e2 d1 d2
  subst e1 d1
  have a := lp_uniq hw2.order_nd h2 he
  have b := lp_uniq hw.order_nd h1 hd
  rw [a, b]
  rw [a] at d2
  rw [b] at e2
  omega
/-- the permuted machine of the walked one -/
theorem Wf.perm_walk (hw : Wf M) (hl : nw.length = M.L.length) (hw2 : Wf (permM nw M)) (hw3 : Wf (permM nw (walkedM M))) : walkedM (permM nw (walkedM M)) = walkedM (permM nw M) := by
  have hlen : ((order M).map fun s => relab (order M) (M.R.getD s [])).length = (order M).length := List.length_map _
  have S : Sim (permM nw M) (permM nw (walkedM M)) (fun k => (order M).getD k 0) id id := {
    l := (List.map_id _).symm
    z := hw.ord0
    inj := fun a b ha hb e => hw.walk_sim.inj a b (by rwa [perm_len] at ha) (by rwa [perm_len] at hb) e
    row := fun s hs => by
      rw [perm_len] at hs
      have h1 := hw.walk_sim.row s hs
      have hs2 : s < (order M).length := by
        have : s < ((order M).map _).length := hs
        rwa [List.length_map] at this
      have hm : (order M).getD s 0 ∈ order M := by
        rw [List.getD_eq_getElem?_getD, List.getElem?_eq_getElem hs2]
        exact List.getElem_mem hs2
      rw [permR _ (hw.order_lt _ hm), permR s hs, h1, List.map_map]
      refine List.map_congr_left fun j hj => ?_
      have hj2 : j < ((walkedM M).R.getD s []).length := by
        rw [hw.walked.rl _ (hw.walked.row hs)]
        have := mem_sortBy hj
        show j < M.L.length
        omega
      show (((walkedM M).R.getD s []).map fun p => ((order M).getD p.1 0, p.2)).getD j (0, Str.empty) = _
      rw [getD_map (d := (0, Str.empty)) hj2]
      rfl }
  exact ((S.walked hw2 hw3).trans (mapW_id (walkedM (permM nw (walkedM M))))).symm
/-! ### letters in the same order -/
theorem sortBy_range (h : nw.Pairwise leT) : sortBy nw = List.range nw.length := by
  refine List.mergeSort_of_pairwise ?_
  rw [List.pairwise_iff_getElem] at h ⊢
  intro i j hi hj hij
  rw [List.length_range] at hi hj
  rw [List.getElem_range, List.getElem_range]
  refine decide_eq_true ?_
  rw [List.getD_eq_getElem?_getD, List.getD_eq_getElem?_getD, List.getElem?_eq_getElem hi, List.getElem?_eq_getElem hj]
  exact h i j hi hj hij
theorem Wf.perm_keep (hw : Wf M) (hl : nw.length = M.L.length) (h : nw.Pairwise leT) : permM nw M = ⟨nw, M.R⟩ := by
  unfold permM
  rw [sortBy_range h, range_getD]
  congr 1
  refine (List.map_congr_left fun r hr => ?_).trans (List.map_id _)
  have e : nw.length = r.length := by rw [hw.rl r hr, hl]
  rw [e, range_getD]
  rfl
theorem Wf.keep_sim (hw : Wf M) {f : Str → Str} (e : nw = M.L.map f) (h : nw.Pairwise leT) : Sim (permM nw M) M id f id := by
  rw [hw.perm_keep (by rw [e, List.length_map]) h]
  exact ⟨e, rfl, fun _ _ _ _ e => e, fun s hs => (List.map_id _).symm⟩
theorem Wf.keep_walk (hw : Wf M) {f : Str → Str} (e : nw = M.L.map f) (h : nw.Pairwise leT) (hw2 : Wf (permM nw M)) : walkedM (permM nw M) = permM nw (walkedM M) := by
  have hl : nw.length = M.L.length := by rw [e, List.length_map]
  rw [hw.walked.perm_keep hl h, (hw.keep_sim e h).walked hw2 hw, ← e]
  have : (fun r : Rw => r.map fun p => (p.1, id p.2)) = id := funext fun r => List.map_id r
  rw [this, List.map_id]
theorem Wf.keep_lp (hw : Wf M) {f : Str → Str} (e : nw = M.L.map f) (h : nw.Pairwise leT) (hw2 : Wf (permM nw M)) : lp (permM nw M) = (lp M).map fun c => (c.1, c.2.map f) := (hw.keep_sim e h).lp hw2 hw
end
end K15

/-! part L1 -/
set_option Elab.async false
set_option linter.all false
set_option maxRecDepth 100000
set_option maxHeartbeats 1000000
namespace K15
open PySem PySem.Spec PyProof.Rows L2 RZ
/-! ### steps by a word -/
local macro_rules | `(tactic| walk_at "ov") => `(tactic| first
  | with_reducible exact ov_eqS
  | with_reducible exact ov_eqI
  | with_reducible exact ov_neS
  | with_reducible exact ov_neI
  | with_reducible exact ov_neB
  | with_reducible exact ov_ltS
  | with_reducible exact ov_inS
  | with_reducible exact ov_I0 (fun _ => Dt.int _)
  | with_reducible exact ov_I0 (fun _ => Dt.bl _))
local macro_rules | `(tactic| walk_at "ev") => `(tactic| first
  | with_reducible exact evd_i
  | with_reducible exact evd_s
  | with_reducible exact evd_b
  | with_reducible exact evd_n
  | ((with_reducible refine' evd_var (by assumption) ?hv); (case hv => rfl))
  | with_reducible assumption
  | ((with_reducible refine' evd_op ?ha ?hb ?hr); (case ha => walk_at "ev"); (case hb => walk_at "ev"); (case hr => walk_at "ov"))
  | ((with_reducible refine' evd_and ?ha (fun hc => ?hb)); (case ha => walk_at "ev"); (case hb => walk_at "ev"))
  | ((with_reducible refine' evd_or ?ha (fun hc => ?hb)); (case ha => walk_at "ev"); (case hb => walk_at "ev"))
  | ((with_reducible refine' evd_not ?ha); (case ha => walk_at "ev"))
  | ((with_reducible refine' evd_isi ?ha ?hb); (case ha => walk_at "ev"); (case hb => first | exact kb_ii | exact kb_ib | exact kb_ss | exact kb_tt))
  | ((with_reducible refine' evd_tup ?ha ?hb); (case ha => walk_at "ea"); (case hb => first | decide | (simp only [List.length_cons, List.length_nil]; omega)))
  | ((with_reducible refine' evd_chain ?ha ?hb ?hc ?h1 ?h2); (case ha => walk_at "ev"); (case hb => walk_at "ev"); (case hc => walk_at "ev"); (case h1 => walk_at "ov"); (case h2 => walk_at "ov"))
  | ((with_reducible refine' evd_cb ?ha ?hb); (case ha => walk_at "ea"); (case hb => first | with_reducible exact cv_len | with_reducible exact cv_max2 | with_reducible exact cv_int1 | ((with_reducible refine' cv_lenS ?hz); (case hz => omega))))
  | ((with_reducible refine' evd_c1 _ ?hp ?ha); (case ha => walk_at "ea"); (case hp => first | exact True.intro | assumption | (show _ ≤ _; omega))))
local macro_rules | `(tactic| walk_at "ea") => `(tactic| first
  | with_reducible exact eva_nil
  | ((with_reducible refine' eva_cons ?ha ?hb); (case ha => walk_at "ev"); (case hb => walk_at "ea")))
local macro_rules | `(tactic| walk_at "et") => `(tactic| first
  | with_reducible assumption
  | ((with_reducible refine' evt_test ?ha); (case ha => walk_at "ev"))
  | ((with_reducible refine' evt_B ?ha); (case ha => walk_at "ev"))
  | ((with_reducible refine' evt_and ?ha (fun hc => ?hb)); (case ha => walk_at "et"); (case hb => walk_at "et"))
  | ((with_reducible refine' evt_or ?ha (fun hc => ?hb)); (case ha => walk_at "et"); (case hb => walk_at "et"))
  | ((with_reducible refine' evt_not ?ha); (case ha => walk_at "et")))

local macro_rules | `(tactic| walk_at "wk") => `(tactic| first
  | exact Weak.nil
  | ((refine' Weak.keep ?h); (case h => walk_at "wk"))
  | ((refine' Weak.drop ?h); (case h => walk_at "wk")))

/-! ### lists told by their very items -/
section
variable {K : PySem.W.Frag} {σ : L2.St} {H : Hp} {B : Base} {Γ : List Sl} {Θ : List (Addr × Ob)} {i j k : Nat} {p : Addr} {xs : List V} {n : Int} {D : Ends} {te : TE} {ts tz : TS}
theorem evd_rawI (a : At K B Γ Θ σ H) (hi : Γ[i]? = some (.v (.ref p))) (hk : Θ[k]? = some (p, .raw xs)) (hx : xs[j]? = some (.int n)) : EvD K (tOp (rIxL K) (tVar i) (tC (.int (j : Int)))) σ H (.int n) := fun H1 e Q q => by
  have h := e _ _ (a.own.at_ hk).2
  exact ⟨.ref p, a.env.val hi, p, xs, (j : Int), .int n, rfl, rfl, SqL.of h, atI_nat hx, q _ H1 (Same.refl _) (.int n)⟩
theorem evv_raw {v : V} (a : At K B Γ Θ σ H) (hi : Γ[i]? = some (.v (.ref p))) (hk : Θ[k]? = some (p, .raw xs)) (hx : xs[j]? = some v) : EvV (tOp (rIxL K) (tVar i) (tC (.int (j : Int)))) σ H v := fun H1 e Q q => by
  have h := e _ _ (a.own.at_ hk).2
  exact ⟨.ref p, a.env.val hi, p, xs, (j : Int), v, rfl, rfl, SqL.of h, atI_nat hx, q H1 (Same.refl _)⟩
theorem ixN_nat {m j : Nat} (h : j < m) (hm : m < 2 ^ 60) : ixN m (j : Int) = some j := by
  unfold ixN
  rw [if_pos (by omega), if_pos (by omega)]
  simp
theorem q_setR (a : At K B Γ Θ σ H) (hi : Γ[i]? = some (.v (.ref p))) (hk : Θ[k]? = some (p, .raw xs)) (hj : j < xs.length) (hz : xs.length < 1000) (h : EvD K te σ H (.int n)) (q : ∀ H', At K B Γ (Θ.set k (p, .raw (xs.set j (.int n)))) σ H' → ts D σ H') :
    tSeq (tAsg te (gSub (tVar i) (tC (.int (j : Int))) rSetL)) ts D σ H := h H (Same.refl _) _ fun v H1 e hv => by
  cases hv
  have a1 := a.up e
  have h1 := (a1.own.at_ hk).2
  exact ⟨.ref p, a1.env.val hi, p, xs, (j : Int), j, rfl, rfl, h1, ixN_nat hj (by omega), q _ (a1.put hk ⟨(a1.own.at_ hk).1, upd_same⟩)⟩
theorem s_setR {D : Ends} (a : At K B Γ Θ σ H) (hi : Γ[i]? = some (.v (.ref p))) (hk : Θ[k]? = some (p, .raw xs)) (hj : j < xs.length) (hz : xs.length < 1000) (h : EvD K te σ H (.int n)) (q : ∀ H', At K B Γ (Θ.set k (p, .raw (xs.set j (.int n)))) σ H' → D.nx σ H') :
    tAsg te (gSub (tVar i) (tC (.int (j : Int))) rSetL) D σ H := h H (Same.refl _) _ fun v H1 e hv => by
  cases hv
  have a1 := a.up e
  have h1 := (a1.own.at_ hk).2
  exact ⟨.ref p, a1.env.val hi, p, xs, (j : Int), j, rfl, rfl, h1, ixN_nat hj (by omega), q _ (a1.put hk ⟨(a1.own.at_ hk).1, upd_same⟩)⟩
/-- an if without else, what follows shown once -/
theorem q_whenM {t : TT} {tu : TS} {b : Bool} (Mid : L2.St → Hp → Prop) (a : At K B Γ Θ σ H) (h : EvT K t σ H b) (h1 : b = true → ∀ H' D', At K B Γ Θ σ H' → (∀ σ2 H2, Mid σ2 H2 → D'.nx σ2 H2) → D'.rt = D.rt → tu D' σ H') (h2 : b = false → ∀ H', At K B Γ Θ σ H' → Mid σ H')
    (rest : ∀ σ2 H2, Mid σ2 H2 → tz D σ2 H2) : tSeq (tIfS t tu tNext) tz D σ H := q_when a h (fun e H' a' => h1 e H' { D with nx := tz D } a' rest rfl) fun e H' a' => rest _ _ (h2 e H' a')
theorem evd_lenH {ta : TE} {ds : List PyData} (ho : EvV ta σ H (.ref p)) (h : HasL K H p ds) : EvD K (tCB (rLenQ K) (tCons ta tNil)) σ H (.int (ds.length : Int)) := evd_lenV ho h
/-- l != [] -/
theorem evd_neNil {ta : TE} {ds : List PyData} (ho : EvV ta σ H (.ref p)) (h : HasL K H p ds) (hsh : Sh 3 (.list ds)) : EvD K (tOp (rNeD K) ta (tLst tNil)) σ H (.bool (decide (ds ≠ []))) := fun H1 e Q q => ho H1 e _ fun H2 e2 => by
  obtain ⟨xs, hx, hd⟩ := h.mono (e.trans e2)
  refine ⟨by show 0 ≤ sizeLine; exact Nat.zero_le _, fun p' hp' => ?_⟩
  have e3 := sm_new (o := .lst []) hp'
  refine ⟨.list ds, .list [], .lst (SqL.of (e3 _ _ hx)) (DtAll.dp _ _ (hd.mono e3)), .lst (SqL.of upd_same) .nil, hsh.shaped (by decide), rfl, ?_⟩
  have e0 : (!PyData.eqv (.list ds) (.list [])) = decide (ds ≠ []) := by
    cases ds with
    | nil => rfl
    | cons d ds => rfl
  rw [e0]
  exact q _ _ (e2.trans e3) (.bl _)
end
/-- all but one thing of the heap -/
def mask (H : Hp) (p : Addr) : Hp := fun b => if b = p then none else H b
theorem mask_p {H : Hp} {p : Addr} : mask H p p = none := if_pos rfl
theorem mask_ne {H : Hp} {p b : Addr} (h : b ≠ p) : mask H p b = H b := if_neg h
theorem mask_sm {H : Hp} {p : Addr} : Same (mask H p) H := fun b u e => by
  by_cases h : b = p
  · rw [h, mask_p] at e
    cases e
  · rwa [mask_ne h] at e
theorem mask_bt {H H' : Hp} {p : Addr} (h : Same (mask H p) H') : Bt p H H' := fun b u nb e => h b u (by rw [mask_ne nb]; exact e)
section
variable {P : Program} {w : World} {K : PySem.W.Frag} {mg : Str → Option Value} {base : Heap}
abbrev eI (l : List Int) : List PyData := l.map PyData.int
abbrev s__law_reader : Stmt := top 69
theorem sc__law_reader : FnScope ["_law_script"] ["_law_script"] (defScope s__law_reader) := ⟨rfl, rfl, rfl, by decide +kernel, rfl, by decide +kernel, by decide +kernel⟩
def SpReader (K : PySem.W.Frag) : Sp := fun vs H Q _ => ∃ l ns, vs = [.ref l] ∧ SqL K H l (ns.map V.int) ∧ ns.length ≤ 63 ∧ ∀ ps pr H', Same H H' → H pr = none → H ps = none → HasL K H' ps (eI ns) → H' pr = some (.lst [.ref ps, .int 0, .int 0, .int 0]) → Q (.ref pr) H'
theorem df_reader (T : Top mg) (F : Fn K mg "_law_reader" "_law_reader" s__law_reader) : Df P w K mg base 1 "_law_reader" (SpReader K) := by
  refine df_any F sc__law_reader (fun _ _ _ _ _ _ us hl => match us, hl with | [_], _ => rfl) (fun vs H Q E ⟨_, _, h, _⟩ => by rw [h]; rfl) (fun f cdv A outer s H vs Q E hr h => ?_)
  refine ⟨_, (pss_one (ps_ret (pe_lst (pa_cons (pe_slice (sl_list' K (by rfl)) (pv 0) po_none (po_some pe_int)) (pa_cons pe_int (pa_cons pe_int (pa_cons pe_int pa_nil))))))), ?_⟩
  obtain ⟨l, ns, rfl, hs, hz, k⟩ := h
  refine ⟨.ref l, rfl, 63, rfl, l, ns.map V.int, rfl, hs, fun ps hps => ?_⟩
  have ec : cutV (ns.map V.int) none (some 63) = ns.map V.int := by
    unfold cutV
    have e1 : HT.sIx (ns.map V.int).length (ns.map V.int).length (some 63) = min 63 (ns.map V.int).length := HT.sIx_nat _ _ 63
    have e2 : HT.sIx (ns.map V.int).length 0 none = 0 := rfl
    rw [e1, e2, List.drop_zero, List.length_map, Nat.min_eq_right hz]
    exact List.take_of_length_le (by simp)
  rw [ec]
  refine ⟨by show 4 ≤ sizeLine; decide, fun pr hpr => ?_⟩
  have e1 : Same H (upd H ps (.lst (ns.map V.int))) := sm_new hps
  exact k ps pr _ (e1.trans (sm_new hpr)) (e1.free hpr) hps ⟨ns.map V.int, sm_new hpr _ _ upd_same, dtAll_ints ns⟩ upd_same
/-- where the reader stands: the script's numbers, two counters, the draws so far -/
abbrev s__law_draw : Stmt := top 70
theorem sc__law_draw : FnScope ["_law_reader_here", "_law_many", "_law_found", "_law_cell", "_law_once"] ["_law_reader_here", "_law_many"] (defScope s__law_draw) := ⟨rfl, rfl, rfl, by decide +kernel, rfl, by decide +kernel, by decide +kernel⟩
def SpDraw (K : PySem.W.Frag) : Sp := fun vs H Q _ => ∃ pr ps ns x y n m, vs = [.ref pr, .int ((m : Nat) : Int)] ∧ 1 ≤ m ∧ m ≤ 100 ∧ H pr = some (.lst [.ref ps, .int x, .int y, .int ((n : Nat) : Int)]) ∧ ps ≠ pr ∧ HasL K H ps (eI ns) ∧ ns.length ≤ 63 ∧ n ≤ 1000 ∧
  ∀ (v : Nat) x' y' H', v < m → Bt pr H H' → H' pr = some (.lst [.ref ps, .int x', .int y', .int ((n + 1 : Nat) : Int)]) → Q (.int (v : Int)) H'
theorem df_draw (T : Top mg) (F : Fn K mg "_law_draw" "_law_draw" s__law_draw) : Df P w K mg base 1 "_law_draw" (SpDraw K) := by
  refine df_any F sc__law_draw (fun _ _ _ _ _ _ us hl => match us, hl with | [_, _], _ => rfl) (fun vs H Q E ⟨_, _, _, _, _, _, _, h, _⟩ => by rw [h]; rfl) (fun f cdv A outer s H vs Q E hr h => ?_)
  refine ⟨_, (pss_cons (ps_asg (pe_op op_add (pe_ix (ix_list' K (by rfl)) (pv 0) pe_int (fun _ _ => rfl)) pe_int) (pg_sub (pv 0) pe_int set_list))
      (pss_cons (ps_if (pt_cmpR op_gt (pe_ix (ix_list' K (by rfl)) (pv 0) pe_int (fun _ _ => rfl)) pe_int (nomark _)) (pss_cons (ps_set (i := 2) sc__law_draw.nd rfl (by first | exact Or.inl rfl | exact Or.inr rfl) (pe_op op_mod (pe_callTy c_int1 (by rfl) T.int_ (by decide +kernel) (pa_cons (pe_ix (ix_list' K (by rfl)) (pv 0) pe_int (fun _ _ => rfl)) pa_nil)) (pv 1)))
      (pss_cons (ps_asg (pe_op op_fdiv (pe_ix (ix_list' K (by rfl)) (pv 0) pe_int (fun _ _ => rfl)) (pv 1)) (pg_sub (pv 0) pe_int set_list))
      (pss_one (ps_ret (pv 2))))) pss_nil)
      (pss_cons (ps_set (i := 3) sc__law_draw.nd rfl (by first | exact Or.inl rfl | exact Or.inr rfl) pe_int)
      (pss_cons (ps_if (pt_cmpR (op_neD' K (by rfl) hr.units) (pe_ix (ix_list' K (by rfl)) (pv 0) pe_int (fun _ _ => rfl)) (pe_lst pa_nil) (nomark _)) (pss_one (ps_set (i := 3) sc__law_draw.nd rfl (by first | exact Or.inl rfl | exact Or.inr rfl) (pe_ix (ix_list' K (by rfl)) (pe_ix (ix_list' K (by rfl)) (pv 0) pe_int (fun _ _ => rfl)) (pe_op op_mod (pe_callTy c_int1 (by rfl) T.int_ (by decide +kernel) (pa_cons (pe_ix (ix_list' K (by rfl)) (pv 0) pe_int (fun _ _ => rfl)) pa_nil)) (pe_callB (c_len' K (by rfl)) (by rfl) T.len_ (by decide +kernel) (pa_cons (pe_ix (ix_list' K (by rfl)) (pv 0) pe_int (fun _ _ => rfl)) pa_nil))) (fun _ _ => rfl)))) pss_nil)
      (pss_cons (ps_asg (pe_op op_add (pe_ix (ix_list' K (by rfl)) (pv 0) pe_int (fun _ _ => rfl)) pe_int) (pg_sub (pv 0) pe_int set_list))
      (pss_cons (ps_if (PW.pt (pw_and (pt_cmpR op_ge (pv 3) (pe_op op_pow pe_int pe_int) (nomark _)) (pw_and1 (pt_cmpR op_le (pe_ix (ix_list' K (by rfl)) (pv 0) pe_int (fun _ _ => rfl)) (pe_callB (c_len' K (by rfl)) (by rfl) T.len_ (by decide +kernel) (pa_cons (pe_ix (ix_list' K (by rfl)) (pv 0) pe_int (fun _ _ => rfl)) pa_nil)) (nomark _))))) (pss_cons (ps_asg (pe_op op_fdiv (pv 3) (pv 1)) (pg_sub (pv 0) pe_int set_list))
      (pss_one (ps_ret (pe_op op_mod (pe_callTy c_int1 (by rfl) T.int_ (by decide +kernel) (pa_cons (pv 3) pa_nil)) (pv 1))))) pss_nil)
      (pss_cons (ps_set (i := 4) sc__law_draw.nd rfl (by first | exact Or.inl rfl | exact Or.inr rfl) (pe_op op_mod (pe_callTy c_int1 (by rfl) T.int_ (by decide +kernel) (pa_cons (pe_op op_pow (pe_op op_add (pe_op op_add (pe_op op_mod (pe_callTy c_int1 (by rfl) T.int_ (by decide +kernel) (pa_cons (pv 3) pa_nil)) pe_int) (pe_op op_mul pe_int (pe_ix (ix_list' K (by rfl)) (pv 0) pe_int (fun _ _ => rfl)))) pe_int) pe_int) pa_nil)) pe_int))
      (pss_one (ps_ret (pe_op op_mod (pe_callTy c_int1 (by rfl) T.int_ (by decide +kernel) (pa_cons (pe_op op_fdiv (pe_op op_mod (pe_callTy c_int1 (by rfl) T.int_ (by decide +kernel) (pa_cons (pe_op op_pow (pe_op op_add (pv 4) (pe_op op_mul pe_int (pe_ix (ix_list' K (by rfl)) (pv 0) pe_int (fun _ _ => rfl)))) pe_int) pa_nil)) pe_int) pe_int) pa_nil)) (pv 1))))))))))), ?_⟩
  obtain ⟨pr, ps, ns, x, y, n, m, rfl, hm1, hm2, hp, hne, hps, hz, hn, k⟩ := h
  have a : At K (.of (mask H pr)) [.v (.ref pr), .d (.int ((m : Nat) : Int)), .o, .o, .o] [(pr, .raw [.ref ps, .int x, .int y, .int ((n : Nat) : Int)])] (L2.start ["_law_reader_here", "_law_many", "_law_found", "_law_cell", "_law_once"] [.ref pr, .int ((m : Nat) : Int)]) H :=
    ⟨mask_sm, ⟨rfl, .int _, True.intro, True.intro, True.intro, True.intro⟩, ⟨List.nodup_cons.mpr ⟨(fun h => nomatch h), List.nodup_nil⟩, fun e he => by
      obtain rfl := List.mem_singleton.mp he
      exact (show ObOk K (mask H pr) H pr (.raw _) from ⟨mask_p, hp⟩)⟩, True.intro⟩
  obtain ⟨xs, hx, hd⟩ := hps
  obtain rfl := hd.ints
  have hpl : ∀ H', Same (mask H pr) H' → HasL K H' ps (eI ns) := fun H' e => ⟨ns.map V.int, e _ _ (by rw [mask_ne hne]; exact hx), dtAll_ints ns⟩
  have hm : (0 : Int) < ((m : Nat) : Int) := by omega
  have md : ∀ i : Int, ∃ v : Nat, i % ((m : Nat) : Int) = (v : Int) ∧ v < m := fun i => by
    have h1 := Int.emod_nonneg i (Int.ne_of_gt hm)
    have h2 := Int.emod_lt_of_pos i hm
    exact ⟨(i % ((m : Nat) : Int)).toNat, by omega, by omega⟩
  have last : ∀ {x' y' i : Int} {te : TE} {σ' : L2.St} {H1 : Hp} {Γ : List Sl}, At K (.of (mask H pr)) Γ [(pr, .raw [.ref ps, .int x', .int y', .int ((n : Nat) + 1 : Int)])] σ' H1 → EvD K te σ' H1 (.int (i % ((m : Nat) : Int))) → tRet te { nx := fun _ H' => Q .non H', rt := Q } σ' H1 := fun {x' y' i te σ' H1 Γ} a1 he => by
    obtain ⟨v, e, hv⟩ := md i
    rw [e] at he
    refine he H1 (Same.refl _) _ fun u H2 e2 hu => ?_
    cases hu
    have a2 := a1.up e2
    exact k v x' y' H2 hv (mask_bt a2.sm) (a2.own.at_ (k := 0) rfl).2
  refine' q_setR (k := 0) (j := 3) a rfl rfl (by simp) (by simp) (evd_op (evd_rawI (k := 0) (j := 3) a rfl rfl rfl) evd_i (ov_I0 fun _ => Dt.int _)) fun H1 a1 => ?_
  refine' q_when (b := decide (y > 0)) a1 (evt_test (evd_op (evd_rawI (k := 0) (j := 2) a1 rfl rfl rfl) evd_i (ov_I0 fun _ => Dt.bl _))) (fun _ H2 a2 => ?hA) fun _ H2 a2 => ?hB
  case hA =>
    refine' q_asg a2 (evd_op (evd_cb (eva_cons (evd_rawI (k := 0) (j := 2) a2 rfl rfl rfl) eva_nil) cv_int1) (evd_var a2 (i := 1) rfl) (ov_I hm fun _ => Dt.int _)) fun σ3 H3 a3 => ?_
    refine' q_setR (k := 0) (j := 2) a3 rfl rfl (by simp) (by simp) (evd_op (evd_rawI (k := 0) (j := 2) a3 rfl rfl rfl) (evd_var a3 (i := 1) rfl) (ov_I ⟨hm, by omega⟩ fun _ => Dt.int _)) fun H4 a4 => ?_
    exact last a4 (evd_var a4 (i := 2) rfl)
  case hB =>
    refine' q_asg a2 evd_i fun σ3 H3 a3 => ?_
    refine' q_whenM (b := decide (eI ns ≠ [])) (fun σ' H' => ∃ z : Int, At K (.of (mask H pr)) [.v (.ref pr), .d (.int ((m : Nat) : Int)), .o, .d (.int z), .o] [(pr, .raw [.ref ps, .int x, .int y, .int ((n : Nat) + 1 : Int)])] σ' H') a3 (evt_test (evd_neNil (p := ps) (evv_raw (k := 0) (j := 0) a3 rfl rfl rfl) (hpl _ a3.sm) ?hsh)) (fun hb H4 D' a4 hD _ => ?hC) (fun _ H4 a4 => ⟨41, a4⟩) fun σ4 H4 ⟨z, a4⟩ => ?hE
    case hsh => exact (sh_lst (n := 0) fun d hd => by
      obtain ⟨i, _, rfl⟩ := List.mem_map.mp hd
      exact sh_int i).mono (by decide)
    case hC =>
      have hne2 : ns ≠ [] := fun e => by
        rw [e] at hb
        exact absurd hb (by decide)
      have hlen : (0 : Int) < ((eI ns).length : Int) := by
        rw [List.length_map]
        have := List.length_pos_iff.mpr hne2
        omega
      have hi0 := Int.emod_nonneg x (Int.ne_of_gt hlen)
      have hi1 := Int.emod_lt_of_pos x hlen
      have hl2 : (eI ns).length = ns.length := List.length_map _
      have hi2 : (x % ((eI ns).length : Int)).toNat < ns.length := by omega
      refine' s_asg (d := .int (ns[(x % ((eI ns).length : Int)).toNat]'hi2)) a4 (evd_ixL (n := (x % ((eI ns).length : Int)).toNat) (iN := x % ((eI ns).length : Int)) (evv_raw (k := 0) (j := 0) a4 rfl rfl rfl) (hpl _ a4.sm) ?he1 (by omega) ?he2) fun σ5 H5 a5 => hD _ _ ⟨_, a5⟩
      case he1 => exact evd_op (evd_cb (eva_cons (evd_rawI (k := 0) (j := 1) a4 rfl rfl rfl) eva_nil) cv_int1) (evd_lenV (evv_raw (k := 0) (j := 0) a4 rfl rfl rfl) (hpl _ a4.sm)) (ov_I hlen fun _ => Dt.int _)
      case he2 => rw [List.getElem?_map, List.getElem?_eq_getElem hi2]; rfl
    case hE =>
      refine' q_setR (k := 0) (j := 1) a4 rfl rfl (by simp) (by simp) (evd_op (evd_rawI (k := 0) (j := 1) a4 rfl rfl rfl) evd_i (ov_I0 fun _ => Dt.int _)) fun H5 a5 => ?_
      refine' q_when (b := decide (z ≥ 10 ^ (18 : Int).toNat) && decide (x + 1 ≤ ((eI ns).length : Int))) a5 (evt_and (evt_test (evd_op (evd_var a5 (i := 3) rfl) (evd_op evd_i evd_i (ov_I ⟨by decide, by decide, by decide⟩ fun _ => Dt.int _)) (ov_I0 fun _ => Dt.bl _))) fun _ => evt_test (evd_op (evd_rawI (k := 0) (j := 1) a5 rfl rfl rfl) (evd_lenV (evv_raw (k := 0) (j := 0) a5 rfl rfl rfl) (hpl _ a5.sm)) (ov_I0 fun _ => Dt.bl _))) (fun _ H6 a6 => ?hF) fun _ H6 a6 => ?hG
      case hF =>
        refine' q_setR (k := 0) (j := 2) a6 rfl rfl (by simp) (by simp) (evd_op (evd_var a6 (i := 3) rfl) (evd_var a6 (i := 1) rfl) (ov_I ⟨hm, by omega⟩ fun _ => Dt.int _)) fun H7 a7 => ?_
        exact last a7 (evd_op (evd_cb (eva_cons (evd_var a7 (i := 3) rfl) eva_nil) cv_int1) (evd_var a7 (i := 1) rfl) (ov_I hm fun _ => Dt.int _))
      case hG =>
        have h31 : (0 : Int) < 2147483563 := by decide
        have hb1 := Int.emod_nonneg z (Int.ne_of_gt h31)
        have hb2 := Int.emod_lt_of_pos z h31
        refine' q_asg (d := .int (((z % 2147483563 + 7411 * ((n : Int) + 1) + 5) ^ (5 : Int).toNat) % 2147483629)) a6 (evd_op (evd_cb (eva_cons (evd_op (evd_op (evd_op (evd_op (evd_cb (eva_cons (evd_var a6 (i := 3) rfl) eva_nil) cv_int1) evd_i (ov_I h31 fun _ => Dt.int _)) (evd_op evd_i (evd_rawI (k := 0) (j := 3) a6 rfl rfl rfl) (ov_I (.inl ⟨by decide, by decide⟩) fun _ => Dt.int _)) (ov_I0 fun _ => Dt.int _)) evd_i (ov_I0 fun _ => Dt.int _)) evd_i (ov_I ⟨by decide, by decide, by omega⟩ fun _ => Dt.int _)) eva_nil) cv_int1) evd_i (ov_I (by decide) fun _ => Dt.int _)) fun σ7 H7 a7 => ?_
        generalize ((z % 2147483563 + 7411 * ((n : Int) + 1) + 5) ^ (5 : Int).toNat) = u at a7
        have hc1 := Int.emod_nonneg u (show (2147483629 : Int) ≠ 0 by decide)
        have hc2 := Int.emod_lt_of_pos u (show (0 : Int) < 2147483629 by decide)
        refine last (i := ((u % 2147483629 + 93001 * ((n : Int) + 1)) ^ (5 : Int).toNat) % 2147483647 / 64) a7 ?_
        exact (evd_op (evd_cb (eva_cons (evd_op (evd_op (evd_cb (eva_cons (evd_op (evd_op (evd_var a7 (i := 4) rfl) (evd_op evd_i (evd_rawI (k := 0) (j := 3) a7 rfl rfl rfl) (ov_I (.inl ⟨by decide, by decide⟩) fun _ => Dt.int _)) (ov_I0 fun _ => Dt.int _)) evd_i (ov_I ⟨by decide, by decide, by omega⟩ fun _ => Dt.int _)) eva_nil) cv_int1) evd_i (ov_I (by decide) fun _ => Dt.int _)) evd_i (ov_I ⟨by decide, by decide⟩ fun _ => Dt.int _)) eva_nil) cv_int1) (evd_var a7 (i := 1) rfl) (ov_I hm fun _ => Dt.int _))
end
end K15

/-! part L2 -/
set_option Elab.async false
set_option linter.all false
set_option maxRecDepth 100000
set_option maxHeartbeats 1000000
namespace K15
open PySem PySem.Spec PyProof.Rows L2 RZ
section
variable {K : PySem.W.Frag} {σ : L2.St} {H : Hp} {B : Base} {Γ : List Sl} {Θ : List (Addr × Ob)} {i j k k2 : Nat} {p pr ps : Addr} {x y : Int} {ns : List Int} {n m : Nat} {te : TE} {Q : VK}
/-- a draw -/
theorem run_draw (a : At K B Γ Θ σ H) (hi : Γ[i]? = some (.v (.ref pr))) (hk : Θ[k]? = some (pr, .raw [.ref ps, .int x, .int y, .int ((n : Nat) : Int)])) (hk2 : Θ[k2]? = some (ps, .lst (eI ns))) (hz : ns.length ≤ 63) (hn : n ≤ 1000) (he : EvD K te σ H (.int ((m : Nat) : Int))) (h1 : 1 ≤ m) (h2 : m ≤ 100)
    (q : ∀ (v : Nat) x' y' H', v < m → At K B Γ (Θ.set k (pr, .raw [.ref ps, .int x', .int y', .int ((n + 1 : Nat) : Int)])) σ H' → Q (.int (v : Int)) H') : tCallR (SpDraw K) (tCons (tVar i) (tCons te tNil)) σ H Q := by
  refine ⟨.ref pr, a.env.val hi, ?_⟩
  refine he H (Same.refl _) _ fun v H1 e hv => ?_
  cases hv
  have a1 := a.up e
  have hr := (a1.own.at_ hk).2
  obtain ⟨xs, hx, hd⟩ := a1.hasL hk2
  have hne : ps ≠ pr := by
    rintro rfl
    rw [hx] at hr
    cases hr
    cases ns with
    | nil => cases hd
    | cons c ns =>
      cases hd with
      | cons h _ => cases h
  refine ⟨pr, ps, ns, x, y, n, m, rfl, h1, h2, hr, hne, ⟨xs, hx, hd⟩, hz, hn, fun v x' y' H' hv bt hr' => ?_⟩
  refine q v x' y' H' hv ((a1.put hk (u := .lst [.ref ps, .int x', .int y', .int ((n + 1 : Nat) : Int)]) (o' := .raw [.ref ps, .int x', .int y', .int ((n + 1 : Nat) : Int)]) ⟨(a1.own.at_ hk).1, upd_same⟩).up fun b u e => ?_)
  by_cases hb : b = pr
  · subst hb
    rw [upd_same] at e
    cases e
    exact hr'
  · rw [upd_ne hb] at e
    exact bt b u hb e
theorem sls_unset : ∀ {σ : L2.St} {Γ : List Sl} {v : Nat}, Sls K H (σ.set v none) Γ → (Γ[v]? = some .o ∨ Γ[v]? = none) → Sls K H σ Γ
  | [], [], _, h, _ => h
  | s :: σ, g :: Γ, 0, h, e => by
    have e : g = .o := by simpa using e
    subst e
    exact ⟨True.intro, h.2⟩
  | s :: σ, g :: Γ, v + 1, h, e => ⟨h.1, sls_unset (v := v) h.2 (by simpa using e)⟩
  | [], _ :: _, _, h, _ => h.elim
  | _ :: _, [], 0, h, _ => h.elim
  | _ :: _, [], _ + 1, h, _ => h.elim
theorem sls_unwipe {Γ : List Sl} : ∀ {vs : List Nat}, (∀ v ∈ vs, Γ[v]? = some .o ∨ Γ[v]? = none) → Sls K H (wipe σ vs) Γ → Sls K H σ Γ
  | [], _, h => h
  | v :: vs, e, h => sls_unwipe (vs := vs) (fun u hu => e u (List.mem_cons_of_mem _ hu)) (sls_unset (σ := wipe σ vs) h (e v (List.mem_cons_self ..)))
theorem wipeG_o : ∀ {vs : List Nat} {v : Nat}, v ∈ vs → (wipeG Γ vs)[v]? = some .o ∨ (wipeG Γ vs)[v]? = none
  | u :: vs, v, h => by
    show ((wipeG Γ vs).set u .o)[v]? = _ ∨ ((wipeG Γ vs).set u .o)[v]? = _
    rw [List.getElem?_set]
    by_cases e : u = v
    · subst e
      rw [if_pos rfl]
      split
      · exact .inl rfl
      · exact .inr rfl
    · rw [if_neg e]
      exact wipeG_o ((List.mem_cons.mp h).resolve_left fun z => e z.symm)
theorem setG_comm {g : Sl} : ∀ {vs : List Nat}, j ∉ vs → wipeG (Γ.set j g) vs = (wipeG Γ vs).set j g
  | [], _ => rfl
  | v :: vs, h => by
    have h1 : v ≠ j := fun e => h (by rw [e]; exact List.mem_cons_self ..)
    have h2 : j ∉ vs := fun e => h (List.mem_cons_of_mem _ e)
    show (wipeG (Γ.set j g) vs).set v .o = ((wipeG Γ vs).set v .o).set j g
    rw [setG_comm h2, List.set_comm _ _ h1.symm]
theorem wipeG_set0 {g : Sl} : ∀ {vs : List Nat}, j ∈ vs → wipeG (Γ.set j g) vs = wipeG Γ vs
  | v :: vs, h => by
    show (wipeG (Γ.set j g) vs).set v .o = (wipeG Γ vs).set v .o
    by_cases hm : j ∈ vs
    · rw [wipeG_set0 hm]
    · have e : j = v := (List.mem_cons.mp h).resolve_right hm
      subst e
      rw [setG_comm hm, List.set_set]
theorem wipeG_wipeG : ∀ {vs ws : List Nat}, (∀ v ∈ vs, v ∈ ws) → wipeG (wipeG Γ vs) ws = wipeG Γ ws
  | [], _, _ => rfl
  | v :: vs, ws, h => by
    show wipeG ((wipeG Γ vs).set v .o) ws = wipeG Γ ws
    rw [wipeG_set0 (h v (List.mem_cons_self ..)), wipeG_wipeG fun u hu => h u (List.mem_cons_of_mem _ hu)]
theorem wipeG_set {g : Sl} {vs : List Nat} (h : j ∈ vs) : wipeG ((wipeG Γ vs).set j g) vs = wipeG Γ vs := by rw [wipeG_set0 h, wipeG_wipeG fun _ h => h]
/-- a comprehension whose element changes own objects; τ: what is told of them -/
theorem evm_lcn {α τ : Type} {l : List α} {en : α → PyData} {vs : List Nat} {wi : TI} {Θf : τ → List (Addr × Ob)} {t0 : τ} (Ok : Nat → τ → List PyData → Prop) (a : At K B Γ (Θf t0) σ H) (S : SrcS K wi σ H (l.map en)) (hz : l.length ≤ 100000) (hj : j ∈ vs) (h0 : Ok 0 t0 [])
    (hlen : ∀ i t acc, Ok i t acc → acc.length = i)
    (hs : ∀ D (G : Hp → Prop) st i x t acc σ2 H3 (Q : VK), l[i]? = some x → Ok i t acc → At K (B.and G st) ((wipeG Γ vs).set j (.d (en x))) ((D, .lst acc) :: Θf t) σ2 H3 →
      (∀ v d t' H4, Ok (i + 1) t' (acc ++ [d]) → At K (B.and G st) ((wipeG Γ vs).set j (.d (en x))) ((D, .lst acc) :: Θf t') σ2 H4 → Dt K H4 v d → Q v H4) → te σ2 H3 Q)
    (q : ∀ D t acc H', Ok l.length t acc → At K B (wipeG Γ vs) ((D, .lst acc) :: Θf t) σ H' → Q (.ref D) H') : tLc wi (gName j) tYes te vs σ H Q :=
  S.run H (Same.refl H) _ fun J G H1 e st hG W D hD => by
    have a1 : At K (B.and G st) Γ (Θf t0) σ H1 := (a.up e).fact st hG
    have a2 : At K (B.and G st) (wipeG Γ vs) ((D, .lst []) :: Θf t0) (wipe σ vs) (upd H1 D (.lst [])) :=
      (At.add (o := .lst []) a1 (sm_new hD) hD ⟨a1.sm.free hD, [], upd_same, .nil⟩).step (Same.refl _) (((a1.env.im (im_same (sm_new hD))).wipe vs))
    refine lc_it W (fun i H' => ∃ t acc, Ok i t acc ∧ At K (B.and G st) (wipeG Γ vs) ((D, .lst acc) :: Θf t) (wipe σ vs) H') ⟨t0, [], h0, a2⟩ (fun i H' _ ⟨_, _, _, h⟩ => h.gh.2) (fun i x H3 H4 hi ⟨t, acc, ok, h⟩ yy => ?_) fun H' ⟨t, acc, ok, h⟩ => ?_
    · obtain ⟨s, d, hdi, hx⟩ := yy
      rw [List.length_map] at hi
      rw [List.getElem?_map, List.getElem?_eq_getElem hi] at hdi
      obtain rfl := Option.some.inj hdi
      have h2 := (h.up s).setD (i := j) hx
      refine ⟨wipe_set hj _, ?_⟩
      show te _ H4 fun y H5 => ∃ acc', H5 D = some (.lst acc') ∧ acc'.length < sizeLine ∧ _
      refine hs D G st i l[i] t acc _ H4 _ (List.getElem?_eq_getElem hi) ok h2 fun v d t' H5 ok' h5 hv => ?_
      obtain ⟨hn, acc', ha, hd⟩ := h5.own.at_ (k := 0) rfl
      refine ⟨acc', ha, ?_, t', acc ++ [d], ok', ?_⟩
      · rw [hd.length, hlen i t acc ok]
        exact sz_lt (by omega)
      · have h6 := h5.put (k := 0) rfl (u := .lst (acc' ++ [v])) (o' := .lst (acc ++ [d])) ⟨hn, acc' ++ [v], upd_same, by
          have im : Im H5 (upd H5 D (.lst (acc' ++ [v]))) := im_lst ha
          exact DtAll.im im _ _ (hd.snoc hv)⟩
        have h7 : At K (B.and G st) (wipeG Γ vs) ((D, .lst (acc ++ [d])) :: Θf t') (wipe σ vs) (upd H5 D (.lst (acc' ++ [v]))) := by
          refine h6.step (Same.refl _) ?_
          have := (h6.env.wipe vs)
          rw [wipe_set hj] at this
          have e2 : wipeG ((wipeG Γ vs).set j (.d (en l[i]))) vs = wipeG Γ vs := wipeG_set hj
          rw [e2] at this
          exact this
        exact h7
    · rw [List.length_map] at ok
      refine q D t acc H' ok ?_
      have h' := h.less
      exact h'.step (Same.refl _) (sls_unwipe (fun v hv => wipeG_o hv) h'.env)
end
end K15

/-! part L3 -/
set_option Elab.async false
set_option linter.all false
set_option maxRecDepth 100000
set_option maxHeartbeats 1000000
namespace K15
open PySem PySem.Spec PyProof.Rows L2 RZ
/-! ### steps by a word -/
local macro_rules | `(tactic| walk_at "ov") => `(tactic| first
  | with_reducible exact ov_eqS
  | with_reducible exact ov_eqI
  | with_reducible exact ov_neS
  | with_reducible exact ov_neI
  | with_reducible exact ov_neB
  | with_reducible exact ov_ltS
  | with_reducible exact ov_inS
  | with_reducible exact ov_I0 (fun _ => Dt.int _)
  | with_reducible exact ov_I0 (fun _ => Dt.bl _))
local macro_rules | `(tactic| walk_at "ev") => `(tactic| first
  | with_reducible exact evd_i
  | with_reducible exact evd_s
  | with_reducible exact evd_b
  | with_reducible exact evd_n
  | ((with_reducible refine' evd_var (by assumption) ?hv); (case hv => rfl))
  | with_reducible assumption
  | ((with_reducible refine' evd_op ?ha ?hb ?hr); (case ha => walk_at "ev"); (case hb => walk_at "ev"); (case hr => walk_at "ov"))
  | ((with_reducible refine' evd_and ?ha (fun hc => ?hb)); (case ha => walk_at "ev"); (case hb => walk_at "ev"))
  | ((with_reducible refine' evd_or ?ha (fun hc => ?hb)); (case ha => walk_at "ev"); (case hb => walk_at "ev"))
  | ((with_reducible refine' evd_not ?ha); (case ha => walk_at "ev"))
  | ((with_reducible refine' evd_isi ?ha ?hb); (case ha => walk_at "ev"); (case hb => first | exact kb_ii | exact kb_ib | exact kb_ss | exact kb_tt))
  | ((with_reducible refine' evd_tup ?ha ?hb); (case ha => walk_at "ea"); (case hb => first | decide | (simp only [List.length_cons, List.length_nil]; omega)))
  | ((with_reducible refine' evd_chain ?ha ?hb ?hc ?h1 ?h2); (case ha => walk_at "ev"); (case hb => walk_at "ev"); (case hc => walk_at "ev"); (case h1 => walk_at "ov"); (case h2 => walk_at "ov"))
  | ((with_reducible refine' evd_cb ?ha ?hb); (case ha => walk_at "ea"); (case hb => first | with_reducible exact cv_len | with_reducible exact cv_max2 | with_reducible exact cv_int1 | ((with_reducible refine' cv_lenS ?hz); (case hz => omega))))
  | ((with_reducible refine' evd_c1 _ ?hp ?ha); (case ha => walk_at "ea"); (case hp => first | exact True.intro | assumption | (show _ ≤ _; omega))))
local macro_rules | `(tactic| walk_at "ea") => `(tactic| first
  | with_reducible exact eva_nil
  | ((with_reducible refine' eva_cons ?ha ?hb); (case ha => walk_at "ev"); (case hb => walk_at "ea")))
local macro_rules | `(tactic| walk_at "et") => `(tactic| first
  | with_reducible assumption
  | ((with_reducible refine' evt_test ?ha); (case ha => walk_at "ev"))
  | ((with_reducible refine' evt_B ?ha); (case ha => walk_at "ev"))
  | ((with_reducible refine' evt_and ?ha (fun hc => ?hb)); (case ha => walk_at "et"); (case hb => walk_at "et"))
  | ((with_reducible refine' evt_or ?ha (fun hc => ?hb)); (case ha => walk_at "et"); (case hb => walk_at "et"))
  | ((with_reducible refine' evt_not ?ha); (case ha => walk_at "et")))

local macro_rules | `(tactic| walk_at "wk") => `(tactic| first
  | exact Weak.nil
  | ((refine' Weak.keep ?h); (case h => walk_at "wk"))
  | ((refine' Weak.drop ?h); (case h => walk_at "wk")))

section
variable {K : PySem.W.Frag} {σ : L2.St} {H : Hp} {p : Addr} {ta tb : TE} {ds es : List PyData}
theorem evl_catV (ho : EvV ta σ H (.ref p)) (h : HasL K H p ds) (h2 : EvL K tb σ H es) (hz : ds.length + es.length ≤ 100000) : EvL K (tOp rCat ta tb) σ H (ds ++ es) := fun H1 e Q q => ho H1 e _ fun H2 e2 => h2 H2 (e.trans e2) _ fun b ys H3 hb e3 hy hdy => by
  obtain ⟨xs, hx, hd⟩ := h.mono ((e.trans e2).trans e3)
  refine ⟨p, b, xs, ys, rfl, rfl, hx, hy, by rw [hd.length, hdy.length]; exact sz_of hz, fun r hr => ?_⟩
  have e4 := sm_new (o := .lst (xs ++ ys)) hr
  exact q r _ _ ((e2.trans e3).free hr) ((e2.trans e3).trans e4) upd_same ((hd.append hdy).mono e4)
end
/-- letters as machines have them -/
structure LOk (L : List Str) : Prop where
  l0 : 0 < L.length
  l1 : L.length ≤ 3
  l2 : ∀ x ∈ L, x.length ≤ 10
  nd : L.Nodup
  nm : allNm L = true
  asc : ascB L = true
def letterLots : List (List Str) := [["a"], ["a", "b"], ["b", "go"], ["a", "b", "zzzzzzzz"], ["letters", "state"], ["on"], ["no", "x", "yes"]]
theorem lots_ok : ∀ L ∈ letterLots, LOk L := fun L h => by
  have : ∀ L ∈ letterLots, (0 < L.length ∧ L.length ≤ 3 ∧ (∀ x ∈ L, x.length ≤ 10) ∧ L.Nodup) ∧ allNm L = true ∧ ascB L = true := by decide +kernel
  obtain ⟨⟨a, b, c, d⟩, e, f⟩ := this L h
  exact ⟨a, b, c, d, e, f⟩
section
variable {P : Program} {w : World} {K : PySem.W.Frag} {mg : Str → Option Value} {base : Heap}
/-- the reader before and after: what is kept, and its counter -/
def RdAt (K : PySem.W.Frag) (H : Hp) (pr ps : Addr) (ns : List Int) (n : Nat) : Prop := ∃ x y, H pr = some (.lst [.ref ps, .int x, .int y, .int ((n : Nat) : Int)]) ∧ ps ≠ pr ∧ HasL K H ps (eI ns) ∧ ns.length ≤ 63
def RdTo (H H' : Hp) (pr ps : Addr) (n : Nat) : Prop := Bt pr H H' ∧ ∃ x y, H' pr = some (.lst [.ref ps, .int x, .int y, .int ((n : Nat) : Int)])
abbrev s__law_random_letters : Stmt := top 71
theorem sc__law_random_letters : FnScope ["_law_reader_here", "_law_lots"] ["_law_reader_here"] (defScope s__law_random_letters) := ⟨rfl, rfl, rfl, by decide +kernel, rfl, by decide +kernel, by decide +kernel⟩
def SpRandL (K : PySem.W.Frag) : Sp := fun vs H Q _ => ∃ pr ps ns n, vs = [.ref pr] ∧ RdAt K H pr ps ns n ∧ n ≤ 900 ∧ ∀ L v H', L ∈ letterLots → RdTo H H' pr ps (n + 1) → Dt K H' v (eL L) → Q v H'
/-- the reader as own objects -/
theorem rd_start {H : Hp} {pr ps : Addr} {x y : Int} {n : Nat} {Γ : List Sl} {σ : L2.St} (hp : H pr = some (.lst [.ref ps, .int x, .int y, .int ((n : Nat) : Int)])) (hne : ps ≠ pr) {ns : List Int} (hs : HasL K H ps (eI ns)) (hG : Sls K H σ Γ) :
    At K (.of (mask (mask H pr) ps)) Γ [(pr, .raw [.ref ps, .int x, .int y, .int ((n : Nat) : Int)]), (ps, .lst (eI ns))] σ H := by
  refine ⟨mask_sm.trans mask_sm, hG, ⟨List.nodup_cons.mpr ⟨?_, List.nodup_cons.mpr ⟨(fun h => nomatch h), List.nodup_nil⟩⟩, fun e he => ?_⟩, True.intro⟩
  · show pr ∉ [ps]
    simp only [List.mem_singleton]
    exact fun e => hne e.symm
  · rcases List.mem_cons.mp he with rfl | he
    · refine (show ObOk K (mask (mask H pr) ps) H pr (.raw _) from ⟨?_, hp⟩)
      rw [mask_ne (fun e => hne e.symm), mask_p]
    · obtain rfl := List.mem_singleton.mp he
      obtain ⟨xs, hx, hd⟩ := hs
      exact (show ObOk K (mask (mask H pr) ps) H ps (.lst _) from ⟨mask_p, xs, hx, hd⟩)
theorem rd_end {H H' : Hp} {pr ps : Addr} {x y : Int} {n k : Nat} {Γ : List Sl} {σ : L2.St} {Θ : List (Addr × Ob)} {ns : List Int} (hs : HasL K H ps (eI ns)) (hne : ps ≠ pr) (a : At K (.of (mask (mask H pr) ps)) Γ Θ σ H') {k2 : Nat}
    (hk : Θ[k]? = some (pr, .raw [.ref ps, .int x, .int y, .int ((n : Nat) : Int)])) (hk2 : Θ[k2]? = some (ps, .lst (eI ns))) : RdTo H H' pr ps n := by
  refine ⟨fun b u nb e => ?_, x, y, (a.own.at_ hk).2⟩
  by_cases hb : b = ps
  · subst hb
    obtain ⟨xs, hx, hd⟩ := hs
    obtain ⟨ys, hy, hd2⟩ := a.hasL hk2
    rw [hd.ints] at hx
    rw [hd2.ints] at hy
    rw [hx] at e
    cases e
    exact hy
  · exact a.sm b u (by rw [show (Base.of (mask (mask H pr) ps)).H0 b = H b by show mask (mask H pr) ps b = _; rw [mask_ne hb, mask_ne nb]]; exact e)
theorem df_random_letters (T : Top mg) (F : Fn K mg "_law_random_letters" "_law_random_letters" s__law_random_letters) (d__law_draw : Df P w K mg base 1 "_law_draw" (SpDraw K)) : Df P w K mg base 2 "_law_random_letters" (SpRandL K) := by
  refine df_any F sc__law_random_letters (fun _ _ _ _ _ _ us hl => match us, hl with | [_], _ => rfl) (fun vs H Q E ⟨_, _, _, _, h, _⟩ => by rw [h]; rfl) (fun f cdv A outer s H vs Q E hr h => ?_)
  refine ⟨_, (pss_cons (ps_set (i := 1) sc__law_random_letters.nd rfl (by first | exact Or.inl rfl | exact Or.inr rfl) (pe_lst (pa_cons (pe_tup (pa_cons pe_str pa_nil)) (pa_cons (pe_tup (pa_cons pe_str (pa_cons pe_str pa_nil))) (pa_cons (pe_tup (pa_cons pe_str (pa_cons pe_str pa_nil))) (pa_cons (pe_tup (pa_cons pe_str (pa_cons pe_str (pa_cons pe_str pa_nil)))) pa_nil))))))
      (pss_cons (ps_set (i := 1) sc__law_random_letters.nd rfl (by first | exact Or.inl rfl | exact Or.inr rfl) (pe_op op_cat (pv 1) (pe_lst (pa_cons (pe_tup (pa_cons pe_str (pa_cons pe_str pa_nil))) (pa_cons (pe_tup (pa_cons pe_str pa_nil)) (pa_cons (pe_tup (pa_cons pe_str (pa_cons pe_str (pa_cons pe_str pa_nil)))) pa_nil))))))
      (pss_one (ps_ret (pe_ix (ix_list' K (by rfl)) (pv 1) (pe_d d__law_draw hr (by decide) rfl (pa_cons (pv 0) (pa_cons pe_int pa_nil))) (fun _ _ => rfl)))))), ?_⟩
  obtain ⟨pr, ps, ns, n, rfl, ⟨x, y, hp, hne, hs, hz⟩, hn, k⟩ := h
  have a := rd_start (Γ := [.v (.ref pr), .o]) (σ := L2.start ["_law_reader_here", "_law_lots"] [.ref pr]) hp hne hs ⟨rfl, True.intro, True.intro⟩
  refine' q_asgL (ds := [eL ["a"], eL ["a", "b"], eL ["b", "go"], eL ["a", "b", "zzzzzzzz"]]) a (evl_lst ?h1) fun pl σ1 H1 a1 => ?_
  case h1 =>
    dsimp only [eL, List.map]
    walk_at "ea"
  refine' q_asgL (ds := letterLots.map eL) a1 (EvL.is (evl_catV (ds := [eL ["a"], eL ["a", "b"], eL ["b", "go"], eL ["a", "b", "zzzzzzzz"]]) (es := [eL ["letters", "state"], eL ["on"], eL ["no", "x", "yes"]]) (evv_var a1 (i := 1) rfl) (a1.hasL (k := 0) rfl) (evl_lst ?h2) (by decide)) rfl) fun pl2 σ2 H2 a2 => ?_
  case h2 =>
    dsimp only [eL, List.map]
    walk_at "ea"
  refine ⟨.ref pl2, a2.env.val (i := 1) rfl, ?_⟩
  refine run_draw (k := 2) (k2 := 3) (i := 0) (m := 7) a2 rfl rfl rfl hz (by omega) evd_i (by decide) (by decide) fun v x' y' H3 hv a3 => ?_
  obtain ⟨xs, hx, hd⟩ := a3.hasL (k := 0) rfl
  have hv2 : v < (letterLots.map eL).length := hv
  have hget : (letterLots.map eL)[v]? = some (eL (letterLots[v]'hv)) := by rw [List.getElem?_map, List.getElem?_eq_getElem hv]; rfl
  obtain ⟨u, hu, hud⟩ := hd.get hget
  exact ⟨pl2, xs, (v : Int), u, rfl, rfl, SqL.of hx, atI_nat hu, k _ u H3 (List.getElem_mem hv) (rd_end hs hne a3 (k := 2) (k2 := 3) rfl rfl) hud⟩
end
end K15

/-! part L4 -/
set_option Elab.async false
set_option linter.all false
set_option maxRecDepth 100000
set_option maxHeartbeats 1000000
namespace K15
open PySem PySem.Spec PyProof.Rows L2 RZ
/-! ### steps by a word -/
local macro_rules | `(tactic| walk_at "ov") => `(tactic| first
  | with_reducible exact ov_eqS
  | with_reducible exact ov_eqI
  | with_reducible exact ov_neS
  | with_reducible exact ov_neI
  | with_reducible exact ov_neB
  | with_reducible exact ov_ltS
  | with_reducible exact ov_inS
  | with_reducible exact ov_I0 (fun _ => Dt.int _)
  | with_reducible exact ov_I0 (fun _ => Dt.bl _))
local macro_rules | `(tactic| walk_at "ev") => `(tactic| first
  | with_reducible exact evd_i
  | with_reducible exact evd_s
  | with_reducible exact evd_b
  | with_reducible exact evd_n
  | ((with_reducible refine' evd_var (by assumption) ?hv); (case hv => rfl))
  | with_reducible assumption
  | ((with_reducible refine' evd_op ?ha ?hb ?hr); (case ha => walk_at "ev"); (case hb => walk_at "ev"); (case hr => walk_at "ov"))
  | ((with_reducible refine' evd_and ?ha (fun hc => ?hb)); (case ha => walk_at "ev"); (case hb => walk_at "ev"))
  | ((with_reducible refine' evd_or ?ha (fun hc => ?hb)); (case ha => walk_at "ev"); (case hb => walk_at "ev"))
  | ((with_reducible refine' evd_not ?ha); (case ha => walk_at "ev"))
  | ((with_reducible refine' evd_isi ?ha ?hb); (case ha => walk_at "ev"); (case hb => first | exact kb_ii | exact kb_ib | exact kb_ss | exact kb_tt))
  | ((with_reducible refine' evd_tup ?ha ?hb); (case ha => walk_at "ea"); (case hb => first | decide | (simp only [List.length_cons, List.length_nil]; omega)))
  | ((with_reducible refine' evd_chain ?ha ?hb ?hc ?h1 ?h2); (case ha => walk_at "ev"); (case hb => walk_at "ev"); (case hc => walk_at "ev"); (case h1 => walk_at "ov"); (case h2 => walk_at "ov"))
  | ((with_reducible refine' evd_cb ?ha ?hb); (case ha => walk_at "ea"); (case hb => first | with_reducible exact cv_len | with_reducible exact cv_max2 | with_reducible exact cv_int1 | ((with_reducible refine' cv_lenS ?hz); (case hz => omega))))
  | ((with_reducible refine' evd_c1 _ ?hp ?ha); (case ha => walk_at "ea"); (case hp => first | exact True.intro | assumption | (show _ ≤ _; omega))))
local macro_rules | `(tactic| walk_at "ea") => `(tactic| first
  | with_reducible exact eva_nil
  | ((with_reducible refine' eva_cons ?ha ?hb); (case ha => walk_at "ev"); (case hb => walk_at "ea")))
local macro_rules | `(tactic| walk_at "et") => `(tactic| first
  | with_reducible assumption
  | ((with_reducible refine' evt_test ?ha); (case ha => walk_at "ev"))
  | ((with_reducible refine' evt_B ?ha); (case ha => walk_at "ev"))
  | ((with_reducible refine' evt_and ?ha (fun hc => ?hb)); (case ha => walk_at "et"); (case hb => walk_at "et"))
  | ((with_reducible refine' evt_or ?ha (fun hc => ?hb)); (case ha => walk_at "et"); (case hb => walk_at "et"))
  | ((with_reducible refine' evt_not ?ha); (case ha => walk_at "et")))

local macro_rules | `(tactic| walk_at "wk") => `(tactic| first
  | exact Weak.nil
  | ((refine' Weak.keep ?h); (case h => walk_at "wk"))
  | ((refine' Weak.drop ?h); (case h => walk_at "wk")))

section
variable {K : PySem.W.Frag} {σ : L2.St} {H : Hp} {B : Base} {Γ Γ2 : List Sl} {Θ : List (Addr × Ob)} {i j k : Nat} {p : Addr} {te to : TE} {wi : TI} {g : TG} {tbody tz : TS} {D : Ends} {ds : List PyData}
/-- a for whose body changes own objects; t: what is told of them -/
theorem q_forM {α τ : Type} {l : List α} {en : α → PyData} {Θf : τ → List (Addr × Ob)} {t0 : τ} (Ok : Nat → τ → Prop) (a : At K B Γ (Θf t0) σ H) (S : SrcS K wi σ H (l.map en)) (hw : Weak Γ Γ2) (h0 : Ok 0 t0)
    (hs : ∀ (G : Hp → Prop) st (i : Nat) (x : α) (v : V) (t : τ) σ' H' D', l[i]? = some x → Ok i t → At K (B.and G st) Γ2 (Θf t) σ' H' → Dt K H' v (en x) → (∀ t' σ2 H2, Ok (i + 1) t' → At K (B.and G st) Γ2 (Θf t') σ2 H2 → D'.nx σ2 H2) → D'.rt = D.rt → g v σ' H' fun σ2 H2 => tbody D' σ2 H2)
    (hd : ∀ t σ' H', Ok l.length t → At K B Γ2 (Θf t) σ' H' → tz D σ' H') : tSeq (tFor wi g tbody) tz D σ H := by
  show tFor wi g tbody { D with nx := tz D } σ H
  refine S.run H (Same.refl H) _ fun J G H2 e st hG W => ?_
  refine for_it W (fun i σ' H' => ∃ t, Ok i t ∧ At K (B.and G st) Γ2 (Θf t) σ' H') ⟨t0, h0, ((a.up e).fact st hG).weak hw⟩ (fun i σ H _ ⟨_, _, h⟩ => h.gh.2) (fun i x σ' H' H'' hi ⟨t, ok, h⟩ y => ?_) fun σ' H' ⟨t, ok, h⟩ => ?_
  · obtain ⟨s, d, hdi, hx⟩ := y
    rw [List.length_map] at hi
    rw [List.getElem?_map, List.getElem?_eq_getElem hi] at hdi
    obtain rfl := Option.some.inj hdi
    exact hs G st i l[i] x t σ' H'' _ (List.getElem?_eq_getElem hi) ok (h.up s) hx (fun t' σ2 H2 ok' h' => ⟨t', ok', h'⟩) rfl
  · rw [List.length_map] at ok
    exact hd t σ' H' ok h.less
/-- p.append(e), e changing own objects -/
theorem s_appendM {τ : Type} {Θf : τ → List (Addr × Ob)} {t0 : τ} (Ok : τ → PyData → Prop) (a : At K B Γ (Θf t0) σ H) (hi : Γ[i]? = some (.v (.ref p))) (hk : ∀ t, (Θf t)[k]? = some (p, .lst ds)) (hl : ds.length < 100000)
    (he : ∀ Q : VK, (∀ v d t' H', Ok t' d → At K B Γ (Θf t') σ H' → Dt K H' v d → Q v H') → te σ H Q) (q : ∀ d t' H', Ok t' d → At K B Γ ((Θf t').set k (p, .lst (ds ++ [d]))) σ H' → D.nx σ H') :
    tDrop (tBM K "list" rAppend (tVar i) (tCons te tNil)) D σ H := by
  refine ⟨.ref p, a.env.val hi, .inl ⟨rfl, ?_⟩, he _ fun v d t' H' ok a' hv => ?_⟩
  · obtain ⟨xs, hx, _⟩ := a.hasL (hk t0)
    exact ⟨xs, SqL.of hx⟩
  · obtain ⟨hn, xs, hx, hd⟩ := a'.own.at_ (hk t')
    refine ⟨p, xs, v, rfl, rfl, hx, by rw [hd.length]; exact sz_lt hl, q d t' _ ok (a'.put (hk t') (u := .lst (xs ++ [v])) (o' := .lst (ds ++ [d])) ⟨hn, xs ++ [v], upd_same, ?_⟩)⟩
    exact DtAll.im (im_lst hx) _ _ (hd.snoc hv)
end
theorem At.tail {K : PySem.W.Frag} {B : Base} {Γ : List Sl} {e : Addr × Ob} {Θ : List (Addr × Ob)} {σ : L2.St} {H : Hp} (a : At K B Γ (e :: Θ) σ H) : At K B Γ Θ σ H := ⟨a.sm, a.env, ⟨(List.nodup_cons.mp a.own.nd).2, fun d hd => a.own.ok d (List.mem_cons_of_mem _ hd)⟩, a.gh⟩
theorem u_cons {ta : TE} {tr : TA} {σ : L2.St} {H : Hp} {Q : List V → Hp → Prop} (h : ta σ H fun v H1 => tr σ H1 fun vs H2 => Q (v :: vs) H2) : tCons ta tr σ H Q := h
theorem u_sl {r : V → Option Int → Option Int → Hp → VK → Prop} {te th : TE} {σ : L2.St} {H : Hp} {Q : VK} (h : te σ H fun x H1 => th σ H1 fun u H2 => ∃ i, u = .int i ∧ r x none (some i) H2 Q) : tSl r te tNoPart (tPart th) σ H Q := h
theorem u_op {r : R2} {ta tb : TE} {σ : L2.St} {H : Hp} {Q : VK} (h : ta σ H fun x H1 => tb σ H1 fun y H2 => r x y H2 Q) : tOp r ta tb σ H Q := h
theorem u_tup {ta : TA} {σ : L2.St} {H : Hp} {Q : VK} (h : ta σ H fun vs H1 => vs.length ≤ sizeLine ∧ ∀ p, H1 p = none → Q (.ref p) (upd H1 p (.tup vs))) : tTup ta σ H Q := h
theorem u_asg {te : TE} {g : TG} {tz : TS} {D : Ends} {σ : L2.St} {H : Hp} (h : te σ H fun x H1 => g x σ H1 fun σ2 H2 => tz D σ2 H2) : tSeq (tAsg te g) tz D σ H := h
theorem u_ret {te : TE} {D : Ends} {σ : L2.St} {H : Hp} (h : te σ H D.rt) : tRet te D σ H := h
theorem u_c {v : V} {σ : L2.St} {H : Hp} {Q : VK} (h : Q v H) : tC v σ H Q := h
theorem u_cb {r : List V → Hp → VK → Prop} {te : TE} {σ : L2.St} {H : Hp} {Q : VK} (h : te σ H fun v H1 => r [v] H1 Q) : tCB r (tCons te tNil) σ H Q := h
def WS : List Str := ["", "x", "yes", "no", "letters", "y", "bell", "a", "b", "state"]
/-- a machine of the law's -/
structure MOk (M : Mc) : Prop where
  wf : Wf M
  l3 : M.L.length ≤ 3
  ws : ∀ r ∈ M.R, ∀ p ∈ r, p.2 ∈ WS
theorem ws_ok : ∀ x ∈ WS, x.length ≤ 10 ∧ isWd x = true := by decide +kernel
def pool5 : List Str := ["", "x", "yes", "no", "letters"]
theorem pool_ws : ∀ x ∈ pool5, x ∈ WS := by decide +kernel
theorem mok_of {L : List Str} {R : List Rw} (hL : LOk L) (r0 : 0 < R.length) (r1 : R.length ≤ 9) (rl : ∀ r ∈ R, r.length = L.length) (rp : ∀ r ∈ R, ∀ p ∈ r, p.1 < R.length ∧ p.2 ∈ WS) : MOk ⟨L, R⟩ :=
  ⟨⟨hL.l0, Nat.le_trans hL.l1 (by decide), hL.l2, hL.nd, hL.nm, hL.asc, r0, r1, rl, fun r hr p hp => (rp r hr p hp).1, fun r hr p hp => (ws_ok _ (rp r hr p hp).2).1, fun r hr p hp => (ws_ok _ (rp r hr p hp).2).2⟩, hL.l1, fun r hr p hp => (rp r hr p hp).2⟩
section
variable {P : Program} {w : World} {K : PySem.W.Frag} {mg : Str → Option Value} {base : Heap}
abbrev s__law_random_machine : Stmt := top 72
theorem sc__law_random_machine : FnScope ["_law_reader_here", "_law_letters", "_law_most", "_law_many", "_law_pool", "_law_rows", "_law_k", "_law_letter"] ["_law_reader_here", "_law_letters", "_law_most"] (defScope s__law_random_machine) := ⟨rfl, rfl, rfl, by decide +kernel, rfl, by decide +kernel, by decide +kernel⟩
def SpRandM (K : PySem.W.Frag) : Sp := fun vs H Q _ => ∃ pr ps ns n v L, vs = [.ref pr, v, .int 5] ∧ RdAt K H pr ps ns n ∧ n ≤ 800 ∧ Dt K H v (eL L) ∧ LOk L ∧ ∀ M n' u H', MOk M → n' ≤ n + 32 → RdTo H H' pr ps n' → Dt K H' u (eM M) → Q u H'
theorem df_random_machine (T : Top mg) (F : Fn K mg "_law_random_machine" "_law_random_machine" s__law_random_machine) (d__law_draw : Df P w K mg base 1 "_law_draw" (SpDraw K)) : Df P w K mg base 2 "_law_random_machine" (SpRandM K) := by
  refine df_any F sc__law_random_machine (fun _ _ _ _ _ _ us hl => match us, hl with | [_, _, _], _ => rfl) (fun vs H Q E ⟨_, _, _, _, _, _, h, _⟩ => by rw [h]; rfl) (fun f cdv A outer s H vs Q E hr h => ?_)
  refine ⟨_, (pss_cons (ps_asg (pe_tup (pa_cons (pe_op op_add pe_int (pe_d d__law_draw hr (by decide) rfl (pa_cons (pv 0) (pa_cons (pv 2) pa_nil)))) (pa_cons (pe_slice (sl_list' K (by rfl)) (pe_lst (pa_cons pe_str (pa_cons pe_str (pa_cons pe_str (pa_cons pe_str (pa_cons pe_str pa_nil)))))) po_none (po_some (pe_op op_add pe_int (pe_d d__law_draw hr (by decide) rfl (pa_cons (pv 0) (pa_cons pe_int pa_nil)))))) pa_nil))) (pg_pair K (by rfl) (i := 3) (j := 4) rfl sc__law_random_machine.nd rfl rfl (by first | exact Or.inl rfl | exact Or.inr rfl) (by first | exact Or.inl rfl | exact Or.inr rfl) (by first | exact Or.inl rfl | exact Or.inr rfl) (by first | exact Or.inl rfl | exact Or.inr rfl)))
      (pss_cons (ps_set (i := 5) sc__law_random_machine.nd rfl (by first | exact Or.inl rfl | exact Or.inr rfl) (pe_lst pa_nil))
      (pss_cons (ps_for PassesOwn.never rfl (pi_range1 (by rfl) T.range_ (pa_cons (pv 3) pa_nil)) (pg_name (i := 6) sc__law_random_machine.nd rfl (by first | exact Or.inl rfl | exact Or.inr rfl)) (pss_one (ps_expr (pe_bm PySem.F.plainAttrs_list PySem.F.slot_list_append PySem.F.type_list_append mt_append (pv 5) (pa_cons (pe_callTy (c_tup' K (by rfl)) (by rfl) T.tuple_ (by decide +kernel) (pa_cons (pe_lc (own := [("_law_letter", 7)]) rfl sc__law_random_machine.nd (pi_tup' K (by rfl) (pv 1)) (blkOk_by (N := ["_law_reader_here", "_law_letters", "_law_most", "_law_many", "_law_pool", "_law_rows", "_law_k", "_law_letter"]) (sc := defScope s__law_random_machine) (by decide +kernel)) (fun _ _ _ _ _ => by exact (pg_name (i := 7) sc__law_random_machine.nd rfl (by first | exact Or.inl rfl | exact Or.inr rfl))) (fun _ _ _ _ _ => pts_nil) (fun _ _ _ _ _ => by exact (pe_tup (pa_cons (pe_d d__law_draw hr (by decide) rfl (pa_cons (pv 0) (pa_cons (pv 3) pa_nil))) (pa_cons (pe_ix (ix_list' K (by rfl)) (pv 4) (pe_d d__law_draw hr (by decide) rfl (pa_cons (pv 0) (pa_cons (pe_callB (c_len' K (by rfl)) (by rfl) T.len_ (by decide +kernel) (pa_cons (pv 4) pa_nil)) pa_nil))) (fun _ _ => rfl)) pa_nil))))) pa_nil)) pa_nil)))))
      (pss_one (ps_ret (pe_tup (pa_cons (pv 1) (pa_cons (pe_callTy (c_tup' K (by rfl)) (by rfl) T.tuple_ (by decide +kernel) (pa_cons (pv 5) pa_nil)) pa_nil)))))))), ?_⟩
  obtain ⟨pr, ps, ns, n, v, L, rfl, ⟨x, y, hp, hne, hs, hz⟩, hn, hv, hL, k⟩ := h
  have a := rd_start (Γ := [.v (.ref pr), .d (eL L), .d (.int 5), .o, .o, .o, .o, .o]) (σ := L2.start ["_law_reader_here", "_law_letters", "_law_most", "_law_many", "_law_pool", "_law_rows", "_law_k", "_law_letter"] [.ref pr, v, .int 5]) hp hne hs ⟨rfl, hv, .int 5, True.intro, True.intro, True.intro, True.intro, True.intro, True.intro⟩
  refine u_asg (u_tup (u_cons (u_op (u_c ?_))))
  refine run_draw (k := 0) (k2 := 1) (i := 0) (m := 5) a rfl rfl rfl hz (by omega) (evd_var a (i := 2) rfl) (by decide) (by decide) fun v1 x1 y1 H1 hv1 a1 => ?_
  refine ⟨1, (v1 : Int), rfl, rfl, ?_⟩
  have ew : EvL K (tLst (tCons (tC (V.str "")) (tCons (tC (V.str "x")) (tCons (tC (V.str "yes")) (tCons (tC (V.str "no")) (tCons (tC (V.str "letters")) tNil)))))) _ H1 (pool5.map .str) := evl_lst (σ := L2.start ["_law_reader_here", "_law_letters", "_law_most", "_law_many", "_law_pool", "_law_rows", "_law_k", "_law_letter"] [.ref pr, v, .int 5]) (by
    show EvA K _ _ _ [.str "", .str "x", .str "yes", .str "no", .str "letters"]
    walk_at "ea")
  refine u_cons (u_sl ?_)
  refine ew H1 (Same.refl _) _ fun pw xs H2 hpw e2 hx hd => ?_
  have a2 := a1.add (o := .lst (pool5.map .str)) e2 hpw ⟨a1.sm.free hpw, xs, hx, hd⟩
  refine u_op (u_c ?_)
  refine run_draw (k := 1) (k2 := 2) (i := 0) (m := 5) a2 rfl rfl rfl hz (by omega) evd_i (by decide) (by decide) fun v2 x2 y2 H3 hv2 a3 => ?_
  obtain ⟨xs3, hx3, hd3⟩ := a3.hasL (k := 0) rfl
  obtain rfl := hd3.strs
  refine ⟨1, (v2 : Int), rfl, rfl, 1 + (v2 : Int), rfl, pw, _, rfl, SqL.of hx3, fun q hq => ?_⟩
  have ec : cutV (pool5.map V.str) none (some (1 + (v2 : Int))) = (pool5.take (1 + v2)).map V.str := by
    unfold cutV
    have h1 : HT.sIx (pool5.map V.str).length (pool5.map V.str).length (some (1 + (v2 : Int))) = min (1 + v2) (pool5.map V.str).length := by
      have := HT.sIx_nat (pool5.map V.str).length (pool5.map V.str).length (1 + v2)
      rw [← this]
      congr 2
    have h2 : HT.sIx (pool5.map V.str).length 0 none = 0 := rfl
    rw [h1, h2, List.drop_zero, Nat.min_eq_left (by show 1 + v2 ≤ 5; omega), List.map_take]
    rfl
  rw [ec]
  have a4 := (a3.add (o := .lst ((pool5.take (1 + v2)).map .str)) (sm_new (o := .lst ((pool5.take (1 + v2)).map V.str)) hq) hq ⟨a3.sm.free hq, _, upd_same, dtAll_strs _⟩)
  refine ⟨by show 2 ≤ sizeLine; decide, fun t ht => ?_⟩
  have a5 := a4.up (sm_new (o := .tup [.int (1 + (v1 : Int)), .ref q]) ht)
  refine ⟨t, _, rfl, SqT.of upd_same, rfl, _, _, rfl, _, _, rfl, rfl, ?_⟩
  have em : 1 + (v1 : Int) = ((1 + v1 : Nat) : Int) := by omega
  have a6 := (a5.setD (i := 3) (v := .int (1 + (v1 : Int))) (d := .int ((1 + v1 : Nat) : Int)) (em ▸ .int _)).setV (i := 4) (v := .ref q)
  generalize hW : pool5.take (1 + v2) = W at a6
  have hWl : W.length = 1 + v2 := by
    rw [← hW, List.length_take]
    show min (1 + v2) 5 = _
    omega
  have hWm : ∀ x ∈ W, x ∈ WS := fun x hx => pool_ws x (List.mem_of_mem_take (by rw [hW]; exact hx))
  refine' q_asgL (ds := []) a6 (evl_lst eva_nil) fun prow σ7 H7 a7 => ?_
  refine' q_forM (τ := Int × Int × Nat × List Rw) (l := List.range (1 + v1)) (en := fun (i : Nat) => .int (i : Int)) (Γ2 := [.v (.ref pr), .d (eL L), .d (.int 5), .d (.int ((1 + v1 : Nat) : Int)), .v (.ref q), .v (.ref prow), .o, .o])
    (Θf := fun t => [(prow, .lst (t.2.2.2.map eR)), (q, .lst (W.map .str)), (pw, .lst (pool5.map .str)), (pr, .raw [.ref ps, .int t.1, .int t.2.1, .int ((t.2.2.1 : Nat) : Int)]), (ps, .lst (eI ns))]) (t0 := (x2, y2, n + 1 + 1, []))
    (fun i t => t.2.2.1 ≤ n + 2 + 6 * i ∧ t.2.2.2.length = i ∧ ∀ r ∈ t.2.2.2, r.length = L.length ∧ ∀ p ∈ r, p.1 < 1 + v1 ∧ p.2 ∈ WS) a7 (srcS_rng (eva_cons (evd_var a7 (i := 3) rfl) eva_nil) (by omega)) ?hw ⟨Nat.le_refl _, rfl, fun r hr => nomatch hr⟩ (fun G st i x v t σ' H' D' hi ok a8 hv8 hnx hrt => ?hbody) fun t σ' H' ok a8 => ?hend
  case hw => walk_at "wk"
  case hend =>
    obtain ⟨x8, y8, n8, R⟩ := t
    obtain ⟨o1, o2, o3⟩ := ok
    rw [List.length_range] at o2 o1
    have o2 : R.length = 1 + v1 := o2
    have hM : MOk ⟨L, R⟩ := mok_of hL (by omega) (by omega) (fun r hr => (o3 r hr).1) fun r hr p hp => ⟨by rw [show R.length = 1 + v1 from o2]; exact ((o3 r hr).2 p hp).1, ((o3 r hr).2 p hp).2⟩
    refine u_ret ((evd_tup (ds := [eL L, .tuple (R.map eR)]) (eva_cons (evd_var a8 (i := 1) rfl) (eva_cons (evd_tupV (evv_var a8 (i := 5) rfl) (a8.hasL (k := 0) rfl)) eva_nil))) H' (Same.refl _) _ fun u H9 e9 hu => ?_)
    have a9 := a8.up e9
    exact k ⟨L, R⟩ n8 u H9 hM (by show n8 ≤ n + 32; have o1 : n8 ≤ n + 2 + 6 * (1 + v1) := o1; omega) (rd_end hs hne a9 (k := 3) (k2 := 4) rfl rfl) hu
  case hbody =>
    obtain ⟨x8, y8, n8, R⟩ := t
    obtain ⟨o1, o2, o3⟩ := ok
    have hi5 : i < 1 + v1 := by
      have := (List.getElem?_eq_some_iff.mp hi).1
      rwa [List.length_range] at this
    have o1 : n8 ≤ n + 2 + 6 * i := o1
    have o2 : R.length = i := o2
    have hl3 := hL.l1
    refine g_name a8 hv8 fun σ9 a9 => ?_
    refine' s_appendM (τ := Int × Int × Nat) (k := 0) (p := prow) (i := 5) (ds := R.map eR) (Θf := fun t => [(prow, .lst (R.map eR)), (q, .lst (W.map .str)), (pw, .lst (pool5.map .str)), (pr, .raw [.ref ps, .int t.1, .int t.2.1, .int ((t.2.2 : Nat) : Int)]), (ps, .lst (eI ns))]) (t0 := (x8, y8, n8))
      (fun t d => t.2.2 = n8 + 2 * L.length ∧ ∃ r : Rw, d = eR r ∧ r.length = L.length ∧ ∀ p ∈ r, p.1 < 1 + v1 ∧ p.2 ∈ WS) a9 rfl (fun _ => rfl) (by rw [List.length_map]; omega) (fun Q' q' => ?hrow) fun d t' H' ⟨ht, r, hd, hr1, hr2⟩ a10 => ?hnext
    case hnext =>
      obtain ⟨x10, y10, n10⟩ := t'
      subst hd
      have ht : n10 = n8 + 2 * L.length := ht
      refine hnx (x10, y10, n10, R ++ [r]) _ _ ⟨by show n10 ≤ n + 2 + 6 * (i + 1); omega, by show (R ++ [r]).length = _; rw [List.length_append, List.length_singleton]; exact congrArg (· + 1) o2, fun r' hr' => ?_⟩ ?_
      · rcases List.mem_append.mp hr' with hr' | hr'
        · exact o3 r' hr'
        · obtain rfl := List.mem_singleton.mp hr'
          exact ⟨hr1, hr2⟩
      · show At K _ _ [(prow, .lst ((R ++ [r]).map eR)), _, _, _, _] _ _
        rw [List.map_append]
        exact a10.weak (by walk_at "wk")
    case hrow =>
      refine u_cb ?_
      refine' evm_lcn (τ := Int × Int × Nat) (l := L) (en := .str) (Θf := fun t => [(prow, .lst (R.map eR)), (q, .lst (W.map .str)), (pw, .lst (pool5.map .str)), (pr, .raw [.ref ps, .int t.1, .int t.2.1, .int ((t.2.2 : Nat) : Int)]), (ps, .lst (eI ns))]) (t0 := (x8, y8, n8))
        (fun i t acc => t.2.2 = n8 + 2 * i ∧ ∃ r : Rw, acc = r.map eP ∧ r.length = i ∧ ∀ p ∈ r, p.1 < 1 + v1 ∧ p.2 ∈ WS) a9 (srcS_tup (evd_var a9 (i := 1) rfl)) (by omega) ?hj ⟨rfl, [], rfl, rfl, fun p hp => nomatch hp⟩ (fun i t acc h => ?hlen) (fun D G st i x t acc σ11 H11 Q11 hi11 ok11 a11 q11 => ?hstep) fun D t acc H12 ok12 a12 => ?hdone
      case hj => decide
      case hlen =>
        obtain ⟨_, r, e, hr, _⟩ := h
        rw [e, List.length_map]
        exact hr
      case hdone =>
        obtain ⟨ht, r, e, hr, hrp⟩ := ok12
        subst e
        obtain ⟨xs, hx12, hd12⟩ := a12.hasL (k := 0) rfl
        refine ⟨D, xs, rfl, .inl ⟨SqL.of hx12, fun l hl => ?_⟩⟩
        have e13 := sm_new (o := .tup xs) hl
        have a13 := a12.up e13
        refine q' _ (eR r) t _ ⟨ht, r, rfl, hr, hrp⟩ ?_ (.tup (SqT.of upd_same) (hd12.mono e13))
        exact a13.tail
      case hstep =>
        obtain ⟨x11, y11, n11⟩ := t
        obtain ⟨ht, r, e, hr, hrp⟩ := ok11
        subst e
        have ht : n11 = n8 + 2 * i := ht
        have hi3 : i < 3 := by
          have := (List.getElem?_eq_some_iff.mp hi11).1
          omega
        refine u_tup (u_cons ?_)
        refine run_draw (k := 4) (k2 := 5) (i := 0) (m := 1 + v1) a11 rfl rfl rfl hz (by omega) (evd_var a11 (i := 3) rfl) (by omega) (by omega) fun w1 x12 y12 H12 hw1 a12 => ?_
        refine u_cons (u_op ⟨.ref q, a12.env.val (i := 4) rfl, ?_⟩)
        refine run_draw (k := 4) (k2 := 5) (i := 0) (m := W.length) a12 rfl rfl rfl hz (by omega) (EvD.is (evd_lenV (evv_var a12 (i := 4) rfl) (a12.hasL (k := 2) rfl)) (by rw [List.length_map])) (by omega) (by omega) fun w2 x13 y13 H13 hw2 a13 => ?_
        obtain ⟨xs13, hx13, hd13⟩ := a13.hasL (k := 2) rfl
        have hget : (W.map PyData.str)[w2]? = some (.str (W[w2]'hw2)) := by rw [List.getElem?_map, List.getElem?_eq_getElem hw2]; rfl
        obtain ⟨u, hu, hud⟩ := hd13.get hget
        refine ⟨q, xs13, (w2 : Int), u, rfl, rfl, SqL.of hx13, atI_nat hu, by show 2 ≤ sizeLine; decide, fun tp htp => ?_⟩
        have e14 := sm_new (o := .tup [.int (w1 : Int), u]) htp
        refine q11 _ (eP (w1, W[w2]'hw2)) (x13, y13, n11 + 1 + 1) _ ⟨by show n11 + 1 + 1 = n8 + 2 * (i + 1); omega, r ++ [(w1, W[w2]'hw2)], by rw [List.map_append]; rfl, by rw [List.length_append, hr]; rfl, fun p hp => ?_⟩ (a13.up e14) (.tup (SqT.of upd_same) (.cons (.int _) (.cons (hud.mono e14) .nil)))
        rcases List.mem_append.mp hp with hp | hp
        · exact hrp p hp
        · obtain rfl := List.mem_singleton.mp hp
          exact ⟨hw1, hWm _ (List.getElem_mem hw2)⟩
end
end K15

/-! part L5 -/
set_option Elab.async false
set_option linter.all false
set_option maxRecDepth 100000
set_option maxHeartbeats 1000000
namespace K15
open PySem PySem.Spec PyProof.Rows L2 RZ
/-! ### steps by a word -/
local macro_rules | `(tactic| walk_at "ov") => `(tactic| first
  | with_reducible exact ov_eqS
  | with_reducible exact ov_eqI
  | with_reducible exact ov_neS
  | with_reducible exact ov_neI
  | with_reducible exact ov_neB
  | with_reducible exact ov_ltS
  | with_reducible exact ov_inS
  | with_reducible exact ov_I0 (fun _ => Dt.int _)
  | with_reducible exact ov_I0 (fun _ => Dt.bl _))
local macro_rules | `(tactic| walk_at "ev") => `(tactic| first
  | with_reducible exact evd_i
  | with_reducible exact evd_s
  | with_reducible exact evd_b
  | with_reducible exact evd_n
  | ((with_reducible refine' evd_var (by assumption) ?hv); (case hv => rfl))
  | with_reducible assumption
  | ((with_reducible refine' evd_op ?ha ?hb ?hr); (case ha => walk_at "ev"); (case hb => walk_at "ev"); (case hr => walk_at "ov"))
  | ((with_reducible refine' evd_and ?ha (fun hc => ?hb)); (case ha => walk_at "ev"); (case hb => walk_at "ev"))
  | ((with_reducible refine' evd_or ?ha (fun hc => ?hb)); (case ha => walk_at "ev"); (case hb => walk_at "ev"))
  | ((with_reducible refine' evd_not ?ha); (case ha => walk_at "ev"))
  | ((with_reducible refine' evd_isi ?ha ?hb); (case ha => walk_at "ev"); (case hb => first | exact kb_ii | exact kb_ib | exact kb_ss | exact kb_tt))
  | ((with_reducible refine' evd_tup ?ha ?hb); (case ha => walk_at "ea"); (case hb => first | decide | (simp only [List.length_cons, List.length_nil]; omega)))
  | ((with_reducible refine' evd_chain ?ha ?hb ?hc ?h1 ?h2); (case ha => walk_at "ev"); (case hb => walk_at "ev"); (case hc => walk_at "ev"); (case h1 => walk_at "ov"); (case h2 => walk_at "ov"))
  | ((with_reducible refine' evd_cb ?ha ?hb); (case ha => walk_at "ea"); (case hb => first | with_reducible exact cv_len | with_reducible exact cv_max2 | with_reducible exact cv_int1 | ((with_reducible refine' cv_lenS ?hz); (case hz => omega))))
  | ((with_reducible refine' evd_c1 _ ?hp ?ha); (case ha => walk_at "ea"); (case hp => first | exact True.intro | assumption | (show _ ≤ _; omega))))
local macro_rules | `(tactic| walk_at "ea") => `(tactic| first
  | with_reducible exact eva_nil
  | ((with_reducible refine' eva_cons ?ha ?hb); (case ha => walk_at "ev"); (case hb => walk_at "ea")))
local macro_rules | `(tactic| walk_at "et") => `(tactic| first
  | with_reducible assumption
  | ((with_reducible refine' evt_test ?ha); (case ha => walk_at "ev"))
  | ((with_reducible refine' evt_B ?ha); (case ha => walk_at "ev"))
  | ((with_reducible refine' evt_and ?ha (fun hc => ?hb)); (case ha => walk_at "et"); (case hb => walk_at "et"))
  | ((with_reducible refine' evt_or ?ha (fun hc => ?hb)); (case ha => walk_at "et"); (case hb => walk_at "et"))
  | ((with_reducible refine' evt_not ?ha); (case ha => walk_at "et")))

local macro_rules | `(tactic| walk_at "wk") => `(tactic| first
  | exact Weak.nil
  | ((refine' Weak.keep ?h); (case h => walk_at "wk"))
  | ((refine' Weak.drop ?h); (case h => walk_at "wk")))

section
variable {K : PySem.W.Frag} {σ : L2.St} {H : Hp} {te : TE} {d : PyData}
theorem evd_rep3 (h : EvD K te σ H (.tuple [d])) : EvD K (tOp (rRepT K) te (tC (.int 3))) σ H (.tuple [d, d, d]) := fun H1 e Q q => h H1 e _ fun v H2 e2 hv => by
  obtain ⟨a, xs, rfl, hs, ha⟩ := hv.tup_inv
  obtain ⟨x, rfl, hx⟩ := ha.one
  refine ⟨a, 3, [x], rfl, rfl, hs, by simp, by decide, by decide, by simp, fun p hp => ?_⟩
  have e3 := sm_new (o := .tup (List.replicate (3 : Int).toNat [x]).flatten) hp
  exact q _ _ (e2.trans e3) (.tup (SqT.of upd_same) (.cons (hx.mono e3) (.cons (hx.mono e3) (.cons (hx.mono e3) .nil))))
end
theorem f_retL {K : PySem.W.Frag} {σ : L2.St} {H : Hp} {te : TE} {ds : List PyData} {D : Ends} (h : EvL K te σ H ds) (k : ∀ p xs H', H p = none → Same H H' → H' p = some (.lst xs) → DtAll K H' xs ds → D.rt (.ref p) H') : tRet te D σ H := h H (Same.refl _) _ k
/-- f() -/
theorem pe_d0 {X : Cx} {j k : Nat} {x : Str} {sp : Sp} {p pos : Pos} (D : Df X.prog X.w X.K X.mg X.base k x sp) (hr : Room j X.A) (hk : k ≤ j) (hg : Gl X x) (hdb : (x == ("__debug__" : Str)) = false := by decide) :
    PE X (.Call (.Name x p) [] [] pos) (tCallR sp tNil) := by
  obtain ⟨f, hm, hkp, F⟩ := D.ex
  refine ⟨fun pins s σ H Q I h => ?_⟩
  refine wpAny_Call_Name_kw (ld_glob I hg hm ?_ hdb)
  exact PySem.W.callWith_K0 (first := []) I.kIn hkp (wpAny_call (run_fnR (us := []) (vs := []) F (hr.mono hk) pass0 I .nil h))
def fixedM : List Mc := [⟨["a", "b"], [[(1, ""), (0, "")], [(0, ""), (1, "")]]⟩,
  ⟨["a", "b"], [[(1, ""), (2, "no")], [(0, ""), (2, "yes")], [(2, ""), (2, "")]]⟩,
  ⟨["a", "b"], [[(1, ""), (2, "")], [(1, "x"), (1, "x")], [(2, "y"), (2, "y")]]⟩,
  ⟨["a"], [[(3, "")], [(0, "x")], [(2, "y")], [(4, "x")], [(3, "no")]]⟩,
  ⟨["go"], [[(1, "")], [(2, "")], [(3, "")], [(4, "")], [(0, "bell")]]⟩,
  ⟨["a", "b", "zzzzzzzz"], [[(2, "a"), (0, "b"), (1, "")], [(1, "x"), (2, ""), (0, "")], [(0, ""), (0, ""), (0, "")]]⟩,
  ⟨["a", "b"], [[(0, ""), (4, "")], [(3, ""), (0, "")], [(1, ""), (0, "")], [(3, "x"), (0, "")], [(0, ""), (2, "")]]⟩,
  ⟨["x"], [[(0, "")]]⟩,
  ⟨["state"], [[(0, "state")]]⟩]
abbrev d_old : PyData := .tuple [.tuple [.str "a", .str "b"], .tuple [.tuple [.tuple [.int 1, .str ""], .tuple [.int 0, .str ""]], .tuple [.tuple [.int 0, .str ""], .tuple [.int 1, .str ""]]]]
abbrev d_new : PyData := .tuple [.tuple [.str "a", .str "b"], .tuple [.tuple [.tuple [.int 1, .str ""], .tuple [.int 2, .str "no"]], .tuple [.tuple [.int 0, .str ""], .tuple [.int 2, .str "yes"]], .tuple [.tuple [.int 2, .str ""], .tuple [.int 2, .str ""]]]]
abbrev d_first : PyData := .tuple [.tuple [.str "a", .str "b"], .tuple [.tuple [.tuple [.int 1, .str ""], .tuple [.int 2, .str ""]], .tuple [.tuple [.int 1, .str "x"], .tuple [.int 1, .str "x"]], .tuple [.tuple [.int 2, .str "y"], .tuple [.int 2, .str "y"]]]]
abbrev d_far : PyData := .tuple [.tuple [.str "a"], .tuple [.tuple [.tuple [.int 3, .str ""]], .tuple [.tuple [.int 0, .str "x"]], .tuple [.tuple [.int 2, .str "y"]], .tuple [.tuple [.int 4, .str "x"]], .tuple [.tuple [.int 3, .str "no"]]]]
abbrev d_ring : PyData := .tuple [.tuple [.str "go"], .tuple [.tuple [.tuple [.int 1, .str ""]], .tuple [.tuple [.int 2, .str ""]], .tuple [.tuple [.int 3, .str ""]], .tuple [.tuple [.int 4, .str ""]], .tuple [.tuple [.int 0, .str "bell"]]]]
abbrev d_three : PyData := .tuple [.tuple [.str "a", .str "b", .str "zzzzzzzz"], .tuple [.tuple [.tuple [.int 2, .str "a"], .tuple [.int 0, .str "b"], .tuple [.int 1, .str ""]], .tuple [.tuple [.int 1, .str "x"], .tuple [.int 2, .str ""], .tuple [.int 0, .str ""]], .tuple [.tuple [.int 0, .str ""], .tuple [.int 0, .str ""], .tuple [.int 0, .str ""]]]]
abbrev d_deepR : PyData := .tuple [.tuple [.tuple [.int 0, .str ""], .tuple [.int 4, .str ""]], .tuple [.tuple [.int 3, .str ""], .tuple [.int 0, .str ""]], .tuple [.tuple [.int 1, .str ""], .tuple [.int 0, .str ""]], .tuple [.tuple [.int 3, .str "x"], .tuple [.int 0, .str ""]], .tuple [.tuple [.int 0, .str ""], .tuple [.int 2, .str ""]]]
abbrev d_l7 : PyData := .tuple [.tuple [.str "x"], .tuple [.tuple [.tuple [.int 0, .str ""]]]]
abbrev d_l8 : PyData := .tuple [.tuple [.str "state"], .tuple [.tuple [.tuple [.int 0, .str "state"]]]]
theorem fixed_ok : ∀ M ∈ fixedM, MOk M := by
  have h : ∀ M ∈ fixedM, (0 < M.L.length ∧ M.L.length ≤ 3 ∧ (∀ x ∈ M.L, x.length ≤ 10) ∧ M.L.Nodup) ∧ (allNm M.L = true ∧ ascB M.L = true) ∧ (0 < M.R.length ∧ M.R.length ≤ 9) ∧ (∀ r ∈ M.R, r.length = M.L.length) ∧ ∀ r ∈ M.R, ∀ p ∈ r, p.1 < M.R.length ∧ p.2 ∈ WS := by decide +kernel
  intro M hM
  obtain ⟨⟨a, b, c, d⟩, ⟨e, f⟩, ⟨g1, g2⟩, g3, g4⟩ := h M hM
  exact mok_of (L := M.L) (R := M.R) ⟨a, b, c, d, e, f⟩ g1 g2 g3 g4
section
variable {P : Program} {w : World} {K : PySem.W.Frag} {mg : Str → Option Value} {base : Heap}
abbrev s__law_fixed_machines : Stmt := top 73
theorem sc__law_fixed_machines : FnScope ["_law_old", "_law_new", "_law_first", "_law_far", "_law_ring", "_law_three", "_law_deep", "_law_found"] [] (defScope s__law_fixed_machines) := ⟨rfl, rfl, rfl, by decide +kernel, rfl, by decide +kernel, by decide +kernel⟩
def SpFixed (K : PySem.W.Frag) : Sp := fun vs H Q _ => vs = [] ∧ ∀ p H', Same H H' → H p = none → HasL K H' p (fixedM.map eM) → Q (.ref p) H'
theorem df_fixed (T : Top mg) (F : Fn K mg "_law_fixed_machines" "_law_fixed_machines" s__law_fixed_machines) : Df P w K mg base 1 "_law_fixed_machines" (SpFixed K) := by
  refine df_any F sc__law_fixed_machines (fun _ _ _ _ _ _ us hl => match us, hl with | [], _ => rfl) (fun vs H Q E ⟨h, _⟩ => by rw [h]; rfl) (fun f cdv A outer s H vs Q E hr h => ?_)
  refine ⟨_, (pss_cons (ps_set (i := 0) sc__law_fixed_machines.nd rfl (by first | exact Or.inl rfl | exact Or.inr rfl) (pe_tup (pa_cons (pe_tup (pa_cons pe_str (pa_cons pe_str pa_nil))) (pa_cons (pe_tup (pa_cons (pe_tup (pa_cons (pe_tup (pa_cons pe_int (pa_cons pe_str pa_nil))) (pa_cons (pe_tup (pa_cons pe_int (pa_cons pe_str pa_nil))) pa_nil))) (pa_cons (pe_tup (pa_cons (pe_tup (pa_cons pe_int (pa_cons pe_str pa_nil))) (pa_cons (pe_tup (pa_cons pe_int (pa_cons pe_str pa_nil))) pa_nil))) pa_nil))) pa_nil))))
      (pss_cons (ps_set (i := 1) sc__law_fixed_machines.nd rfl (by first | exact Or.inl rfl | exact Or.inr rfl) (pe_tup (pa_cons (pe_tup (pa_cons pe_str (pa_cons pe_str pa_nil))) (pa_cons (pe_tup (pa_cons (pe_tup (pa_cons (pe_tup (pa_cons pe_int (pa_cons pe_str pa_nil))) (pa_cons (pe_tup (pa_cons pe_int (pa_cons pe_str pa_nil))) pa_nil))) (pa_cons (pe_tup (pa_cons (pe_tup (pa_cons pe_int (pa_cons pe_str pa_nil))) (pa_cons (pe_tup (pa_cons pe_int (pa_cons pe_str pa_nil))) pa_nil))) (pa_cons (pe_tup (pa_cons (pe_tup (pa_cons pe_int (pa_cons pe_str pa_nil))) (pa_cons (pe_tup (pa_cons pe_int (pa_cons pe_str pa_nil))) pa_nil))) pa_nil)))) pa_nil))))
      (pss_cons (ps_set (i := 2) sc__law_fixed_machines.nd rfl (by first | exact Or.inl rfl | exact Or.inr rfl) (pe_tup (pa_cons (pe_tup (pa_cons pe_str (pa_cons pe_str pa_nil))) (pa_cons (pe_tup (pa_cons (pe_tup (pa_cons (pe_tup (pa_cons pe_int (pa_cons pe_str pa_nil))) (pa_cons (pe_tup (pa_cons pe_int (pa_cons pe_str pa_nil))) pa_nil))) (pa_cons (pe_tup (pa_cons (pe_tup (pa_cons pe_int (pa_cons pe_str pa_nil))) (pa_cons (pe_tup (pa_cons pe_int (pa_cons pe_str pa_nil))) pa_nil))) (pa_cons (pe_tup (pa_cons (pe_tup (pa_cons pe_int (pa_cons pe_str pa_nil))) (pa_cons (pe_tup (pa_cons pe_int (pa_cons pe_str pa_nil))) pa_nil))) pa_nil)))) pa_nil))))
      (pss_cons (ps_set (i := 3) sc__law_fixed_machines.nd rfl (by first | exact Or.inl rfl | exact Or.inr rfl) (pe_tup (pa_cons (pe_tup (pa_cons pe_str pa_nil)) (pa_cons (pe_tup (pa_cons (pe_tup (pa_cons (pe_tup (pa_cons pe_int (pa_cons pe_str pa_nil))) pa_nil)) (pa_cons (pe_tup (pa_cons (pe_tup (pa_cons pe_int (pa_cons pe_str pa_nil))) pa_nil)) (pa_cons (pe_tup (pa_cons (pe_tup (pa_cons pe_int (pa_cons pe_str pa_nil))) pa_nil)) (pa_cons (pe_tup (pa_cons (pe_tup (pa_cons pe_int (pa_cons pe_str pa_nil))) pa_nil)) (pa_cons (pe_tup (pa_cons (pe_tup (pa_cons pe_int (pa_cons pe_str pa_nil))) pa_nil)) pa_nil)))))) pa_nil))))
      (pss_cons (ps_set (i := 4) sc__law_fixed_machines.nd rfl (by first | exact Or.inl rfl | exact Or.inr rfl) (pe_tup (pa_cons (pe_tup (pa_cons pe_str pa_nil)) (pa_cons (pe_tup (pa_cons (pe_tup (pa_cons (pe_tup (pa_cons pe_int (pa_cons pe_str pa_nil))) pa_nil)) (pa_cons (pe_tup (pa_cons (pe_tup (pa_cons pe_int (pa_cons pe_str pa_nil))) pa_nil)) (pa_cons (pe_tup (pa_cons (pe_tup (pa_cons pe_int (pa_cons pe_str pa_nil))) pa_nil)) (pa_cons (pe_tup (pa_cons (pe_tup (pa_cons pe_int (pa_cons pe_str pa_nil))) pa_nil)) (pa_cons (pe_tup (pa_cons (pe_tup (pa_cons pe_int (pa_cons pe_str pa_nil))) pa_nil)) pa_nil)))))) pa_nil))))
      (pss_cons (ps_set (i := 5) sc__law_fixed_machines.nd rfl (by first | exact Or.inl rfl | exact Or.inr rfl) (pe_tup (pa_cons (pe_tup (pa_cons pe_str (pa_cons pe_str (pa_cons pe_str pa_nil)))) (pa_cons (pe_tup (pa_cons (pe_tup (pa_cons (pe_tup (pa_cons pe_int (pa_cons pe_str pa_nil))) (pa_cons (pe_tup (pa_cons pe_int (pa_cons pe_str pa_nil))) (pa_cons (pe_tup (pa_cons pe_int (pa_cons pe_str pa_nil))) pa_nil)))) (pa_cons (pe_tup (pa_cons (pe_tup (pa_cons pe_int (pa_cons pe_str pa_nil))) (pa_cons (pe_tup (pa_cons pe_int (pa_cons pe_str pa_nil))) (pa_cons (pe_tup (pa_cons pe_int (pa_cons pe_str pa_nil))) pa_nil)))) (pa_cons (pe_op (op_repT' K (by rfl)) (pe_tup (pa_cons (pe_tup (pa_cons pe_int (pa_cons pe_str pa_nil))) pa_nil)) pe_int) pa_nil)))) pa_nil))))
      (pss_cons (ps_set (i := 6) sc__law_fixed_machines.nd rfl (by first | exact Or.inl rfl | exact Or.inr rfl) (pe_tup (pa_cons (pe_tup (pa_cons (pe_tup (pa_cons pe_int (pa_cons pe_str pa_nil))) (pa_cons (pe_tup (pa_cons pe_int (pa_cons pe_str pa_nil))) pa_nil))) (pa_cons (pe_tup (pa_cons (pe_tup (pa_cons pe_int (pa_cons pe_str pa_nil))) (pa_cons (pe_tup (pa_cons pe_int (pa_cons pe_str pa_nil))) pa_nil))) (pa_cons (pe_tup (pa_cons (pe_tup (pa_cons pe_int (pa_cons pe_str pa_nil))) (pa_cons (pe_tup (pa_cons pe_int (pa_cons pe_str pa_nil))) pa_nil))) (pa_cons (pe_tup (pa_cons (pe_tup (pa_cons pe_int (pa_cons pe_str pa_nil))) (pa_cons (pe_tup (pa_cons pe_int (pa_cons pe_str pa_nil))) pa_nil))) (pa_cons (pe_tup (pa_cons (pe_tup (pa_cons pe_int (pa_cons pe_str pa_nil))) (pa_cons (pe_tup (pa_cons pe_int (pa_cons pe_str pa_nil))) pa_nil))) pa_nil)))))))
      (pss_cons (ps_set (i := 7) sc__law_fixed_machines.nd rfl (by first | exact Or.inl rfl | exact Or.inr rfl) (pe_lst (pa_cons (pv 0) (pa_cons (pv 1) (pa_cons (pv 2) (pa_cons (pv 3) (pa_cons (pv 4) (pa_cons (pv 5) (pa_cons (pe_tup (pa_cons (pe_tup (pa_cons pe_str (pa_cons pe_str pa_nil))) (pa_cons (pv 6) pa_nil))) pa_nil)))))))))
      (pss_one (ps_ret (pe_op op_cat (pv 7) (pe_lst (pa_cons (pe_tup (pa_cons (pe_tup (pa_cons pe_str pa_nil)) (pa_cons (pe_tup (pa_cons (pe_tup (pa_cons (pe_tup (pa_cons pe_int (pa_cons pe_str pa_nil))) pa_nil)) pa_nil)) pa_nil))) (pa_cons (pe_tup (pa_cons (pe_tup (pa_cons pe_str pa_nil)) (pa_cons (pe_tup (pa_cons (pe_tup (pa_cons (pe_tup (pa_cons pe_int (pa_cons pe_str pa_nil))) pa_nil)) pa_nil)) pa_nil))) pa_nil)))))))))))))), ?_⟩
  obtain ⟨rfl, k⟩ := h
  have a : At K (.of H) [.o, .o, .o, .o, .o, .o, .o, .o] [] (L2.start ["_law_old", "_law_new", "_law_first", "_law_far", "_law_ring", "_law_three", "_law_deep", "_law_found"] []) H := ⟨Same.refl _, env_none 8, Own.nil, True.intro⟩
  refine' q_asg (d := d_old) a ?h1 fun σ1 H1 a1 => ?_
  case h1 => walk_at "ev"
  refine' q_asg (d := d_new) a1 ?h1 fun σ2 H2 a2 => ?_
  case h1 => walk_at "ev"
  refine' q_asg (d := d_first) a2 ?h1 fun σ3 H3 a3 => ?_
  case h1 => walk_at "ev"
  refine' q_asg (d := d_far) a3 ?h1 fun σ4 H4 a4 => ?_
  case h1 => walk_at "ev"
  refine' q_asg (d := d_ring) a4 ?h1 fun σ5 H5 a5 => ?_
  case h1 => walk_at "ev"
  refine' q_asg (d := d_three) a5 (evd_tup (eva_cons ?h1 (eva_cons (evd_tup (eva_cons ?h2 (eva_cons ?h3 (eva_cons (evd_rep3 ?h4) eva_nil)))) eva_nil))) fun σ6 H6 a6 => ?_
  case h1 => walk_at "ev"
  case h2 => walk_at "ev"
  case h3 => walk_at "ev"
  case h4 => walk_at "ev"
  refine' q_asg (d := d_deepR) a6 ?h1 fun σ7 H7 a7 => ?_
  case h1 => walk_at "ev"
  refine' q_asgL (ds := [d_old, d_new, d_first, d_far, d_ring, d_three, .tuple [.tuple [.str "a", .str "b"], d_deepR]]) a7 (evl_lst ?h1) fun pl σ8 H8 a8 => ?_
  case h1 => exact eva_cons (evd_var a7 rfl) (eva_cons (evd_var a7 rfl) (eva_cons (evd_var a7 rfl) (eva_cons (evd_var a7 rfl) (eva_cons (evd_var a7 rfl) (eva_cons (evd_var a7 rfl) (eva_cons (evd_tup (eva_cons (evd_tup (eva_cons evd_s (eva_cons evd_s eva_nil))) (eva_cons (evd_var a7 rfl) eva_nil))) eva_nil))))))
  refine' f_retL (evl_catV (es := [d_l7, d_l8]) (evv_var a8 (i := 7) rfl) (a8.hasL (k := 0) rfl) (evl_lst ?h2) (by decide)) fun p xs H9 hp e9 hx hd => ?_
  case h2 => walk_at "ea"
  exact k p H9 (a8.sm.trans e9) (a8.sm.free hp) ⟨xs, hx, hd⟩
end
end K15

/-! part L6 -/
set_option Elab.async false
set_option linter.all false
set_option maxRecDepth 100000
set_option maxHeartbeats 1000000
namespace K15z
open PySem PySem.W PyProof.Rows
section
variable {prog : Program} {w : World} {A : Around} {E : Value → Shared → Prop} {s : Shared}
/-- sorted(t), t a tuple of data: by the list's sort -/
theorem sorted_seq {l : Addr} {T : String} {o : Obj} {n : Nat} {vs : List Value} {ds : List PyData} {R : Value → PyData → Prop} {Q : Value → Shared → Prop} (hT : T = "list" ∨ T = "tuple") (ho : s.heap.get? l = some o) (hc : o.cls = .type T) (hd : o.data = .seq vs.toArray n) (e : EachIs R vs ds) (er : EachIs (fun v b => ∃ as, Reads s.heap v b as) vs ds) (hal : AllAlike ds) (hk : Sortable ds) (hL : ds.length ≤ 1000)
    (hu : ∀ b, b ∈ ds → A.units + 2 + b.depth < cLine) (h : ∀ (h1 h' : Heap) (out : List Value) (c : Nat), (∀ b o, s.heap.get? b = some o → h1.get? b = some o) → (∀ b o, h1.get? b = some o → h'.get? b = some o) → h'.get? h1.objs.size = some (seqObj "list" (List.toArray out) c) → out.length = ds.length → EachIs R out (ds.mergeSort (dataLe false id)) → Q (.ref h1.objs.size) { s with heap := h' }) :
    wpAny (model prog w) A (call (.builtin "sorted") [.ref l]) Q E s := by
  have hZ : vs.length ≤ sizeLine := by rw [e.length, sizeLine_eq]; omega
  refine call_function_entry_kw kind_sorted plain_sorted entry_sorted (args_sorted1 _) ?_
  unfold Builtin.«sorted»
  refine wpAny_bind (m := checkCount "sorted" 1 1 _) (wpAny_pure ?_)
  refine wpAny_bind (wpAny_collect_seq (A := A.in1) l hT ho hc hd (fun h1 k1 => ?_) (by rw [List.size_toArray]; exact hZ))
  refine wpAny_bind (wpAny_newList ?_ hZ)
  have ha : (h1.push (seqObj "list" vs.toArray 0)).get? h1.objs.size = some (seqObj "list" vs.toArray 0) := Heap.get?_push_size _ rfl
  refine wpAny_bind (wpAny_holding (wpAny_call_entry_kw slot_list_sort ⟨_, ha, rfl⟩ entry_list_sort ?body (args_list_sort _)))
  case body =>
    show wpAny (model prog w) A.in1.in1 (Builtin.«list.sort» ⟨[.ref h1.objs.size], []⟩) _ _ _
    have k2 : ∀ b o, s.heap.get? b = some o → (sortingHeap (h1.push (seqObj "list" vs.toArray 0)) h1.objs.size vs).get? b = some o := fun b o q => sortingHeap_old (Nat.ne_of_lt (Heap.lt_size (k1 b o q))) (Heap.get?_push_of_some _ (k1 b o q))
    have er' : EachIs (fun v b => ∃ as, Reads (sortingHeap (h1.push (seqObj "list" vs.toArray 0)) h1.objs.size vs) v b as) vs ds := er.mono fun _ _ ⟨as, r⟩ => ⟨as, PyProof.Rows.Reads.keeps k2 r⟩
    refine list_sort_vals (s := { s with heap := h1.push (seqObj "list" vs.toArray 0) }) ha (SortsAt.data (s := { s with heap := sortingHeap (h1.push (seqObj "list" vs.toArray 0)) h1.objs.size vs }) er' hal hk fun d hd => ?_) hZ ?_
    · have := hu d hd
      show A.units + 1 + 1 + _ < _
      omega
    · obtain ⟨ep, he⟩ := PyProof.Rows.sortedHeap_at (vs := vs) (out := (sortVals (dataKind (sortingHeap (h1.push (seqObj "list" vs.toArray 0)) h1.objs.size vs) ds) false vs vs).toArray) ha
      have hids : ds.map id = ds := List.map_id _
      have es := sortVals_data (enc := id) (R := R) false e er' (by rw [hids]; exact hal)
      rw [hids] at es
      refine ⟨.none, rfl, wpAny_pure ⟨_, rfl, h h1 _ _ ep k1 (fun b o q => ?_) he ?_ es⟩⟩
      · have q2 := Heap.get?_push_of_some (seqObj "list" vs.toArray 0) q
        exact (PyProof.Rows.sortedHeap_old (Nat.ne_of_lt (Heap.lt_size q)) (Heap.lt_size q2)).trans q2
      · rw [sortVals_length false rfl]
        exact e.length
end
end K15z
namespace K15
open PySem PySem.Spec PyProof.Rows L2 RZ
def rSortD (K : PySem.W.Frag) : List V → Hp → VK → Prop := fun vs H Q => ∃ l xs ds, vs = [.ref l] ∧ (SqL K H l xs ∨ SqT K H l xs) ∧ DtAll K H xs ds ∧ PySem.W.AllAlike ds ∧ PySem.W.Sortable ds ∧ ds.length ≤ 1000 ∧ (∀ d ∈ ds, d.depth ≤ 10) ∧
  ∀ p ys, H p = none → DtAll K H ys (ds.mergeSort (PySem.W.dataLe false id)) → Q (.ref p) (upd H p (.lst ys))
theorem each_dt {K : PySem.W.Frag} {H : Hp} : ∀ {xs : List V} {ds : List PyData} {its : List Value}, Vals xs its → DtAll K H xs ds → PySem.W.EachIs (fun v d => ∃ x, RelV x v ∧ Dt K H x d) its ds
  | [], _, _, .nil, h => by cases h; exact .nil
  | x :: xs, _, _, .cons r rs, h => by
    cases h with
    | cons h1 h2 => exact .cons ⟨x, r, h1⟩ (each_dt rs h2)
theorem dt_each {K : PySem.W.Frag} {H : Hp} {its : List Value} {ds : List PyData} (h : PySem.W.EachIs (fun v d => ∃ x, RelV x v ∧ Dt K H x d) its ds) : ∃ xs, Vals xs its ∧ DtAll K H xs ds := by
  induction h with
  | nil => exact ⟨[], .nil, .nil⟩
  | cons h _ ih =>
    obtain ⟨x, r, d⟩ := h
    obtain ⟨xs, rs, dd⟩ := ih
    exact ⟨x :: xs, .cons r rs, .cons d dd⟩
theorem cr_sortD {X : Cx} (K : PySem.W.Frag) (hK : X.K = K) (hu : X.A.units + 64 < cLine) : CallR X (.builtin "sorted") (rSortD K) := by
  subst hK
  intro pins s σ H vs us Q I r h
  obtain ⟨l, xs, ds, rfl, hs, hd, hal, hk, hz, hdp, q⟩ := h
  rw [Vals.ref1 r]
  have go : ∀ (T : String) (o : Obj) (its : List Value) (n : Nat), (T = "list" ∨ T = "tuple") → s.heap.get? l = some o → o.cls = .type T → o.data = .seq its.toArray n → Vals xs its → wpAny (model X.prog X.w) X.A (call (.builtin "sorted") [.ref l]) (EP X pins σ Q) X.xe s := by
    intro T o its n hT ho hc hdt rv
    have e := each_dt rv hd
    refine K15z.sorted_seq hT ho hc hdt e (e.mono fun v d ⟨x, r, hx⟩ => Dp.reads I d x v (hx.dp d x) r) hal hk hz (fun d hdm => ?_) fun h1 h' out c k1 k2 hD hl eo => ?_
    · have := hdp d hdm
      omega
    · obtain ⟨ys, rv2, hd2⟩ := dt_each eo
      have I1 : Inv X pins σ H { s with heap := h1 } := I.kept (t' := s.toks) k1
      refine ⟨.ref h1.objs.size, upd H h1.objs.size (.lst ys), I1.laid (t' := s.toks) k2 (Nat.le_refl _) (show ObjOk X.prog X.w _ _ _ (.lst ys) from ⟨?_, out, c, rv2, hD⟩), rfl, q _ _ (I1.hok.fresh (Nat.le_refl _)) hd2⟩
      rw [rv2.length, hl, sizeLine_eq]
      omega
  rcases hs with hs | hs
  · obtain ⟨its, rv, pl, _⟩ := I.list hs
    obtain ⟨o, ho, hc, n, hdt⟩ := pl.isList
    exact go "list" o its n (.inl rfl) ho hc hdt rv
  · obtain ⟨its, rv, pl, _⟩ := I.tuple hs
    obtain ⟨o, ho, hc, n, hdt⟩ := pl
    exact go "tuple" o its n (.inr rfl) ho hc hdt rv
section
variable {K : PySem.W.Frag} {σ : L2.St} {H : Hp} {te : TE} {ds : List PyData}
theorem evl_sortL (h : EvL K te σ H ds) (hal : PySem.W.AllAlike ds) (hk : PySem.W.Sortable ds) (hz : ds.length ≤ 1000) (hdp : ∀ d ∈ ds, d.depth ≤ 10) : EvL K (tCB (rSortD K) (tCons te tNil)) σ H (ds.mergeSort (PySem.W.dataLe false id)) := fun H1 e Q q => h H1 e _ fun p xs H2 hp e2 hx hd =>
  ⟨p, xs, ds, rfl, .inl (SqL.of hx), hd, hal, hk, hz, hdp, fun r ys hr hy => q r ys _ (e2.free hr) (e2.trans (sm_new hr)) upd_same (hy.mono (sm_new hr))⟩
theorem evl_sortT (h : EvD K te σ H (.tuple ds)) (hal : PySem.W.AllAlike ds) (hk : PySem.W.Sortable ds) (hz : ds.length ≤ 1000) (hdp : ∀ d ∈ ds, d.depth ≤ 10) : EvL K (tCB (rSortD K) (tCons te tNil)) σ H (ds.mergeSort (PySem.W.dataLe false id)) := fun H1 e Q q => h H1 e _ fun v H2 e2 hv => by
  obtain ⟨a, xs, rfl, hs, ha⟩ := hv.tup_inv
  exact ⟨a, xs, ds, rfl, .inr hs, ha, hal, hk, hz, hdp, fun r ys hr hy => q r ys _ (e2.free hr) (e2.trans (sm_new hr)) upd_same (hy.mono (sm_new hr))⟩
end
theorem sort_ints (ns : List Int) : (ns.map PyData.int).mergeSort (PySem.W.dataLe false id) = (sortI ns).map PyData.int := by
  unfold sortI
  refine (List.map_mergeSort fun a _ b _ => ?_).symm
  have := congrFun (congrFun (PySem.W.dataLe_int (fun b : Int => b)) a) b
  exact this.symm
def sortS (l : List Str) : List Str := l.mergeSort fun a b => decide (leT a b)
theorem sort_strs (l : List Str) : (l.map PyData.str).mergeSort (PySem.W.dataLe false id) = (sortS l).map PyData.str := by
  unfold sortS
  refine (List.map_mergeSort fun a _ b _ => ?_).symm
  have := congrFun (congrFun (PySem.W.dataLe_str (fun b : Str => b)) a) b
  exact this.symm
/-- the names with their places -/
theorem sort_pairs (nw : List Str) (nd : nw.Nodup) : ((List.range nw.length).map fun j => PyData.tuple [.str (nw.getD j Str.empty), .int ((j : Nat) : Int)]).mergeSort (PySem.W.dataLe false id) = (sortBy nw).map fun j => PyData.tuple [.str (nw.getD j Str.empty), .int ((j : Nat) : Int)] := by
  unfold sortBy
  refine (List.map_mergeSort fun a ha b hb => ?_).symm
  have ha := List.mem_range.mp ha
  have hb := List.mem_range.mp hb
  show decide (leT _ _) = !PySem.W.dataLt (.tuple [.str (nw.getD b Str.empty), .int ((b : Nat) : Int)]) (.tuple [.str (nw.getD a Str.empty), .int ((a : Nat) : Int)])
  rw [PySem.W.dataLt_pair (by simp [PySem.W.alike]) (by simp [PySem.W.alike]), PySem.W.dataLt_str, PySem.W.dataLt_int]
  have e1 : PyData.eqv (.str (nw.getD b Str.empty)) (.str (nw.getD a Str.empty)) = (nw.getD b Str.empty == nw.getD a Str.empty) := by simp only [PyData.eqv]
  have e2 : PyData.eqv (.int ((b : Nat) : Int)) (.int ((a : Nat) : Int)) = (((b : Nat) : Int) == ((a : Nat) : Int)) := by simp only [PyData.eqv]
  rw [e1, e2]
  by_cases e : a = b
  · subst e
    simp
  · have ne : nw.getD b Str.empty ≠ nw.getD a Str.empty := fun z => by
      simp only [List.getD_eq_getElem?_getD, List.getElem?_eq_getElem ha, List.getElem?_eq_getElem hb, Option.getD_some] at z
      have pw := List.pairwise_iff_getElem.mp nd
      rcases Nat.lt_or_gt_of_ne e with h | h
      · exact pw a b ha hb h z.symm
      · exact pw b a hb ha h z
    have e3 : (nw.getD b Str.empty == nw.getD a Str.empty) = false := beq_eq_false_iff_ne.mpr ne
    rw [e3, if_neg Bool.false_ne_true, PySem.W.not_lt_str]
end K15

/-! part L7 -/
set_option Elab.async false
set_option linter.all false
set_option maxRecDepth 100000
set_option maxHeartbeats 1000000
namespace K15
open PySem PySem.Spec PyProof.Rows L2 RZ
/-! ### steps by a word -/
local macro_rules | `(tactic| walk_at "ov") => `(tactic| first
  | with_reducible exact ov_eqS
  | with_reducible exact ov_eqI
  | with_reducible exact ov_neS
  | with_reducible exact ov_neI
  | with_reducible exact ov_neB
  | with_reducible exact ov_ltS
  | with_reducible exact ov_inS
  | with_reducible exact ov_I0 (fun _ => Dt.int _)
  | with_reducible exact ov_I0 (fun _ => Dt.bl _))
local macro_rules | `(tactic| walk_at "ev") => `(tactic| first
  | with_reducible exact evd_i
  | with_reducible exact evd_s
  | with_reducible exact evd_b
  | with_reducible exact evd_n
  | ((with_reducible refine' evd_var (by assumption) ?hv); (case hv => rfl))
  | with_reducible assumption
  | ((with_reducible refine' evd_op ?ha ?hb ?hr); (case ha => walk_at "ev"); (case hb => walk_at "ev"); (case hr => walk_at "ov"))
  | ((with_reducible refine' evd_and ?ha (fun hc => ?hb)); (case ha => walk_at "ev"); (case hb => walk_at "ev"))
  | ((with_reducible refine' evd_or ?ha (fun hc => ?hb)); (case ha => walk_at "ev"); (case hb => walk_at "ev"))
  | ((with_reducible refine' evd_not ?ha); (case ha => walk_at "ev"))
  | ((with_reducible refine' evd_isi ?ha ?hb); (case ha => walk_at "ev"); (case hb => first | exact kb_ii | exact kb_ib | exact kb_ss | exact kb_tt))
  | ((with_reducible refine' evd_tup ?ha ?hb); (case ha => walk_at "ea"); (case hb => first | decide | (simp only [List.length_cons, List.length_nil]; omega)))
  | ((with_reducible refine' evd_chain ?ha ?hb ?hc ?h1 ?h2); (case ha => walk_at "ev"); (case hb => walk_at "ev"); (case hc => walk_at "ev"); (case h1 => walk_at "ov"); (case h2 => walk_at "ov"))
  | ((with_reducible refine' evd_cb ?ha ?hb); (case ha => walk_at "ea"); (case hb => first | with_reducible exact cv_len | with_reducible exact cv_max2 | with_reducible exact cv_int1 | ((with_reducible refine' cv_lenS ?hz); (case hz => omega))))
  | ((with_reducible refine' evd_c1 _ ?hp ?ha); (case ha => walk_at "ea"); (case hp => first | exact True.intro | assumption | (show _ ≤ _; omega))))
local macro_rules | `(tactic| walk_at "ea") => `(tactic| first
  | with_reducible exact eva_nil
  | ((with_reducible refine' eva_cons ?ha ?hb); (case ha => walk_at "ev"); (case hb => walk_at "ea")))
local macro_rules | `(tactic| walk_at "et") => `(tactic| first
  | with_reducible assumption
  | ((with_reducible refine' evt_test ?ha); (case ha => walk_at "ev"))
  | ((with_reducible refine' evt_B ?ha); (case ha => walk_at "ev"))
  | ((with_reducible refine' evt_and ?ha (fun hc => ?hb)); (case ha => walk_at "et"); (case hb => walk_at "et"))
  | ((with_reducible refine' evt_or ?ha (fun hc => ?hb)); (case ha => walk_at "et"); (case hb => walk_at "et"))
  | ((with_reducible refine' evt_not ?ha); (case ha => walk_at "et")))

local macro_rules | `(tactic| walk_at "wk") => `(tactic| first
  | exact Weak.nil
  | ((refine' Weak.keep ?h); (case h => walk_at "wk"))
  | ((refine' Weak.drop ?h); (case h => walk_at "wk")))

theorem getK_has {ns : Nms} {x : Str} (h : x ∈ ns.map (·.1)) : getK (eN ns) (.inr x) = some (.str (nmOf ns x)) := by
  have h1 := getK_eN ns x
  cases e : getK (eN ns) (.inr x) with
  | some d =>
    rw [e] at h1
    exact congrArg some h1
  | none =>
    exfalso
    obtain ⟨p, hp, rfl⟩ := List.mem_map.mp h
    unfold getK at e
    rw [Option.map_eq_none_iff, List.find?_eq_none] at e
    have := e ((.inr p.1 : Key), PyData.str p.2) (List.mem_map.mpr ⟨p, hp, rfl⟩)
    simp at this
section
variable {P : Program} {w : World} {K : PySem.W.Frag} {mg : Str → Option Value} {base : Heap}
abbrev s__law_put : Stmt := top 77
theorem sc__law_put : FnScope ["_law_named", "_law_own", "_law_letter"] ["_law_named", "_law_own"] (defScope s__law_put) := ⟨rfl, rfl, rfl, by decide +kernel, rfl, by decide +kernel, by decide +kernel⟩
def SpPut (K : PySem.W.Frag) : Sp := fun vs H Q _ => ∃ p v ns own, vs = [.ref p, v] ∧ HasK K H p (eN ns) ∧ Dt K H v (eL own) ∧ own.length ≤ 1000 ∧ (∀ x ∈ own, x ∈ ns.map (·.1)) ∧ ∀ u H', Same H H' → Dt K H' u (eL (own.map (nmOf ns))) → Q u H'
theorem df_put (T : Top mg) (F : Fn K mg "_law_put" "_law_put" s__law_put) : Df P w K mg base 1 "_law_put" (SpPut K) := by
  refine df_any F sc__law_put (fun _ _ _ _ _ _ us hl => match us, hl with | [_, _], _ => rfl) (fun vs H Q E ⟨_, _, _, _, h, _⟩ => by rw [h]; rfl) (fun f cdv A outer s H vs Q E hr h => ?_)
  have hu := hu_of hr
  refine ⟨_, (pss_one (ps_ret (pe_callTy (c_tup' K (by rfl)) (by rfl) T.tuple_ (by decide +kernel) (pa_cons (pe_lc (own := [("_law_letter", 2)]) rfl sc__law_put.nd (pi_tup' K (by rfl) (pv 1)) (blkOk_by (N := ["_law_named", "_law_own", "_law_letter"]) (sc := defScope s__law_put) (by decide +kernel)) (fun _ _ _ _ _ => by exact (pg_name (i := 2) sc__law_put.nd rfl (by first | exact Or.inl rfl | exact Or.inr rfl))) (fun _ _ _ _ _ => pts_nil) (fun _ _ _ _ _ => by exact (pe_dget hu (pv 0) (pv 2) (fun _ _ => rfl)))) pa_nil)))), ?_⟩
  obtain ⟨p, v, ns, own, rfl, hd, hv, hz, hx, k⟩ := h
  have a : At K (.of H) [.v (.ref p), .d (eL own), .o] [] (L2.start ["_law_named", "_law_own", "_law_letter"] [.ref p, v]) H := ⟨Same.refl _, ⟨rfl, hv, True.intro, True.intro⟩, Own.nil, True.intro⟩
  refine f_ret a (evd_tupL (EvL.is (evl_lcn (l := own) (en := .str) (fun x => .str (nmOf ns x)) a (src_tup (evd_var a rfl)) (Nat.le_trans hz (by decide)) ?hj fun x σ' H1 hm a1 => ?hb) ?he)) k
  case hj => decide
  case hb => exact evd_dget (key := .inr x) (evv_var a1 (i := 0) rfl) (hd.mono a1.sm) (evd_var a1 rfl) (getK_has (hx x hm))
  case he => rw [List.map_map]; rfl
abbrev s__law_other_words : Stmt := top 76
theorem sc__law_other_words : FnScope ["_law_good", "_law_table_now", "_law_rows", "_law_then", "_law_word", "_law_own"] ["_law_good", "_law_table_now"] (defScope s__law_other_words) := ⟨rfl, rfl, rfl, by decide +kernel, rfl, by decide +kernel, by decide +kernel⟩
def SpOtherW (K : PySem.W.Frag) : Sp := fun vs H Q _ => ∃ p v ns M, vs = [v, .ref p] ∧ HasK K H p (eN ns) ∧ Dt K H v (eM M) ∧ Wf M ∧ ∀ u H', Same H H' → Dt K H' u (eM (mapW (nmOf ns) M)) → Q u H'
theorem df_other_words (T : Top mg) (F : Fn K mg "_law_other_words" "_law_other_words" s__law_other_words) : Df P w K mg base 1 "_law_other_words" (SpOtherW K) := by
  refine df_any F sc__law_other_words (fun _ _ _ _ _ _ us hl => match us, hl with | [_, _], _ => rfl) (fun vs H Q E ⟨_, _, _, _, h, _⟩ => by rw [h]; rfl) (fun f cdv A outer s H vs Q E hr h => ?_)
  have hu := hu_of hr
  refine ⟨_, (pss_cons (ps_setLc (i := 2) (own := [("_law_own", 5)]) rfl sc__law_other_words.nd rfl rfl (sw_true rfl rfl rfl (by decide +kernel)) (pi_tup' K (by rfl) (pe_ix (ix_tup' K (by rfl)) (pv 0) pe_int (fun _ _ => rfl))) (blkOk_by (N := ["_law_good", "_law_table_now", "_law_rows", "_law_then", "_law_word", "_law_own"]) (sc := defScope s__law_other_words) (by decide +kernel)) (fun _ _ _ _ _ => by exact (pg_name (i := 5) sc__law_other_words.nd rfl (by first | exact Or.inl rfl | exact Or.inr rfl))) (fun _ _ _ _ _ => pts_nil) (fun _ _ _ _ _ => by exact (pe_callTy (c_tup' K (by rfl)) (by rfl) T.tuple_ (by decide +kernel) (pa_cons (pe_lc (own := [("_law_then", 3), ("_law_word", 4)]) rfl sc__law_other_words.nd (pi_tup' K (by rfl) (pv 5)) (blkOk_by (by show blkC ["_law_good", "_law_table_now", "_law_rows", "_law_then", "_law_word", "_law_own"] (relS _ (defScope s__law_other_words)) _ _ = true; decide +kernel)) (fun _ _ _ _ _ => by exact (pg_pair K (by rfl) (i := 3) (j := 4) rfl sc__law_other_words.nd rfl rfl (by first | exact Or.inl rfl | exact Or.inr rfl) (by first | exact Or.inl rfl | exact Or.inr rfl) (by first | exact Or.inl rfl | exact Or.inr rfl) (by first | exact Or.inl rfl | exact Or.inr rfl))) (fun _ _ _ _ _ => pts_nil) (fun _ _ _ _ _ => by exact (pe_tup (pa_cons (pv 3) (pa_cons (pe_dget2 hu (pv 1) (pv 4) (pv 4) ⟨rfl, rfl, rfl, rfl⟩) pa_nil))))) pa_nil))))
      (pss_one (ps_ret (pe_tup (pa_cons (pe_ix (ix_tup' K (by rfl)) (pv 0) pe_int (fun _ _ => rfl)) (pa_cons (pe_callTy (c_tup' K (by rfl)) (by rfl) T.tuple_ (by decide +kernel) (pa_cons (pv 2) pa_nil)) pa_nil)))))), ?_⟩
  obtain ⟨p, v, ns, M, rfl, hd, hv, hw, k⟩ := h
  have a : At K (.of H) [.d (eM M), .v (.ref p), .o, .o, .o, .o] [] (L2.start ["_law_good", "_law_table_now", "_law_rows", "_law_then", "_law_word", "_law_own"] [v, .ref p]) H := ⟨Same.refl _, ⟨hv, rfl, True.intro, True.intro, True.intro, True.intro, True.intro⟩, Own.nil, True.intro⟩
  refine' q_asgL (ds := (mapW (nmOf ns) M).R.map eR) a (EvL.is (evl_lcn (l := M.R) (en := eR) (fun r => eR (r.map fun p => (p.1, nmOf ns p.2))) a (src_tup (evd_ix1 (evd_var a rfl))) (Nat.le_trans hw.r1 (by decide)) ?hj fun r σ' H1 hm a1 => ?hb) ?he) fun pr σ2 H2 a2 => ?_
  case hj => decide
  case he =>
    show _ = (M.R.map _).map eR
    rw [List.map_map]
    rfl
  case hb =>
    refine evd_tupL (EvL.is (evl_lcp (l := r) (f1 := fun p => .int (p.1 : Int)) (f2 := fun p => .str p.2) (fun p => eP (p.1, nmOf ns p.2)) a1 (src_tup (evd_var a1 (i := 5) rfl)) ?hz ?h3 ?h4 fun q σ'' H3 hq a3 => ?h5) ?h6)
    case hz =>
      rw [hw.rl _ hm]
      exact Nat.le_trans hw.l1 (by decide)
    case h3 => decide
    case h4 => decide
    case h5 => exact evd_tup (eva_cons (evd_var a3 (i := 3) rfl) (eva_cons (evd_dget2 (key := .inr q.2) (dx := .str q.2) (evv_var a3 (i := 1) rfl) (hd.mono a3.sm) (evd_var a3 (i := 4) rfl) (evd_var a3 (i := 4) rfl) (getK_eN ns q.2)) eva_nil))
    case h6 =>
      rw [List.map_map]
      rfl
  exact f_ret a2 (evd_tup (eva_cons (evd_ix0 (evd_var a2 (i := 0) rfl)) (eva_cons (evd_tupV (evv_var a2 (i := 2) rfl) (a2.hasL (k := 0) rfl)) eva_nil))) k
abbrev s__law_other_letters : Stmt := top 75
theorem sc__law_other_letters : FnScope ["_law_good", "_law_named", "_law_order", "_law_j", "_law_rows", "_law_name", "_law_own"] ["_law_good", "_law_named"] (defScope s__law_other_letters) := ⟨rfl, rfl, rfl, by decide +kernel, rfl, by decide +kernel, by decide +kernel⟩
def SpOtherL (K : PySem.W.Frag) : Sp := fun vs H Q _ => ∃ p v ns M, vs = [v, .ref p] ∧ HasK K H p (eN ns) ∧ Dt K H v (eM M) ∧ Wf M ∧ (∀ x ∈ M.L, x ∈ ns.map (·.1)) ∧ (newsOf ns M).Nodup ∧ ∀ u H', Same H H' → Dt K H' u (eM (permM (newsOf ns M) M)) → Q u H'
theorem df_other_letters (T : Top mg) (F : Fn K mg "_law_other_letters" "_law_other_letters" s__law_other_letters) : Df P w K mg base 1 "_law_other_letters" (SpOtherL K) := by
  refine df_any F sc__law_other_letters (fun _ _ _ _ _ _ us hl => match us, hl with | [_, _], _ => rfl) (fun vs H Q E ⟨_, _, _, _, h, _⟩ => by rw [h]; rfl) (fun f cdv A outer s H vs Q E hr h => ?_)
  have hu := hu_of hr
  refine ⟨_, (pss_cons (ps_set (i := 2) sc__law_other_letters.nd rfl (by first | exact Or.inl rfl | exact Or.inr rfl) (pe_callB (cr_sortD K (by rfl) hr.units) (by rfl) T.sorted_ (by decide +kernel) (pa_cons (pe_lc (own := [("_law_j", 3)]) rfl sc__law_other_letters.nd (pi_range1 (by rfl) T.range_ (pa_cons (pe_callB (c_len' K (by rfl)) (by rfl) T.len_ (by decide +kernel) (pa_cons (pe_ix (ix_tup' K (by rfl)) (pv 0) pe_int (fun _ _ => rfl)) pa_nil)) pa_nil)) (blkOk_by (N := ["_law_good", "_law_named", "_law_order", "_law_j", "_law_rows", "_law_name", "_law_own"]) (sc := defScope s__law_other_letters) (by decide +kernel)) (fun _ _ _ _ _ => by exact (pg_name (i := 3) sc__law_other_letters.nd rfl (by first | exact Or.inl rfl | exact Or.inr rfl))) (fun _ _ _ _ _ => pts_nil) (fun _ _ _ _ _ => by exact (pe_tup (pa_cons (pe_dget hu (pv 1) (pe_ix (ix_tup' K (by rfl)) (pe_ix (ix_tup' K (by rfl)) (pv 0) pe_int (fun _ _ => rfl)) (pv 3) (fun _ _ => rfl)) (fun _ _ => rfl)) (pa_cons (pv 3) pa_nil))))) pa_nil)))
      (pss_cons (ps_setLc (i := 4) (own := [("_law_own", 6)]) rfl sc__law_other_letters.nd rfl rfl (sw_true rfl rfl rfl (by decide +kernel)) (pi_tup' K (by rfl) (pe_ix (ix_tup' K (by rfl)) (pv 0) pe_int (fun _ _ => rfl))) (blkOk_by (N := ["_law_good", "_law_named", "_law_order", "_law_j", "_law_rows", "_law_name", "_law_own"]) (sc := defScope s__law_other_letters) (by decide +kernel)) (fun _ _ _ _ _ => by exact (pg_name (i := 6) sc__law_other_letters.nd rfl (by first | exact Or.inl rfl | exact Or.inr rfl))) (fun _ _ _ _ _ => pts_nil) (fun _ _ _ _ _ => by exact (pe_callTy (c_tup' K (by rfl)) (by rfl) T.tuple_ (by decide +kernel) (pa_cons (pe_lc (own := [("_law_name", 5), ("_law_j", 3)]) rfl sc__law_other_letters.nd (pi_list' K (by rfl) (pv 2)) (blkOk_by (by show blkC ["_law_good", "_law_named", "_law_order", "_law_j", "_law_rows", "_law_name", "_law_own"] (relS _ (defScope s__law_other_letters)) _ _ = true; decide +kernel)) (fun _ _ _ _ _ => by exact (pg_pair K (by rfl) (i := 5) (j := 3) rfl sc__law_other_letters.nd rfl rfl (by first | exact Or.inl rfl | exact Or.inr rfl) (by first | exact Or.inl rfl | exact Or.inr rfl) (by first | exact Or.inl rfl | exact Or.inr rfl) (by first | exact Or.inl rfl | exact Or.inr rfl))) (fun _ _ _ _ _ => pts_nil) (fun _ _ _ _ _ => by exact (pe_ix (ix_tup' K (by rfl)) (pv 6) (pv 3) (fun _ _ => rfl)))) pa_nil))))
      (pss_one (ps_ret (pe_tup (pa_cons (pe_callTy (c_tup' K (by rfl)) (by rfl) T.tuple_ (by decide +kernel) (pa_cons (pe_lc (own := [("_law_name", 5), ("_law_j", 3)]) rfl sc__law_other_letters.nd (pi_list' K (by rfl) (pv 2)) (blkOk_by (N := ["_law_good", "_law_named", "_law_order", "_law_j", "_law_rows", "_law_name", "_law_own"]) (sc := defScope s__law_other_letters) (by decide +kernel)) (fun _ _ _ _ _ => by exact (pg_pair K (by rfl) (i := 5) (j := 3) rfl sc__law_other_letters.nd rfl rfl (by first | exact Or.inl rfl | exact Or.inr rfl) (by first | exact Or.inl rfl | exact Or.inr rfl) (by first | exact Or.inl rfl | exact Or.inr rfl) (by first | exact Or.inl rfl | exact Or.inr rfl))) (fun _ _ _ _ _ => pts_nil) (fun _ _ _ _ _ => by exact (pv 5))) pa_nil)) (pa_cons (pe_callTy (c_tup' K (by rfl)) (by rfl) T.tuple_ (by decide +kernel) (pa_cons (pv 4) pa_nil)) pa_nil))))))), ?_⟩
  obtain ⟨p, v, ns, M, rfl, hd, hv, hw, hx, hnd, k⟩ := h
  have hl1 := hw.l1
  have hnl : (newsOf ns M).length = M.L.length := List.length_map _
  have a : At K (.of H) [.d (eM M), .v (.ref p), .o, .o, .o, .o, .o] [] (L2.start ["_law_good", "_law_named", "_law_order", "_law_j", "_law_rows", "_law_name", "_law_own"] [v, .ref p]) H := ⟨Same.refl _, ⟨hv, rfl, True.intro, True.intro, True.intro, True.intro, True.intro, True.intro⟩, Own.nil, True.intro⟩
  refine' q_asgL (ds := (sortBy (newsOf ns M)).map fun j => PyData.tuple [.str ((newsOf ns M).getD j Str.empty), .int ((j : Nat) : Int)]) a (EvL.is (evl_sortL (ds := (List.range (newsOf ns M).length).map fun j => PyData.tuple [.str ((newsOf ns M).getD j Str.empty), .int ((j : Nat) : Int)]) (EvL.is (evl_lcn (l := List.range M.L.length) (en := fun (j : Nat) => .int (j : Int)) (fun j => PyData.tuple [.str ((newsOf ns M).getD j Str.empty), .int ((j : Nat) : Int)]) a (src_rng ?hs1 ?hs2) ?hz ?hj fun j σ' H1 hm a1 => ?hb) ?he0) (PySem.W.AllAlike.of (enc := fun (j : Nat) => PyData.tuple [.str ((newsOf ns M).getD j Str.empty), .int ((j : Nat) : Int)]) fun _ _ => by simp [PySem.W.alike, PySem.W.alikeAll]) (PySem.W.Sortable.tuples (enc := fun (j : Nat) => PyData.tuple [.str ((newsOf ns M).getD j Str.empty), .int ((j : Nat) : Int)]) fun _ => ⟨_, _, rfl⟩) ?hz2 ?hdp) (sort_pairs _ hnd)) fun po σ2 H2 a2 => ?_
  case hs1 => exact eva_cons (EvD.is (evd_cb (eva_cons (evd_ix0 (evd_var a rfl)) eva_nil) cv_len) (by rw [List.length_map])) eva_nil
  case hs2 => omega
  case hz => rw [List.length_range]; omega
  case hj => decide
  case he0 => rw [hnl]
  case hz2 => rw [List.length_map, List.length_range]; omega
  case hdp =>
    intro d hdm
    obtain ⟨j, _, rfl⟩ := List.mem_map.mp hdm
    simp [PyData.depth, PyData.depthAll]
  case hb =>
    have hj := List.mem_range.mp hm
    have e1 : (newsOf ns M).getD j Str.empty = nmOf ns M.L[j] := by
      rw [List.getD_eq_getElem?_getD, List.getElem?_eq_getElem (by omega)]
      simp [newsOf]
    rw [e1]
    exact evd_tup (eva_cons (evd_dget (key := .inr M.L[j]) (evv_var a1 (i := 1) rfl) (hd.mono a1.sm) (evd_op (evd_ix0 (evd_var a1 (i := 0) rfl)) (evd_var a1 (i := 3) rfl) (ov_ix j (by rw [List.getElem?_map, List.getElem?_eq_getElem hj]; rfl))) (getK_has (hx _ (List.getElem_mem hj)))) (eva_cons (evd_var a1 (i := 3) rfl) eva_nil))
  refine' q_asgL (ds := (permM (newsOf ns M) M).R.map eR) a2 (EvL.is (evl_lcn (l := M.R) (en := eR) (fun q => eR ((sortBy (newsOf ns M)).map fun j => q.getD j (0, Str.empty))) a2 (src_tup (evd_ix1 (evd_var a2 (i := 0) rfl))) (Nat.le_trans hw.r1 (by decide)) ?hj fun q σ' H3 hq a3 => ?hb2) ?he2) fun pr σ4 H4 a4 => ?_
  case hj => decide
  case he2 =>
    show _ = (M.R.map fun r => (sortBy (newsOf ns M)).map fun j => r.getD j (0, Str.empty)).map eR
    rw [List.map_map]
    rfl
  case hb2 =>
    refine evd_tupL (EvL.is (evl_lcp (l := sortBy (newsOf ns M)) (f1 := fun j => .str ((newsOf ns M).getD j Str.empty)) (f2 := fun j => .int ((j : Nat) : Int)) (fun j => eP (q.getD j (0, Str.empty))) a3 (src_has (evv_var a3 (i := 2) rfl) (a3.hasL (k := 0) rfl)) ?hz3 ?h3 ?h4 fun j σ'' H5 hjm a5 => ?h5) ?h6)
    case hz3 => rw [len_sortBy]; omega
    case h3 => decide
    case h4 => decide
    case h5 =>
      have hj := mem_sortBy hjm
      have hjq : j < q.length := by rw [hw.rl q hq]; omega
      exact evd_op (evd_var a5 (i := 6) rfl) (evd_var a5 (i := 3) rfl) (ov_ix j (by rw [List.getElem?_map, List.getElem?_eq_getElem hjq, List.getD_eq_getElem?_getD, List.getElem?_eq_getElem hjq]; rfl))
    case h6 =>
      rw [List.map_map]
      rfl
  refine f_ret a4 (evd_tup (eva_cons (evd_tupL (EvL.is (evl_lcp (l := sortBy (newsOf ns M)) (f1 := fun j => .str ((newsOf ns M).getD j Str.empty)) (f2 := fun j => .int ((j : Nat) : Int)) (fun j => .str ((newsOf ns M).getD j Str.empty)) a4 (src_has (evv_var a4 (i := 2) rfl) (a4.hasL (k := 1) rfl)) ?hz4 ?h3 ?h4 fun j σ'' H5 hjm a5 => ?h5) ?h6)) (eva_cons (evd_tupV (evv_var a4 (i := 4) rfl) (a4.hasL (k := 0) rfl)) eva_nil))) k
  case hz4 => rw [len_sortBy]; omega
  case h3 => decide
  case h4 => decide
  case h5 => exact evd_var a5 (i := 5) rfl
  case h6 =>
    show _ = ((sortBy (newsOf ns M)).map fun j => (newsOf ns M).getD j Str.empty).map PyData.str
    rw [List.map_map]
    rfl
end
end K15

/-! part L8 -/
set_option Elab.async false
set_option linter.all false
set_option maxRecDepth 100000
set_option maxHeartbeats 1000000
namespace K15
open PySem PySem.Spec PyProof.Rows L2 RZ
/-! ### steps by a word -/
local macro_rules | `(tactic| walk_at "ov") => `(tactic| first
  | with_reducible exact ov_eqS
  | with_reducible exact ov_eqI
  | with_reducible exact ov_neS
  | with_reducible exact ov_neI
  | with_reducible exact ov_neB
  | with_reducible exact ov_ltS
  | with_reducible exact ov_inS
  | with_reducible exact ov_I0 (fun _ => Dt.int _)
  | with_reducible exact ov_I0 (fun _ => Dt.bl _))
local macro_rules | `(tactic| walk_at "ev") => `(tactic| first
  | with_reducible exact evd_i
  | with_reducible exact evd_s
  | with_reducible exact evd_b
  | with_reducible exact evd_n
  | ((with_reducible refine' evd_var (by assumption) ?hv); (case hv => rfl))
  | with_reducible assumption
  | ((with_reducible refine' evd_op ?ha ?hb ?hr); (case ha => walk_at "ev"); (case hb => walk_at "ev"); (case hr => walk_at "ov"))
  | ((with_reducible refine' evd_and ?ha (fun hc => ?hb)); (case ha => walk_at "ev"); (case hb => walk_at "ev"))
  | ((with_reducible refine' evd_or ?ha (fun hc => ?hb)); (case ha => walk_at "ev"); (case hb => walk_at "ev"))
  | ((with_reducible refine' evd_not ?ha); (case ha => walk_at "ev"))
  | ((with_reducible refine' evd_isi ?ha ?hb); (case ha => walk_at "ev"); (case hb => first | exact kb_ii | exact kb_ib | exact kb_ss | exact kb_tt))
  | ((with_reducible refine' evd_tup ?ha ?hb); (case ha => walk_at "ea"); (case hb => first | decide | (simp only [List.length_cons, List.length_nil]; omega)))
  | ((with_reducible refine' evd_chain ?ha ?hb ?hc ?h1 ?h2); (case ha => walk_at "ev"); (case hb => walk_at "ev"); (case hc => walk_at "ev"); (case h1 => walk_at "ov"); (case h2 => walk_at "ov"))
  | ((with_reducible refine' evd_cb ?ha ?hb); (case ha => walk_at "ea"); (case hb => first | with_reducible exact cv_len | with_reducible exact cv_max2 | with_reducible exact cv_int1 | ((with_reducible refine' cv_lenS ?hz); (case hz => omega))))
  | ((with_reducible refine' evd_c1 _ ?hp ?ha); (case ha => walk_at "ea"); (case hp => first | exact True.intro | assumption | (show _ ≤ _; omega))))
local macro_rules | `(tactic| walk_at "ea") => `(tactic| first
  | with_reducible exact eva_nil
  | ((with_reducible refine' eva_cons ?ha ?hb); (case ha => walk_at "ev"); (case hb => walk_at "ea")))
local macro_rules | `(tactic| walk_at "et") => `(tactic| first
  | with_reducible assumption
  | ((with_reducible refine' evt_test ?ha); (case ha => walk_at "ev"))
  | ((with_reducible refine' evt_B ?ha); (case ha => walk_at "ev"))
  | ((with_reducible refine' evt_and ?ha (fun hc => ?hb)); (case ha => walk_at "et"); (case hb => walk_at "et"))
  | ((with_reducible refine' evt_or ?ha (fun hc => ?hb)); (case ha => walk_at "et"); (case hb => walk_at "et"))
  | ((with_reducible refine' evt_not ?ha); (case ha => walk_at "et")))

local macro_rules | `(tactic| walk_at "wk") => `(tactic| first
  | exact Weak.nil
  | ((refine' Weak.keep ?h); (case h => walk_at "wk"))
  | ((refine' Weak.drop ?h); (case h => walk_at "wk")))

theorem At.sub {K : PySem.W.Frag} {B : Base} {Γ : List Sl} {Θ Θ' : List (Addr × Ob)} {σ : L2.St} {H : Hp} (a : At K B Γ Θ σ H) (h : Θ'.Sublist Θ) : At K B Γ Θ' σ H := ⟨a.sm, a.env, ⟨a.own.nd.sublist (h.map _), fun d hd => a.own.ok d (h.subset hd)⟩, a.gh⟩
section
variable {K : PySem.W.Frag} {σ : L2.St} {H : Hp} {B : Base} {Γ Γ2 : List Sl} {Θ : List (Addr × Ob)} {i j k : Nat} {p p2 : Addr} {te to : TE} {wi : TI} {g : TG} {tbody tz : TS} {D : Ends} {ds es : List PyData}
/-- a for, its invariant any -/
theorem s_forG {α : Type} {l : List α} {en : α → PyData} (Pv : Base → Nat → L2.St → Hp → Prop) (a : At K B Γ Θ σ H) (S : SrcS K wi σ H (l.map en)) (h0 : ∀ (G : Hp → Prop) st H', At K (B.and G st) Γ Θ σ H' → Pv (B.and G st) 0 σ H') (hat : ∀ B' i σ' H', Pv B' i σ' H' → ∃ Γ' Θ', At K B' Γ' Θ' σ' H')
    (hup : ∀ B' i σ' H' H'', Pv B' i σ' H' → Same H' H'' → Pv B' i σ' H'') (hless : ∀ (G : Hp → Prop) st i σ' H', Pv (B.and G st) i σ' H' → Pv B i σ' H')
    (hs : ∀ (G : Hp → Prop) st (i : Nat) (x : α) (v : V) σ' H' D', l[i]? = some x → Pv (B.and G st) i σ' H' → Dt K H' v (en x) → (∀ σ2 H2, Pv (B.and G st) (i + 1) σ2 H2 → D'.nx σ2 H2) → D'.rt = D.rt → g v σ' H' fun σ2 H2 => tbody D' σ2 H2)
    (hd : ∀ σ' H', Pv B l.length σ' H' → D.nx σ' H') : tFor wi g tbody D σ H := by
  refine S.run H (Same.refl H) _ fun J G H2 e st hG W => ?_
  refine for_it W (fun i σ' H' => Pv (B.and G st) i σ' H') (h0 G st _ ((a.up e).fact st hG)) (fun i σ H _ h => let ⟨_, _, h⟩ := hat _ _ _ _ h; h.gh.2) (fun i x σ' H' H'' hi h y => ?_) fun σ' H' h => ?_
  · obtain ⟨s, d, hdi, hx⟩ := y
    rw [List.length_map] at hi
    rw [List.getElem?_map, List.getElem?_eq_getElem hi] at hdi
    obtain rfl := Option.some.inj hdi
    exact hs G st i l[i] x σ' H'' _ (List.getElem?_eq_getElem hi) (hup _ _ _ _ _ h s) hx (fun _ _ h' => h') rfl
  · rw [List.length_map] at h
    exact hd σ' H' (hless G st _ _ _ h)
theorem q_forG {α : Type} {l : List α} {en : α → PyData} (Pv : Base → Nat → L2.St → Hp → Prop) (a : At K B Γ Θ σ H) (S : SrcS K wi σ H (l.map en)) (h0 : ∀ (G : Hp → Prop) st H', At K (B.and G st) Γ Θ σ H' → Pv (B.and G st) 0 σ H') (hat : ∀ B' i σ' H', Pv B' i σ' H' → ∃ Γ' Θ', At K B' Γ' Θ' σ' H')
    (hup : ∀ B' i σ' H' H'', Pv B' i σ' H' → Same H' H'' → Pv B' i σ' H'') (hless : ∀ (G : Hp → Prop) st i σ' H', Pv (B.and G st) i σ' H' → Pv B i σ' H')
    (hs : ∀ (G : Hp → Prop) st (i : Nat) (x : α) (v : V) σ' H' D', l[i]? = some x → Pv (B.and G st) i σ' H' → Dt K H' v (en x) → (∀ σ2 H2, Pv (B.and G st) (i + 1) σ2 H2 → D'.nx σ2 H2) → D'.rt = D.rt → g v σ' H' fun σ2 H2 => tbody D' σ2 H2)
    (hd : ∀ σ' H', Pv B l.length σ' H' → tz D σ' H') : tSeq (tFor wi g tbody) tz D σ H := s_forG (D := { D with nx := tz D }) Pv a S h0 hat hup hless (fun G st i x v σ' H' D' a b c d e => hs G st i x v σ' H' D' a b c d e) hd
/-- p.extend(e), e a new list -/
theorem s_extend (a : At K B Γ Θ σ H) (hi : Γ[i]? = some (.v (.ref p))) (hk : Θ[k]? = some (p, .lst ds)) (he : EvL K te σ H es) (hl : ds.length + es.length ≤ 100000) (q : ∀ H', At K B Γ (Θ.set k (p, .lst (ds ++ es))) σ H' → D.nx σ H') :
    tDrop (tBM K "list" rExtend (tVar i) (tCons te tNil)) D σ H := by
  refine ⟨.ref p, a.env.val hi, .inl ⟨rfl, ?_⟩, ?_⟩
  · obtain ⟨xs, hx, _⟩ := a.hasL hk
    exact ⟨xs, SqL.of hx⟩
  · refine he H (Same.refl _) _ fun b ys H1 hb e hy hdy => ?_
    have a1 := a.up e
    obtain ⟨hn, xs, hx, hd⟩ := a1.own.at_ hk
    refine ⟨p, b, xs, ys, rfl, rfl, hx, hy, by rw [hd.length, hdy.length]; exact sz_of hl, q _ (a1.put hk (u := .lst (xs ++ ys)) (o' := .lst (ds ++ es)) ⟨hn, xs ++ ys, upd_same, ?_⟩)⟩
    exact DtAll.im (im_lst hx) _ _ (hd.append hdy)
/-- p.extend(q) of two own lists -/
theorem q_extendV {k2 : Nat} (a : At K B Γ Θ σ H) (hi : Γ[i]? = some (.v (.ref p))) (hj : Γ[j]? = some (.v (.ref p2))) (hk : Θ[k]? = some (p, .lst ds)) (hk2 : Θ[k2]? = some (p2, .lst es)) (hl : ds.length + es.length ≤ 100000) (q : ∀ H', At K B Γ (Θ.set k (p, .lst (ds ++ es))) σ H' → tz D σ H') :
    tSeq (tDrop (tBM K "list" rExtend (tVar i) (tCons (tVar j) tNil))) tz D σ H := by
  obtain ⟨hn, xs, hx, hd⟩ := a.own.at_ hk
  obtain ⟨ys, hy, hdy⟩ := a.hasL hk2
  refine ⟨.ref p, a.env.val hi, .inl ⟨rfl, xs, SqL.of hx⟩, .ref p2, a.env.val hj, p, p2, xs, ys, rfl, rfl, hx, hy, by rw [hd.length, hdy.length]; exact sz_of hl, q _ (a.put hk (u := .lst (xs ++ ys)) (o' := .lst (ds ++ es)) ⟨hn, xs ++ ys, upd_same, ?_⟩)⟩
  exact DtAll.im (im_lst hx) _ _ (hd.append hdy)
/-- x = y, y a name that holds an address -/
theorem s_asgV {v : V} (a : At K B Γ Θ σ H) (h : EvV te σ H v) (q : ∀ σ' H', At K B (Γ.set i (.v v)) Θ σ' H' → D.nx σ' H') : tAsg te (gName i) D σ H := h H (Same.refl _) _ fun H1 e => q _ H1 (a.up e).setV
theorem q_asgV {v : V} (a : At K B Γ Θ σ H) (h : EvV te σ H v) (q : ∀ σ' H', At K B (Γ.set i (.v v)) Θ σ' H' → tz D σ' H') : tSeq (tAsg te (gName i)) tz D σ H := s_asgV (D := { D with nx := tz D }) a h q
end
/-! ### readings -/
abbrev Rd' := List (List Str)
def wideL (L : List Str) (last : List (List Str)) : List (List Str) := last.flatMap fun own => L.map fun l => own ++ [l]
def rdN (L : List Str) : Nat → List (List Str) × List (List Str)
  | 0 => ([[]], [[]])
  | n + 1 => ((rdN L n).1 ++ wideL L (rdN L n).2, wideL L (rdN L n).2)
theorem wide_len {L : List Str} (last : List (List Str)) : (wideL L last).length = last.length * L.length := by
  induction last with
  | nil => simp [wideL]
  | cons a l ih =>
    unfold wideL at ih ⊢
    rw [List.flatMap_cons, List.length_append, List.length_map, ih, List.length_cons]
    rw [Nat.succ_mul]
    omega
theorem rdN_len {L : List Str} (h : L.length ≤ 3) : ∀ n, (rdN L n).1.length ≤ 4 ^ n ∧ (rdN L n).2.length ≤ 3 ^ n
  | 0 => ⟨Nat.le_refl _, Nat.le_refl _⟩
  | n + 1 => by
    obtain ⟨h1, h2⟩ := rdN_len h n
    have hw := wide_len (L := L) (rdN L n).2
    have hw2 : (wideL L (rdN L n).2).length ≤ 3 ^ n * 3 := by
      rw [hw]
      exact Nat.mul_le_mul h2 h
    have h34 : 3 ^ n ≤ 4 ^ n := Nat.pow_le_pow_left (by decide) n
    show ((rdN L n).1 ++ wideL L (rdN L n).2).length ≤ _ ∧ (wideL L (rdN L n).2).length ≤ _
    rw [List.length_append, Nat.pow_succ, Nat.pow_succ]
    omega
theorem wide_mem {L : List Str} {last : List (List Str)} {m : Nat} (h : ∀ r ∈ last, r.length ≤ m ∧ ∀ x ∈ r, x ∈ L) : ∀ r ∈ wideL L last, r.length ≤ m + 1 ∧ ∀ x ∈ r, x ∈ L := fun r hr => by
  obtain ⟨own, ho, hr⟩ := List.mem_flatMap.mp hr
  obtain ⟨l, hl, rfl⟩ := List.mem_map.mp hr
  obtain ⟨h1, h2⟩ := h own ho
  refine ⟨by rw [List.length_append]; exact Nat.succ_le_succ h1, fun x hx => ?_⟩
  rcases List.mem_append.mp hx with hx | hx
  · exact h2 x hx
  · obtain rfl := List.mem_singleton.mp hx
    exact hl
theorem rdN_mem {L : List Str} : ∀ n, (∀ r ∈ (rdN L n).1, r.length ≤ n ∧ ∀ x ∈ r, x ∈ L) ∧ ∀ r ∈ (rdN L n).2, r.length ≤ n ∧ ∀ x ∈ r, x ∈ L
  | 0 => ⟨fun r hr => by obtain rfl := List.mem_singleton.mp hr; exact ⟨Nat.le_refl _, fun x hx => nomatch hx⟩, fun r hr => by obtain rfl := List.mem_singleton.mp hr; exact ⟨Nat.le_refl _, fun x hx => nomatch hx⟩⟩
  | n + 1 => by
    obtain ⟨h1, h2⟩ := rdN_mem (L := L) n
    have hw := wide_mem h2
    refine ⟨fun r hr => ?_, hw⟩
    rcases List.mem_append.mp hr with hr | hr
    · exact ⟨Nat.le_succ_of_le (h1 r hr).1, (h1 r hr).2⟩
    · exact hw r hr
section
variable {P : Program} {w : World} {K : PySem.W.Frag} {mg : Str → Option Value} {base : Heap}
abbrev s__law_readings : Stmt := top 74
theorem sc__law_readings : FnScope ["_law_letters", "_law_most", "_law_found", "_law_last", "_law_turn", "_law_wider", "_law_own", "_law_letter"] ["_law_letters", "_law_most"] (defScope s__law_readings) := ⟨rfl, rfl, rfl, by decide +kernel, rfl, by decide +kernel, by decide +kernel⟩
def SpReadings (K : PySem.W.Frag) : Sp := fun vs H Q _ => ∃ v L n, vs = [v, .int ((n : Nat) : Int)] ∧ Dt K H v (eL L) ∧ L.length ≤ 3 ∧ n ≤ 3 ∧ ∀ p H', Same H H' → H p = none → HasL K H' p ((rdN L n).1.map eL) → Q (.ref p) H'
theorem df_readings (T : Top mg) (F : Fn K mg "_law_readings" "_law_readings" s__law_readings) : Df P w K mg base 1 "_law_readings" (SpReadings K) := by
  refine df_any F sc__law_readings (fun _ _ _ _ _ _ us hl => match us, hl with | [_, _], _ => rfl) (fun vs H Q E ⟨_, _, _, h, _⟩ => by rw [h]; rfl) (fun f cdv A outer s H vs Q E hr h => ?_)
  refine ⟨_, (pss_cons (ps_par (i := 2) (j := 3) rfl sc__law_readings.nd rfl rfl (by decide) rfl rfl (pa_cons (pe_lst (pa_cons (pe_tup pa_nil) pa_nil)) (pa_cons (pe_lst (pa_cons (pe_tup pa_nil) pa_nil)) pa_nil)) (by rfl))
      (pss_cons (ps_for PassesOwn.never rfl (pi_range1 (by rfl) T.range_ (pa_cons (pv 1) pa_nil)) (pg_name (i := 4) sc__law_readings.nd rfl (by first | exact Or.inl rfl | exact Or.inr rfl)) (pss_cons (ps_set (i := 5) sc__law_readings.nd rfl (by first | exact Or.inl rfl | exact Or.inr rfl) (pe_lst pa_nil))
      (pss_cons (ps_for PassesOwn.never rfl (pi_list' K (by rfl) (pv 3)) (pg_name (i := 6) sc__law_readings.nd rfl (by first | exact Or.inl rfl | exact Or.inr rfl)) (pss_one (ps_expr (pe_bm PySem.F.plainAttrs_list PySem.F.slot_list_extend PySem.F.type_list_extend mt_extend (pv 5) (pa_cons (pe_lc (own := [("_law_letter", 7)]) rfl sc__law_readings.nd (pi_tup' K (by rfl) (pv 0)) (blkOk_by (N := ["_law_letters", "_law_most", "_law_found", "_law_last", "_law_turn", "_law_wider", "_law_own", "_law_letter"]) (sc := defScope s__law_readings) (by decide +kernel)) (fun _ _ _ _ _ => by exact (pg_name (i := 7) sc__law_readings.nd rfl (by first | exact Or.inl rfl | exact Or.inr rfl))) (fun _ _ _ _ _ => pts_nil) (fun _ _ _ _ _ => by exact (pe_op (op_catA' K (by rfl)) (pv 6) (pe_tup (pa_cons (pv 7) pa_nil))))) pa_nil)))))
      (pss_cons (ps_expr (pe_bm PySem.F.plainAttrs_list PySem.F.slot_list_extend PySem.F.type_list_extend mt_extend (pv 2) (pa_cons (pv 5) pa_nil)))
      (pss_one (ps_set (i := 3) sc__law_readings.nd rfl (by first | exact Or.inl rfl | exact Or.inr rfl) (pv 5)))))))
      (pss_one (ps_ret (pv 2))))), ?_⟩
  obtain ⟨v, L, n, rfl, hv, hL, hn, k⟩ := h
  have a : At K (.of H) [.d (eL L), .d (.int ((n : Nat) : Int)), .o, .o, .o, .o, .o, .o] [] (L2.start ["_law_letters", "_law_most", "_law_found", "_law_last", "_law_turn", "_law_wider", "_law_own", "_law_letter"] [v, .int ((n : Nat) : Int)]) H := ⟨Same.refl _, ⟨hv, .int _, True.intro, True.intro, True.intro, True.intro, True.intro, True.intro, True.intro⟩, Own.nil, True.intro⟩
  refine' q_parLL (ds := [eL []]) (es := [eL []]) a (evl_lst (eva_cons (evd_tup eva_nil) eva_nil)) (evl_lst (eva_cons (evd_tup eva_nil) eva_nil)) fun pf pl σ1 H1 a1 => ?_
  refine' q_forG (l := List.range n) (en := fun (i : Nat) => .int (i : Int)) (fun B' i σ' H' => ∃ pl, At K B' [.d (eL L), .d (.int ((n : Nat) : Int)), .v (.ref pf), .v (.ref pl), .o, .o, .o, .o] [(pl, .lst ((rdN L i).2.map eL)), (pf, .lst ((rdN L i).1.map eL))] σ' H') a1 (srcS_rng (eva_cons (evd_var a1 (i := 1) rfl) eva_nil) (by omega)) (fun G st H' h => ⟨pl, h⟩) (fun B' i σ' H' ⟨_, h⟩ => ⟨_, _, h⟩) (fun B' i σ' H' H'' ⟨pl, h⟩ e => ⟨pl, h.up e⟩) (fun G st i σ' H' ⟨pl, h⟩ => ⟨pl, h.less⟩) (fun G st i x v σ2 H2 D' hi ⟨pl2, a2⟩ hv2 hnx hrt => ?hbody) fun σ2 H2 ⟨pl2, a2⟩ => ?hend
  case hend =>
    rw [List.length_range] at a2
    refine u_ret ⟨.ref pf, a2.env.val (i := 2) rfl, k pf H2 a2.sm ((a2.own.at_ (k := 1) rfl).none) (a2.hasL (k := 1) rfl)⟩
  case hbody =>
    have hi3 : i < 3 := by
      have := (List.getElem?_eq_some_iff.mp hi).1
      rw [List.length_range] at this
      omega
    obtain ⟨hb1, hb2⟩ := rdN_len hL i
    have h4 : 4 ^ i ≤ 16 := by
      have : 4 ^ i ≤ 4 ^ 2 := Nat.pow_le_pow_right (by decide) (by omega)
      exact this
    have h3 : 3 ^ i ≤ 9 := by
      have : 3 ^ i ≤ 3 ^ 2 := Nat.pow_le_pow_right (by decide) (by omega)
      exact this
    refine g_name a2 hv2 fun σ3 a3 => ?_
    refine' q_asgL (ds := []) a3 (evl_lst eva_nil) fun pw σ4 H4 a4 => ?_
    refine' q_forL (p := pl2) (l := (rdN L i).2) (en := eL) (Γf := fun _ => [.d (eL L), .d (.int ((n : Nat) : Int)), .v (.ref pf), .v (.ref pl2), .o, .v (.ref pw), .o, .o]) (Θf := fun m => [(pw, .lst ((wideL L ((rdN L i).2.take m)).map eL)), (pl2, .lst ((rdN L i).2.map eL)), (pf, .lst ((rdN L i).1.map eL))]) a4 (evv_var a4 (i := 3) rfl) (fun m => ⟨1, rfl⟩) ?hw rfl (fun m own v5 σ5 H5 hm a5 hv5 => g_name a5 hv5 fun σ6 a6 => ?hin) fun σ5 H5 a5 => ?hout
    case hw => walk_at "wk"
    case hin =>
      have hmo := List.mem_of_getElem? hm
      have hol := ((rdN_mem (L := L) i).2 own hmo).1
      have hml : m < (rdN L i).2.length := (List.getElem?_eq_some_iff.mp hm).1
      have hwl := wide_len (L := L) ((rdN L i).2.take m)
      have hwl2 : (wideL L ((rdN L i).2.take m)).length ≤ 9 * 3 := by
        rw [hwl]
        refine Nat.mul_le_mul ?_ hL
        rw [List.length_take]
        omega
      refine' s_extend (k := 0) (p := pw) (i := 5) (ds := (wideL L ((rdN L i).2.take m)).map eL) (es := (L.map fun l => own ++ [l]).map eL) a6 rfl rfl (EvL.is (evl_lcn (l := L) (en := .str) (fun l => eL (own ++ [l])) a6 (src_tup (evd_var a6 (i := 0) rfl)) ?hz ?hj fun l σ' H' hl a7 => ?hb) ?he) ?hlen fun H8 a8 => ?hnext
      case hz => omega
      case hj => decide
      case he => rw [List.map_map]; rfl
      case hlen =>
        rw [List.length_map, List.length_map, List.length_map]
        omega
      case hb =>
        refine EvD.is (evd_op (evd_var a7 (i := 6) rfl) (evd_tup (eva_cons (evd_var a7 (i := 7) rfl) eva_nil)) (ov_catA ?hc)) ?hd
        case hc =>
          rw [List.length_map]
          show own.length + 1 ≤ 100000
          omega
        case hd =>
          show PyData.tuple (own.map .str ++ [.str l]) = .tuple ((own ++ [l]).map .str)
          rw [List.map_append]
          rfl
      case hnext =>
        have e1 : (wideL L ((rdN L i).2.take (m + 1))).map eL = (wideL L ((rdN L i).2.take m)).map eL ++ (L.map fun l => own ++ [l]).map eL := by
          rw [take_snoc hm, ← List.map_append]
          unfold wideL
          rw [List.flatMap_append]
          simp
        show At K _ _ [(pw, .lst ((wideL L ((rdN L i).2.take (m + 1))).map eL)), _, _] σ6 H8
        rw [e1]
        exact a8.weak (by walk_at "wk")
    case hout =>
      rw [List.take_length] at a5
      have hwl := wide_len (L := L) (rdN L i).2
      have hwl2 : (wideL L (rdN L i).2).length ≤ 9 * 3 := by
        rw [hwl]
        exact Nat.mul_le_mul (by omega) hL
      refine' q_extendV (k := 2) (k2 := 0) (i := 2) (j := 5) (p := pf) (p2 := pw) (ds := (rdN L i).1.map eL) (es := (wideL L (rdN L i).2).map eL) a5 rfl rfl rfl rfl ?hlen fun H6 a6 => ?_
      case hlen =>
        rw [List.length_map, List.length_map]
        omega
      refine' s_asgV a6 (evv_var a6 (i := 5) rfl) fun σ7 H7 a7 => hnx σ7 H7 ⟨pw, ?_⟩
      have a8 : At K _ _ [(pw, .lst ((rdN L (i + 1)).2.map eL)), (pf, .lst ((rdN L i).1.map eL ++ (wideL L (rdN L i).2).map eL))] σ7 H7 := a7.sub (List.Sublist.cons₂ _ (List.Sublist.cons _ (List.Sublist.refl _)))
      rw [← List.map_append] at a8
      exact a8.weak (by walk_at "wk")
end
end K15

/-! part M6 -/
set_option Elab.async false
set_option linter.all false
set_option maxRecDepth 100000
set_option maxHeartbeats 1000000
namespace K15
open PySem
theorem bfs_mem {M : Mc} : ∀ (n i : Nat) (P : Ps), (∀ c ∈ P, ∀ x ∈ c.2, x ∈ M.L) → ∀ c ∈ bfs M n i P, ∀ x ∈ c.2, x ∈ M.L
  | 0, _, _, h => h
  | n + 1, i, P, h => by
    show ∀ c ∈ (match P[i]? with | none => P | some c => bfs M n (i + 1) (expandP M P c.1 c.2)), _
    cases e : P[i]? with
    | none => exact h
    | some c =>
      refine bfs_mem n (i + 1) _ fun d hd x hx => ?_
      obtain ⟨Q, eq, hQ⟩ := fold_new c.2 (M.L.zip (M.R.getD c.1 [])) P
      have hd' : d ∈ P ++ Q := by
        rw [← eq]
        exact hd
      rcases List.mem_append.mp hd' with hd' | hd'
      · exact h d hd' x hx
      · obtain ⟨k, hk, rfl⟩ := hQ d hd'
        rcases List.mem_append.mp hx with hx | hx
        · exact h c (List.mem_of_getElem? e) x hx
        · obtain rfl := List.mem_singleton.mp hx
          exact (List.of_mem_zip hk).1
theorem lp_mem {M : Mc} {c : Nat × List Str} (h : c ∈ lp M) : ∀ x ∈ c.2, x ∈ M.L := bfs_mem _ _ _ (fun c hc x hx => by
  obtain rfl := List.mem_singleton.mp hc
  exact nomatch hx) c h
theorem Wf.lp_len {M : Mc} (hw : Wf M) {c : Nat × List Str} (h : c ∈ lp M) : c.2.length ≤ 9 := by
  obtain ⟨i, b, hi⟩ := hw.lp_inv
  have h1 := b.ln c h
  have h2 := b.le
  have h3 := b.pi.len
  have h4 := hw.r1
  omega
theorem Wf.runW_wd {M : Mc} (hw : Wf M) : ∀ (l : List Str) (s : Nat), s < M.R.length → (∀ x ∈ l, x ∈ M.L) → ∀ y ∈ runW M l s, isWd y = true
  | [], _, _, _, y, hy => nomatch hy
  | x :: l, s, hs, hx, y, hy => by
    have hx0 := hx x (List.mem_cons_self ..)
    rcases List.mem_cons.mp (show y ∈ (rs M s x).2 :: runW M l (rs M s x).1 from hy) with e | hy
    · rw [e]
      exact hw.wd _ (hw.row hs) _ (hw.rs_mem hs hx0)
    · exact hw.runW_wd l (rs M s x).1 (hw.rs_lt hs hx0) (fun z hz => hx z (List.mem_cons_of_mem _ hz)) y hy
/-- what a law's exchange of letters wants -/
structure NOk (ns : Nms) (M : Mc) : Prop where
  has : ∀ x ∈ M.L, x ∈ ns.map (·.1)
  nd : (newsOf ns M).Nodup
  nm : ∀ x ∈ newsOf ns M, isNm x = true
theorem news_len {ns : Nms} {M : Mc} : (newsOf ns M).length = M.L.length := List.length_map _
theorem NOk.wf {ns : Nms} {M : Mc} (h : NOk ns M) (hw : Wf M) : Wf (permM (newsOf ns M) M) := hw.perm news_len h.nd h.nm
theorem NOk.mem {ns : Nms} {M : Mc} {l : List Str} (hl : ∀ x ∈ l, x ∈ M.L) : ∀ y ∈ l.map (nmOf ns), y ∈ (permM (newsOf ns M) M).L := fun y hy => by
  obtain ⟨x, hx, rfl⟩ := List.mem_map.mp hy
  exact (perm_letters _).mem_iff.mpr (List.mem_map.mpr ⟨x, hl x hx, rfl⟩)
theorem NOk.run {ns : Nms} {M : Mc} (h : NOk ns M) (hw : Wf M) {l : List Str} {s : Nat} (hs : s < M.R.length) (hl : ∀ x ∈ l, x ∈ M.L) : runS (permM (newsOf ns M) M) (l.map (nmOf ns)) s = runS M l s ∧ runW (permM (newsOf ns M) M) (l.map (nmOf ns)) s = runW M l s := hw.perm_run (f := nmOf ns) rfl h.nd l s hs hl
theorem NOk.box {ns : Nms} {M : Mc} (h : NOk ns M) (hw : Wf M) {l : List Str} (hl : ∀ x ∈ l, x ∈ M.L) : runW (walkedM (permM (newsOf ns M) M)) (l.map (nmOf ns)) 0 = runW (walkedM M) l 0 := by
  rw [(h.wf hw).walk_run (NOk.mem hl), hw.walk_run hl, (h.run hw hw.r0 hl).2]
theorem NOk.orders {ns : Nms} {M : Mc} (h : NOk ns M) (hw : Wf M) : (order (permM (newsOf ns M) M)).Perm (order M) := hw.perm_order news_len (h.wf hw)
/-- the least pasts to a state, as told -/
def pastD (M : Mc) (k : Nat) : PyData := (getK (encP (lp M)) (.inl (k : Int))).getD .none
theorem Wf.pastD {M : Mc} (hw : Wf M) (k : Nat) : (∃ u, (k, u) ∈ lp M ∧ pastD M k = eL u) ∨ (k ∉ order M ∧ pastD M k = .none) := by
  by_cases hk : k ∈ order M
  · obtain ⟨c, hc, rfl⟩ := List.mem_map.mp hk
    refine .inl ⟨c.2, hc, ?_⟩
    unfold K15.pastD
    rw [encP_at hw.order_nd hc]
    rfl
  · refine .inr ⟨hk, ?_⟩
    unfold K15.pastD
    rw [encP_none hk]
    rfl
theorem NOk.pasts {ns : Nms} {M : Mc} (h : NOk ns M) (hw : Wf M) (k : Nat) (b : Bool) (hb : b = true → (newsOf ns M).Pairwise leT) :
    (∃ u v, (k, u) ∈ lp M ∧ (k, v) ∈ lp (permM (newsOf ns M) M) ∧ K15.pastD M k = eL u ∧ K15.pastD (permM (newsOf ns M) M) k = eL v ∧ u.length = v.length ∧ (b = true → v = u.map (nmOf ns))) ∨ (K15.pastD M k = .none ∧ K15.pastD (permM (newsOf ns M) M) k = .none) := by
  have hw2 := h.wf hw
  rcases hw.pastD k with ⟨u, hu, e1⟩ | ⟨n1, e1⟩ <;> rcases hw2.pastD k with ⟨v, hv, e2⟩ | ⟨n2, e2⟩
  · refine .inl ⟨u, v, hu, hv, e1, e2, hw.perm_past news_len hw2 hu hv, fun e => ?_⟩
    have h3 : lp (permM (newsOf ns M) M) = (lp M).map fun c => (c.1, c.2.map (nmOf ns)) := hw.keep_lp (f := nmOf ns) rfl (hb e) hw2
    have h4 : (k, u.map (nmOf ns)) ∈ lp (permM (newsOf ns M) M) := by
      rw [h3]
      exact List.mem_map.mpr ⟨(k, u), hu, rfl⟩
    exact lp_uniq hw2.order_nd hv h4
  · exact absurd ((h.orders hw).mem_iff.mpr (List.mem_map.mpr ⟨_, hu, rfl⟩)) n2
  · exact absurd ((h.orders hw).mem_iff.mp (List.mem_map.mpr ⟨_, hv, rfl⟩)) n1
  · exact .inr ⟨e1, e2⟩
theorem NOk.keep {ns : Nms} {M : Mc} (h : NOk ns M) (hw : Wf M) (hb : (newsOf ns M).Pairwise leT) : walkedM (permM (newsOf ns M) M) = permM (newsOf ns (walkedM M)) (walkedM M) := hw.keep_walk (f := nmOf ns) rfl hb (h.wf hw)
theorem NOk.walked_len {ns : Nms} {M : Mc} (h : NOk ns M) (hw : Wf M) : (walkedM (permM (newsOf ns M) M)).R.length = (walkedM M).R.length := by
  show ((order (permM (newsOf ns M) M)).map _).length = ((order M).map _).length
  rw [List.length_map, List.length_map]
  exact (h.orders hw).length_eq
theorem NOk.reached {ns : Nms} {M : Mc} (h : NOk ns M) (hw : Wf M) : sortI ((order (permM (newsOf ns M) M)).map fun (n : Nat) => (n : Int)) = sortI ((order M).map fun (n : Nat) => (n : Int)) := sortI_of_perm ((h.orders hw).map _)
end K15

/-! part M7 -/
set_option Elab.async false
set_option linter.all false
set_option maxRecDepth 100000
set_option maxHeartbeats 1000000
namespace K15
open PySem L2
/-! ### the law's other words -/
def tbW : Nms := [("x", "yes"), ("yes", "no"), ("no", "k"), ("a", "x"), ("letters", "q")]
def bkW : Nms := tbW.map fun p => (p.2, p.1)
theorem nmOf_in (ns : Nms) (x : Str) : nmOf ns x = x ∨ nmOf ns x ∈ ns.map (·.2) := by
  unfold nmOf
  cases e : ns.find? fun p => decide (p.1 = x) with
  | none => exact .inl rfl
  | some p => exact .inr (List.mem_map.mpr ⟨p, List.mem_of_find?_eq_some e, rfl⟩)
theorem tb_ok : ∀ y ∈ tbW.map (·.2), y.length ≤ 10 ∧ isWd y = true := by decide +kernel
theorem Wf.tb {M : Mc} (hw : Wf M) : Wf (K15.mapW (nmOf tbW) M) := hw.mapW fun x h1 h2 => (nmOf_in tbW x).elim (fun e => by rw [e]; exact ⟨h1, h2⟩) fun h => tb_ok _ h
theorem nil_wd : ("" : Str).length ≤ 10 ∧ isWd "" = true := by decide +kernel
theorem Wf.hushed {M : Mc} (hw : Wf M) (ws : List Str) : Wf (K15.mapW (hush ws) M) := hw.mapW fun x h1 h2 => by
  unfold hush
  split
  · exact nil_wd
  · exact ⟨h1, h2⟩
theorem mapW_comp (f g : Str → Str) (M : Mc) : mapW f (mapW g M) = mapW (f ∘ g) M := by
  show (⟨M.L, (M.R.map _).map _⟩ : Mc) = ⟨M.L, _⟩
  rw [List.map_map]
  congr 1
  refine List.map_congr_left fun r _ => ?_
  show (r.map _).map _ = _
  rw [List.map_map]
  rfl
theorem mapW_congr {f g : Str → Str} {M : Mc} (h : ∀ r ∈ M.R, ∀ p ∈ r, f p.2 = g p.2) : mapW f M = mapW g M := by
  show (⟨M.L, _⟩ : Mc) = ⟨M.L, _⟩
  congr 1
  refine List.map_congr_left fun r hr => List.map_congr_left fun p hp => ?_
  rw [h r hr p hp]
theorem mapW_same {f : Str → Str} {M : Mc} (h : ∀ r ∈ M.R, ∀ p ∈ r, f p.2 = p.2) : mapW f M = M := by
  have h1 : mapW f M = mapW id M := mapW_congr h
  rw [h1]
  show (⟨M.L, M.R.map _⟩ : Mc) = M
  have : (fun r : Rw => r.map fun p => (p.1, id p.2)) = id := funext fun r => List.map_id r
  rw [this, List.map_id]
theorem bk_tb : ∀ x ∈ WS, nmOf bkW (nmOf tbW x) = x := by decide +kernel
theorem hush_tb : ∀ x ∈ WS, hush ["yes", "k"] (nmOf tbW x) = nmOf tbW (hush ["x", "no"] x) := by decide +kernel
theorem MOk.back {M : Mc} (h : MOk M) : mapW (nmOf bkW) (mapW (nmOf tbW) M) = M := by
  rw [mapW_comp]
  exact mapW_same fun r hr p hp => bk_tb _ (h.ws r hr p hp)
theorem MOk.quiet {M : Mc} (h : MOk M) : walkedM (mapW (hush ["yes", "k"]) (walkedM (mapW (nmOf tbW) M))) = walkedM (mapW (nmOf tbW) (mapW (hush ["x", "no"]) M)) := by
  have h1 := h.wf.tb
  rw [h1.walked.walk_words (h1.walked.hushed _), h1.walk_walk, ← h1.walk_words (h1.hushed _)]
  congr 1
  rw [mapW_comp, mapW_comp]
  exact mapW_congr fun r hr p hp => hush_tb _ (h.ws r hr p hp)
/-! ### a machine's text up to its first colon -/
theorem joinL_cons (S p : List Nat) (q : List (List Nat)) : ∃ r, TL.joinL S (p :: q) = p ++ r := by
  cases q with
  | nil => exact ⟨[], (List.append_nil _).symm⟩
  | cons a q => exact ⟨_, rfl⟩
theorem tl_joinS (c : Nat) (ys : List Str) : tl (Txt.join (SX.S [c]) ys) = TL.joinL [c] (ys.map tl) := TL.tl_join (SX.S [c]) ys ▸ congrArg tl (TL.join_eq (SX.S [c]) ys)
def firstU (l : List Str) (n : Nat) : List Nat := tl (headW l) ++ ([10] ++ (tl ("state" : Str) ++ ([32] ++ tl (numW n))))
theorem text_tl {M : Mc} {p : Nat × Str} {r : Rw} {R : List Rw} (e : M.R = (p :: r) :: R) : ∃ q, tl (textW M) = firstU M.L p.1 ++ ([58] ++ q) := by
  unfold textW
  rw [e, tl_joinS]
  obtain ⟨r1, e1⟩ := joinL_cons [10] (tl (lineW (p :: r))) ((R.map lineW).map tl)
  have e2 : TL.joinL [10] ((headW M.L :: List.map lineW ((p :: r) :: R)).map tl) = tl (headW M.L) ++ ([10] ++ TL.joinL [10] (tl (lineW (p :: r)) :: (R.map lineW).map tl)) := rfl
  obtain ⟨r2, e3⟩ := joinL_cons [32] (tl (pairW p)) ((r.map pairW).map tl)
  have e4 : tl (lineW (p :: r)) = tl ("state" : Str) ++ ([32] ++ TL.joinL [32] (tl (pairW p) :: (r.map pairW).map tl)) := by
    unfold lineW
    rw [tl_joinS]
    rfl
  have e5 : tl (pairW p) = tl (numW p.1) ++ ([58] ++ tl (dashW p.2)) := by
    unfold pairW
    rw [tl_joinS]
    rfl
  refine ⟨tl (dashW p.2) ++ r2 ++ r1, ?_⟩
  rw [e2, e1, e4, e3, e5]
  unfold firstU
  simp only [List.append_assoc]
theorem firstU_no {l : List Str} {n : Nat} (hn : n < 10) (h : ∀ x ∈ l, isNm x = true) : 58 ∉ firstU l n := by
  intro hc
  unfold firstU at hc
  rcases List.mem_append.mp hc with hc | hc
  · unfold headW at hc
    rcases mem_join hc with hc | ⟨y, hy, hc⟩
    · omega
    · rcases List.mem_cons.mp hy with rfl | hy
      · rw [lettersw_tl] at hc
        revert hc
        decide
      · obtain rfl := List.mem_singleton.mp hy
        rcases mem_join hc with hc | ⟨z, hz, hc⟩
        · omega
        · have := isNm_chars (h z hz) 58 hc
          omega
  · rw [state_tl, numW_tl hn] at hc
    have hc' : 58 ∈ [10, 115, 116, 97, 116, 101, 32, 48 + n] := hc
    simp at hc'
    omega
theorem text_first {M : Mc} (hw : Wf M) {p : Nat × Str} {r : Rw} {R : List Rw} (e : M.R = (p :: r) :: R) : ∃ ds : List Str, Txt.split (textW M) (SX.S [58]) = SX.S (firstU M.L p.1) :: ds := by
  obtain ⟨q, hq⟩ := text_tl e
  have hp : p.1 < 10 := by
    have := hw.rn (p :: r) (by rw [e]; exact List.mem_cons_self ..) p (List.mem_cons_self ..)
    have := hw.r1
    omega
  have e1 : textW M = SX.S (firstU M.L p.1 ++ ([58] ++ q)) := by
    rw [← hq]
  rw [e1, SX.split_S (by simp) (by simp)]
  have := TL.spl_part1 (s := 58) (S := []) (acc := []) (rest := q) (firstU_no hp fun x hx => List.all_eq_true.mp hw.nm x hx)
  have e2 : TL.spl [58] 0 [] (firstU M.L p.1 ++ ([58] ++ q)) = ([] ++ firstU M.L p.1) :: TL.spl [58] 0 [] q := this
  rw [e2]
  exact ⟨_, rfl⟩
theorem Wf.cons {M : Mc} (hw : Wf M) : ∃ p r R, M.R = (p :: r) :: R := by
  cases e : M.R with
  | nil => exact absurd hw.r0 (by rw [e]; decide)
  | cons r R =>
    cases e2 : r with
    | nil =>
      have h1 := hw.rl r (by rw [e]; exact List.mem_cons_self ..)
      have h2 := hw.l0
      rw [e2] at h1
      simp at h1
      omega
    | cons p r => exact ⟨p, r, R, rfl⟩
theorem Wf.firsts {M : Mc} (hw : Wf M) {T : Str → Str} (hw2 : Wf (K15.mapW T M)) : ∃ u d1 d2, Txt.split (textW M) (SX.S [58]) = u :: d1 ∧ Txt.split (textW (K15.mapW T M)) (SX.S [58]) = u :: d2 := by
  obtain ⟨p, r, R, e⟩ := hw.cons
  obtain ⟨d1, h1⟩ := text_first hw e
  have e' : (K15.mapW T M).R = ((p.1, T p.2) :: r.map fun p => (p.1, T p.2)) :: R.map fun r => r.map fun p => (p.1, T p.2) := by
    show M.R.map _ = _
    rw [e]
    rfl
  obtain ⟨d2, h2⟩ := text_first hw2 e'
  exact ⟨_, d1, d2, h1, h2⟩
end K15

/-! part M8 -/
set_option Elab.async false
set_option linter.all false
set_option maxRecDepth 100000
set_option maxHeartbeats 1000000
namespace K15
open PySem L2
def poolW : List Str := ["k", "q", "ka", "m", "c", "fold"]
theorem pool_ok : poolW.Nodup ∧ ∀ x ∈ poolW, isNm x = true := by decide +kernel
theorem nmOf_mem {ns : Nms} (nd : (ns.map (·.1)).Nodup) {p : Str × Str} (hp : p ∈ ns) : nmOf ns p.1 = p.2 := by
  have h1 := getK_eN ns p.1
  rw [getK_mem nd p hp] at h1
  exact (PyData.str.inj h1).symm
theorem news_keys {ns : Nms} {M : Mc} (hk : ns.map (·.1) = M.L) (nd : M.L.Nodup) : newsOf ns M = ns.map (·.2) := by
  unfold newsOf
  rw [← hk, List.map_map]
  exact List.map_congr_left fun p hp => nmOf_mem (hk ▸ nd) hp
theorem nok_keys {ns : Nms} {M : Mc} (hk : ns.map (·.1) = M.L) (nd : M.L.Nodup) (hv : (ns.map (·.2)).Nodup) (hn : ∀ x ∈ ns.map (·.2), isNm x = true) : NOk ns M := by
  have e := news_keys hk nd
  exact ⟨fun x hx => hk ▸ hx, e ▸ hv, e ▸ hn⟩
theorem sortS_perm (l : List Str) : (sortS l).Perm l := List.mergeSort_perm _ _
theorem sortS_pw (l : List Str) : (sortS l).Pairwise leT := by
  have := List.pairwise_mergeSort (le := fun a b => decide (leT a b)) (fun a b c h1 h2 => decide_eq_true (List.le_trans (of_decide_eq_true h1) (of_decide_eq_true h2))) (fun a b => by
    rcases List.le_total a.cps.toList b.cps.toList with h | h
    · rw [decide_eq_true (p := leT _ _) h]
      rfl
    · rw [decide_eq_true (p := leT b a) h]
      exact Bool.or_true _) l
  exact this.imp fun h => of_decide_eq_true h
/-- the letters with the rising names -/
def keptN (L vs : List Str) : Nms := L.zip (sortS vs)
theorem kept_keys {L vs : List Str} (h : vs.length = L.length) : (keptN L vs).map (·.1) = L := by
  unfold keptN
  have e := (sortS_perm vs).length_eq
  exact List.map_fst_zip (by omega)
theorem kept_vals {L vs : List Str} (h : vs.length = L.length) : (keptN L vs).map (·.2) = sortS vs := by
  unfold keptN
  have e := (sortS_perm vs).length_eq
  exact List.map_snd_zip (by omega)
theorem kept_range {L vs : List Str} (h : vs.length = L.length) : ((List.range (sortS vs).length).map fun j => PyData.tuple [.str (L.getD j Str.empty), .str ((sortS vs).getD j Str.empty)]) = (keptN L vs).map fun p => PyData.tuple [.str p.1, .str p.2] := by
  have e := (sortS_perm vs).length_eq
  unfold keptN
  apply List.ext_getElem
  · simp
    omega
  · intro i h1 h2
    have hi : i < (sortS vs).length := by simpa using h1
    have hj : i < L.length := by omega
    simp [List.getD_eq_getElem?_getD, List.getElem?_eq_getElem hi, List.getElem?_eq_getElem hj]
theorem eqv_strs : ∀ {l m : List Str}, PyData.eqvAll (l.map .str) (m.map .str) = true → l = m
  | [], [], _ => rfl
  | [], _ :: _, h => by simp [PyData.eqvAll] at h
  | _ :: _, [], h => by simp [PyData.eqvAll] at h
  | a :: l, b :: m, h => by
    rw [List.map_cons, List.map_cons, PyData.eqvAll, Bool.and_eq_true] at h
    have h1 : a = b := by
      have := h.1
      rw [PyData.eqv] at this
      exact eq_of_beq this
    rw [h1, eqv_strs h.2]
theorem eqv_eL {l m : List Str} (h : PyData.eqv (eL l) (eL m) = true) : l = m := by
  have h' : PyData.eqv (.tuple (l.map .str)) (.tuple (m.map .str)) = true := h
  rw [PyData.eqv] at h'
  exact eqv_strs h'
/-! ### two letters exchanged and back -/
theorem sort_two {x y : Str} (h : sortBy [x, y] = [1, 0]) {W : Mc} : permM [x, y] W = ⟨[y, x], W.R.map fun r => [r.getD 1 (0, Str.empty), r.getD 0 (0, Str.empty)]⟩ := by
  unfold permM
  rw [h]
  rfl
theorem back_two {x y u v : Str} (h1 : sortBy [x, y] = [1, 0]) (h2 : sortBy [u, v] = [1, 0]) {W : Mc} (hw : Wf W) (hL : W.L = [v, u]) : permM [u, v] (permM [x, y] W) = W := by
  rw [sort_two h2, sort_two h1]
  obtain ⟨L, R⟩ := W
  simp only at hL
  subst hL
  congr 1
  rw [List.map_map]
  refine (List.map_congr_left fun r hr => ?_).trans (List.map_id _)
  have hl : r.length = 2 := hw.rl r hr
  match r, hl with
  | [p, q], _ => rfl
abbrev letAB : List Str := ["a", "b"]
abbrev letBA : List Str := ["b", "a"]
abbrev letZB : List Str := ["zz", "b"]
abbrev letBZ : List Str := ["b", "zz"]
theorem sort_swap {x y : Str} (h : ¬ leT x y) : sortBy [x, y] = [1, 0] := by
  have p := sortBy_perm [x, y]
  have w := sortBy_pw [x, y]
  generalize sortBy [x, y] = l at p w
  have hl : l.length = 2 := p.length_eq
  match l, hl with
  | [i, j], _ =>
    have nd : [i, j].Nodup := p.nodup_iff.mpr List.nodup_range
    have hi : i < 2 := List.mem_range.mp (p.mem_iff.mp (List.mem_cons_self ..))
    have hj : j < 2 := List.mem_range.mp (p.mem_iff.mp (List.mem_cons_of_mem _ (List.mem_cons_self ..)))
    have ne : i ≠ j := fun e => (List.nodup_cons.mp nd).1 (e ▸ List.mem_cons_self ..)
    have w1 := (List.pairwise_cons.mp w).1 j (List.mem_cons_self ..)
    rcases Nat.lt_or_ge i 1 with h0 | h1
    · obtain rfl : i = 0 := by omega
      obtain rfl : j = 1 := by omega
      exact absurd w1 h
    · obtain rfl : i = 1 := by omega
      obtain rfl : j = 0 := by omega
      rfl
/-- a machine over a, b -/
structure Two (M : Mc) : Prop where
  wf : Wf M
  l : M.L = letAB
theorem Two.walked {M : Mc} (h : Two M) : Two (walkedM M) := ⟨h.wf.walked, h.l⟩
def zzN : Nms := [("a", "zz")]
def zaN : Nms := [("zz", "a")]
def abN : Nms := [("a", "b"), ("b", "a")]
def baN : Nms := [("b", "a"), ("a", "b")]
theorem two_zz {M : Mc} (h : Two M) : newsOf zzN M = letZB := by
  unfold newsOf
  rw [h.l]
  decide +kernel
theorem two_ab {M : Mc} (h : M.L = letAB) : newsOf abN M = letBA := by
  unfold newsOf
  rw [h]
  decide +kernel
theorem two_ba {M : Mc} (h : M.L = letAB) : newsOf baN M = letBA := by
  unfold newsOf
  rw [h]
  decide +kernel
theorem srt1 : sortBy letZB = [1, 0] := sort_swap (by decide +kernel)
theorem srt2 : sortBy letBA = [1, 0] := sort_swap (by decide +kernel)
theorem nm_zz : ∀ x ∈ letZB, isNm x = true := by decide +kernel
theorem nm_ba : ∀ x ∈ letBA, isNm x = true := by decide +kernel
theorem Two.wzz {M : Mc} (h : Two M) : Wf (permM letZB M) := h.wf.perm (by rw [h.l]; rfl) (by decide +kernel) nm_zz
theorem Two.wba {M : Mc} (h : Two M) : Wf (permM letBA M) := h.wf.perm (by rw [h.l]; rfl) (by decide +kernel) nm_ba
theorem Two.lzz {M : Mc} : (permM letZB M).L = letBZ := by rw [sort_two srt1]
theorem Two.lba {M : Mc} : (permM letBA M).L = letAB := by rw [sort_two srt2]
theorem news_za {M : Mc} (h : M.L = letBZ) : newsOf zaN M = letBA := by
  unfold newsOf
  rw [h]
  decide +kernel
theorem wf_ba {M : Mc} (hw : Wf M) (h : M.L.length = 2) : Wf (permM letBA M) := hw.perm (by rw [h]; rfl) (by decide +kernel) nm_ba
/-- exchanged and exchanged back, each time walked -/
theorem back_walk {nw : List Str} {W : Mc} (hw : Wf W) (hx : Wf (permM nw W)) (hl : (permM nw W).L.length = 2) (hb : permM letBA (permM nw W) = W) : walkedM (permM letBA (walkedM (permM nw W))) = walkedM W := by
  rw [hx.perm_walk (nw := letBA) hl.symm (wf_ba hx hl) (wf_ba hx.walked hl), hb]
theorem Two.zz {M : Mc} (h : Two M) : walkedM (permM letBA (walkedM (permM letZB (walkedM M)))) = walkedM M := by
  rw [back_walk h.walked.wf h.walked.wzz (by rw [Two.lzz]; rfl) (back_two srt1 srt2 h.walked.wf h.l), h.wf.walk_walk]
theorem Two.ba {M : Mc} (h : Two M) : walkedM (permM letBA (walkedM (permM letBA (walkedM M)))) = walkedM M := by
  rw [back_walk h.walked.wf h.walked.wba (by rw [Two.lba]; rfl) (back_two srt2 srt2 h.walked.wf h.l), h.wf.walk_walk]
end K15

/-! part L9 -/
set_option Elab.async false
set_option linter.all false
set_option maxRecDepth 100000
set_option maxHeartbeats 1000000
namespace K15
open PySem PySem.Spec PyProof.Rows L2 RZ
/-! ### steps by a word -/
local macro_rules | `(tactic| walk_at "ov") => `(tactic| first
  | with_reducible exact ov_eqS
  | with_reducible exact ov_eqI
  | with_reducible exact ov_neS
  | with_reducible exact ov_neI
  | with_reducible exact ov_neB
  | with_reducible exact ov_ltS
  | with_reducible exact ov_inS
  | with_reducible exact ov_I0 (fun _ => Dt.int _)
  | with_reducible exact ov_I0 (fun _ => Dt.bl _))
local macro_rules | `(tactic| walk_at "ev") => `(tactic| first
  | with_reducible exact evd_i
  | with_reducible exact evd_s
  | with_reducible exact evd_b
  | with_reducible exact evd_n
  | ((with_reducible refine' evd_var (by assumption) ?hv); (case hv => rfl))
  | with_reducible assumption
  | ((with_reducible refine' evd_op ?ha ?hb ?hr); (case ha => walk_at "ev"); (case hb => walk_at "ev"); (case hr => walk_at "ov"))
  | ((with_reducible refine' evd_and ?ha (fun hc => ?hb)); (case ha => walk_at "ev"); (case hb => walk_at "ev"))
  | ((with_reducible refine' evd_or ?ha (fun hc => ?hb)); (case ha => walk_at "ev"); (case hb => walk_at "ev"))
  | ((with_reducible refine' evd_not ?ha); (case ha => walk_at "ev"))
  | ((with_reducible refine' evd_isi ?ha ?hb); (case ha => walk_at "ev"); (case hb => first | exact kb_ii | exact kb_ib | exact kb_ss | exact kb_tt))
  | ((with_reducible refine' evd_tup ?ha ?hb); (case ha => walk_at "ea"); (case hb => first | decide | (simp only [List.length_cons, List.length_nil]; omega)))
  | ((with_reducible refine' evd_chain ?ha ?hb ?hc ?h1 ?h2); (case ha => walk_at "ev"); (case hb => walk_at "ev"); (case hc => walk_at "ev"); (case h1 => walk_at "ov"); (case h2 => walk_at "ov"))
  | ((with_reducible refine' evd_cb ?ha ?hb); (case ha => walk_at "ea"); (case hb => first | with_reducible exact cv_len | with_reducible exact cv_max2 | with_reducible exact cv_int1 | ((with_reducible refine' cv_lenS ?hz); (case hz => omega))))
  | ((with_reducible refine' evd_c1 _ ?hp ?ha); (case ha => walk_at "ea"); (case hp => first | exact True.intro | assumption | (show _ ≤ _; omega))))
local macro_rules | `(tactic| walk_at "ea") => `(tactic| first
  | with_reducible exact eva_nil
  | ((with_reducible refine' eva_cons ?ha ?hb); (case ha => walk_at "ev"); (case hb => walk_at "ea")))
local macro_rules | `(tactic| walk_at "et") => `(tactic| first
  | with_reducible assumption
  | ((with_reducible refine' evt_test ?ha); (case ha => walk_at "ev"))
  | ((with_reducible refine' evt_B ?ha); (case ha => walk_at "ev"))
  | ((with_reducible refine' evt_and ?ha (fun hc => ?hb)); (case ha => walk_at "et"); (case hb => walk_at "et"))
  | ((with_reducible refine' evt_or ?ha (fun hc => ?hb)); (case ha => walk_at "et"); (case hb => walk_at "et"))
  | ((with_reducible refine' evt_not ?ha); (case ha => walk_at "et")))

local macro_rules | `(tactic| walk_at "wk") => `(tactic| first
  | exact Weak.nil
  | ((refine' Weak.keep ?h); (case h => walk_at "wk"))
  | ((refine' Weak.drop ?h); (case h => walk_at "wk")))

section
variable {K : PySem.W.Frag} {H : Hp}
mutual
theorem Dt.eqv : ∀ (d : PyData) (v : V), Dt K H v d → PyData.eqv d d = true
  | .none, _, h => rfl
  | .bool b, _, h => by simp [PyData.eqv]
  | .int i, _, h => by simp [PyData.eqv]
  | .str x, _, h => by simp [PyData.eqv]
  | .list _, _, h => by cases h
  | .dict _, _, h => by cases h
  | .tuple ds, _, h => by
    cases h with
    | tup hs ha =>
      rw [PyData.eqv]
      exact DtAll.eqv ds _ ha
theorem DtAll.eqv : ∀ (ds : List PyData) (vs : List V), DtAll K H vs ds → PyData.eqvAll ds ds = true
  | [], _, h => rfl
  | d :: ds, _, h => by
    cases h with
    | cons h1 h2 =>
      rw [PyData.eqvAll, Dt.eqv d _ h1, DtAll.eqv ds _ h2]
      rfl
end
end
section
variable {K : PySem.W.Frag} {σ : L2.St} {H : Hp} {ta tb te tf tg : TE} {d dx : PyData} {ds es : List PyData} {B : Base} {Γ : List Sl} {Θ : List (Addr × Ob)} {D : Ends} {tz : TS} {i j : Nat} {p : Addr} {l : List (Key × PyData)}
theorem ov_neSame (h : SeqAt.shaped d = true) : OvD K (rNeD K) d d (.bool false) := fun v u H Q hv hu q =>
  ⟨d, d, hv.dp d v, hu.dp d u, h, h, by
    rw [Dt.eqv d v hv]
    exact q _ H (Same.refl H) (.bl _)⟩
theorem ov_eqSame (h : SeqAt.shaped d = true) : OvD K (rEqD K) d d (.bool true) := fun v u H Q hv hu q =>
  ⟨d, d, hv.dp d v, hu.dp d u, h, h, by
    rw [Dt.eqv d v hv]
    exact q _ H (Same.refl H) (.bl _)⟩
theorem evd_neSameL (h1 : EvL K ta σ H ds) (h2 : EvL K tb σ H ds) (hsh : Sh 3 (.list ds)) : EvD K (tOp (rNeD K) ta tb) σ H (.bool false) := fun H1 e Q q =>
  h1 H1 e _ fun p xs H2 hp e2 hx hxd => h2 H2 (e.trans e2) _ fun r ys H3 hr e3 hy hyd => by
    have s := hsh.shaped (by decide)
    refine ⟨.list ds, .list ds, .lst (SqL.of (e3 _ _ hx)) (DtAll.dp _ _ (hxd.mono e3)), .lst (SqL.of hy) (DtAll.dp _ _ hyd), s, s, ?_⟩
    have e0 : PyData.eqv (.list ds) (.list ds) = true := by
      rw [PyData.eqv]
      exact DtAll.eqv _ _ hyd
    rw [e0]
    exact q _ _ (e2.trans e3) (.bl _)
/-- a, b = e, f of data and a new list -/
theorem q_parDL (a : At K B Γ Θ σ H) (h1 : EvD K tf σ H d) (h2 : EvL K tg σ H es) (k : ∀ q σ' H', At K B ((Γ.set i (.d d)).set j (.v (.ref q))) ((q, .lst es) :: Θ) σ' H' → tz D σ' H') : tSeq (tPar i j (tCons tf (tCons tg tNil))) tz D σ H :=
  h1 H (Same.refl H) _ fun v H1 e hv => h2 H1 e _ fun q ys H2 hq e2 hl2 hd2 => by
    have a1 := a.up e
    have a2 := a1.add (o := .lst es) e2 hq ⟨a1.sm.free hq, ys, hl2, hd2⟩
    exact ⟨_, _, rfl, k q _ H2 (a2.setD (hv.mono e2)).setV⟩
theorem q_parDK (a : At K B Γ Θ σ H) (h1 : EvD K tf σ H d) (h2 : EvK K tg σ H l) (k : ∀ q σ' H', At K B ((Γ.set i (.d d)).set j (.v (.ref q))) ((q, .dk l) :: Θ) σ' H' → tz D σ' H') : tSeq (tPar i j (tCons tf (tCons tg tNil))) tz D σ H :=
  h1 H (Same.refl H) _ fun v H1 e hv => h2 H1 e _ fun q H2 hq e2 hk => by
    have a1 := a.up e
    have a2 := a1.add (o := .dk l) e2 hq ⟨a1.sm.free hq, hk⟩
    exact ⟨_, _, rfl, k q _ H2 (a2.setD (hv.mono e2)).setV⟩
theorem q_parDD (a : At K B Γ Θ σ H) (h1 : EvD K tf σ H d) (h2 : EvD K tg σ H dx) (k : ∀ σ' H', At K B ((Γ.set i (.d d)).set j (.d dx)) Θ σ' H' → tz D σ' H') : tSeq (tPar i j (tCons tf (tCons tg tNil))) tz D σ H :=
  h1 H (Same.refl H) _ fun v H1 e hv => h2 H1 e _ fun u H2 e2 hu => ⟨_, _, rfl, k _ H2 ((((a.up e).up e2).setD (i := i) (hv.mono e2)).setD (i := j) hu)⟩
/-! ### boxes as they are made -/
/-- a new box -/
def EvB (K : PySem.W.Frag) (C : Addr) (te : TE) (σ : L2.St) (H : Hp) (M : Mc) : Prop := ∀ H1, Same H H1 → ∀ Q : VK, (∀ x H2, H1 x = none → Same H1 H2 → BoxAt K H2 x C M → Q (.ref x) H2) → te σ H1 Q
theorem evb_box {C : Addr} {M : Mc} (hc : Bc K C) (hw : Wf M) (h : EvD K te σ H (eM M)) : EvB K C (StX.tMakeR C (SpInit K) E0 (tCons te tNil)) σ H (walkedM M) := fun H1 e Q q =>
  h H1 e _ fun v H2 e2 hv x dx hx hdx hne => by
    have e3 : Same H2 (upd (upd H2 dx (.own x)) x (.ins C dx [])) := (sm_new hdx).trans (sm_new (by rw [upd_ne hne.symm]; exact hx))
    refine ⟨x, v, C, dx, M, rfl, hc, upd_same, hv.mono e3, hw, fun H' bt hb => ⟨rfl, q x H' (e2.free hx) (fun b u eb => ?_) hb⟩⟩
    have hb2 := (e2.trans e3) _ _ eb
    refine bt b u (fun z => ?_) hb2
    have := e2.free hx
    rw [← z, eb] at this
    cases this
theorem q_parBB {C C2 : Addr} {M N : Mc} (a : At K B Γ Θ σ H) (h1 : EvB K C tf σ H M) (h2 : EvB K C2 tg σ H N) (k : ∀ x y σ' H', BoxAt K H' x C M → BoxAt K H' y C2 N → At K B ((Γ.set i (.v (.ref x))).set j (.v (.ref y))) Θ σ' H' → tz D σ' H') : tSeq (tPar i j (tCons tf (tCons tg tNil))) tz D σ H :=
  h1 H (Same.refl H) _ fun x H1 hx e1 b1 => h2 H1 e1 _ fun y H2 hy e2 b2 => ⟨_, _, rfl, k x y _ H2 (b1.mono e2) b2 (a.up (e1.trans e2)).setV.setV⟩
/-- a box called -/
theorem evd_callB {X : Cx} {C x : Addr} {M : Mc} {rd : List Str} (hf : EvV tf σ H (.ref x)) (hb : BoxAt K H x C M) (ok : RunOk (M, rd, 0)) (he : EvD K te σ H (eL rd)) : EvD K (StX.tCallO X C (SpCall K C) E0 tf (tCons te tNil)) σ H (eL (runW M rd 0)) := fun H1 e Q q =>
  hf H1 e _ fun H2 e2 => ⟨x, rfl, he H2 (e.trans e2) _ fun v H3 e3 hv => by
    obtain ⟨dx, w, h1, h2⟩ := hb.mono ((e.trans e2).trans e3)
    exact ⟨.inr ⟨dx, _, h1⟩, x, v, M, rd, rfl, ok, ⟨dx, w, h1, h2⟩, hv, fun u H4 e4 hu => q u H4 ((e2.trans e3).trans e4) hu⟩⟩
/-! ### the law's helpers as they are called -/
variable {t1 t2 : TE} {ns : Nms} {M : Mc} {L own : List Str} {n : Nat}
theorem evd_otherL (h1 : EvD K t1 σ H (eM M)) (h2 : EvV t2 σ H (.ref p)) (hd : HasK K H p (eN ns)) (hw : Wf M) (n : NOk ns M) : EvD K (tCallR (SpOtherL K) (tCons t1 (tCons t2 tNil))) σ H (eM (permM (newsOf ns M) M)) := fun H1 e Q q =>
  h1 H1 e _ fun v H2 e2 hv => h2 H2 (e.trans e2) _ fun H3 e3 => ⟨p, v, ns, M, rfl, hd.mono ((e.trans e2).trans e3), hv.mono e3, hw, n.has, n.nd, fun u H' e4 hu => q u H' ((e2.trans e3).trans e4) hu⟩
theorem evd_otherW (h1 : EvD K t1 σ H (eM M)) (h2 : EvV t2 σ H (.ref p)) (hd : HasK K H p (eN ns)) (hw : Wf M) : EvD K (tCallR (SpOtherW K) (tCons t1 (tCons t2 tNil))) σ H (eM (mapW (nmOf ns) M)) := fun H1 e Q q =>
  h1 H1 e _ fun v H2 e2 hv => h2 H2 (e.trans e2) _ fun H3 e3 => ⟨p, v, ns, M, rfl, hd.mono ((e.trans e2).trans e3), hv.mono e3, hw, fun u H' e4 hu => q u H' ((e2.trans e3).trans e4) hu⟩
theorem evd_put (h1 : EvV t1 σ H (.ref p)) (h2 : EvD K t2 σ H (eL own)) (hd : HasK K H p (eN ns)) (hz : own.length ≤ 1000) (hx : ∀ x ∈ own, x ∈ ns.map (·.1)) : EvD K (tCallR (SpPut K) (tCons t1 (tCons t2 tNil))) σ H (eL (own.map (nmOf ns))) := fun H1 e Q q =>
  h1 H1 e _ fun H2 e2 => h2 H2 (e.trans e2) _ fun v H3 e3 hv => ⟨p, v, ns, own, rfl, hd.mono ((e.trans e2).trans e3), hv, hz, hx, fun u H' e4 hu => q u H' ((e2.trans e3).trans e4) hu⟩
theorem evl_readings (h1 : EvD K t1 σ H (eL L)) (h2 : EvD K t2 σ H (.int ((n : Nat) : Int))) (hL : L.length ≤ 3) (hn : n ≤ 3) : EvL K (tCallR (SpReadings K) (tCons t1 (tCons t2 tNil))) σ H ((rdN L n).1.map eL) := fun H1 e Q q =>
  h1 H1 e _ fun v H2 e2 hv => h2 H2 (e.trans e2) _ fun u H3 e3 hu => by
    cases hu
    exact ⟨v, L, n, rfl, hv.mono e3, hL, hn, fun r H' e4 hp hl => let ⟨xs, hx, hd⟩ := hl; q r xs H' ((e2.trans e3).free hp) ((e2.trans e3).trans e4) hx hd⟩
end
theorem rdW_len {l : List Str} (hl : l.length ≤ 10) (h : ∀ x ∈ l, isNm x = true) : (l.map (·.length)).sum + l.length ≤ 110 ∧ (rdW l).length ≤ 110 := by
  have h1 := letters_sum hl fun x hx => Nat.le_trans (isNm_le (h x hx)) (by decide)
  have h2 := join_len 44 l
  refine ⟨h1, ?_⟩
  unfold rdW
  split
  · omega
  · decide
theorem rdW_split {l : List Str} (h : ∀ x ∈ l, isNm x = true) : ((Txt.split (rdW l) (SX.S [44])).length : Int) = if (l.length : Int) > 1 then (l.length : Int) else 1 := by
  cases l with
  | nil => decide +kernel
  | cons a l =>
    have e : rdW (a :: l) = Txt.join (SX.S [44]) (a :: l) := if_pos (by simp)
    have hs : Txt.split (Txt.join (SX.S [44]) (a :: l)) (SX.S [44]) = a :: l := sp_join (by decide) (by simp) fun x hx hc => by
      have := isNm_chars (h x hx) 44 hc
      omega
    rw [e, hs]
    simp only [List.length_cons]
    split <;> omega
theorem shL {l : List Str} (h : ∀ x ∈ l, isWd x = true) : SeqAt.shaped (eL l) = true := (sh_eL h).shaped (by decide)
theorem sortI_idem (l : List Int) : sortI (sortI l) = sortI l := sortI_of_perm (sortI_perm l)
section
variable {P : Program} {w : World} {K : PySem.W.Frag} {mg : Str → Option Value} {base : Heap}
abbrev s__law_check_letters : Stmt := top 78
theorem sc__law_check_letters : FnScope ["_law_good", "_law_named", "_law_keeps", "_law_other", "_law_wide", "_law_first_box", "_law_other_box", "_law_own", "_law_late", "_law_start", "_law_k", "_law_one", "_law_two"] ["_law_good", "_law_named", "_law_keeps"] (defScope s__law_check_letters) := ⟨rfl, rfl, rfl, by decide +kernel, rfl, by decide +kernel, by decide +kernel⟩
def SpCheckL (K : PySem.W.Frag) : Sp := fun vs H Q _ => ∃ (p : Addr) (v : V) (ns : Nms) (M : Mc) (b : Bool), vs = [v, .ref p, .bl b] ∧ HasK K H p (eN ns) ∧ Dt K H v (eM M) ∧ MOk M ∧ NOk ns M ∧ (b = true → (newsOf ns M).Pairwise leT) ∧ ∀ H', Same H H' → Q (.bl true) H'
theorem df_check_letters {CB fiB g : Addr} (T : Top mg) (F : Fn K mg "_law_check_letters" "_law_check_letters" s__law_check_letters) (hcB : Bc K CB) (g_Box : mg "Box" = some (.ref CB)) (mk_Box : Mk K CB fiB) (fi_Box : FnR P w K mg base CX0 7 fiB (SpInit K)) (cO : StX.CallO K CB g) (fi_call : FnR P w K mg base CX0 3 g (SpCall K CB))
    (d__law_other_letters : Df P w K mg base 1 "_law_other_letters" (SpOtherL K)) (d__law_readings : Df P w K mg base 1 "_law_readings" (SpReadings K)) (d__law_put : Df P w K mg base 1 "_law_put" (SpPut K)) (d_lets_machine : Df P w K mg base 6 "lets_machine" (SpLetsMachine K)) (d_reached_states : Df P w K mg base 2 "reached_states" (SpReached K))
    (k_led : Dk P w K mg base 4 "led" 2 ["state"] (SpLedK K)) (k_said : Dk P w K mg base 4 "said" 2 ["state"] (SpSaidK K)) (d_step : Df P w K mg base 4 "step" (SpStep K)) (d_reading_text : Df P w K mg base 1 "reading_text" (SpReadingText K)) (d_past_to : Df P w K mg base 4 "past_to" (SpPastTo K)) (d_walked : Df P w K mg base 2 "walked" (SpWalked K))
    (d_machine_text : Df P w K mg base 3 "machine_text" (SpMachineText K)) (d_machine_read : Df P w K mg base 10 "machine_read" (SpMachineRead K)) : Df P w K mg base 11 "_law_check_letters" (SpCheckL K) := by
  refine df_any F sc__law_check_letters (fun _ _ _ _ _ _ us hl => match us, hl with | [_, _, _], _ => rfl) (fun vs H Q E ⟨_, _, _, _, _, h, _⟩ => by rw [h]; rfl) (fun f cdv A outer s H vs Q E hr h => ?_)
  have hu := hu_of hr
  refine ⟨_, (pss_cons (ps_par (i := 3) (j := 4) rfl sc__law_check_letters.nd rfl rfl (by decide) rfl rfl (pa_cons (pe_d d__law_other_letters hr (by decide) rfl (pa_cons (pv 0) (pa_cons (pv 1) pa_nil))) (pa_cons (pe_d d__law_readings hr (by decide) rfl (pa_cons (pe_ix (ix_tup' K (by rfl)) (pv 0) pe_int (fun _ _ => rfl)) (pa_cons (pe_ifExp (pt_cmpR op_lt (pe_callB (c_len' K (by rfl)) (by rfl) T.len_ (by decide +kernel) (pa_cons (pe_ix (ix_tup' K (by rfl)) (pv 0) pe_int (fun _ _ => rfl)) pa_nil)) pe_int (nomark _)) pe_int pe_int) pa_nil))) pa_nil)) (by rfl))
      (pss_cons (ps_if (PW.pt (pw_or (pt_cmpR op_ne (pe_d d_lets_machine hr (by decide) rfl (pa_cons (pv 3) pa_nil)) (pe_callB (c_len' K (by rfl)) (by rfl) T.len_ (by decide +kernel) (pa_cons (pe_ix (ix_tup' K (by rfl)) (pv 0) pe_int (fun _ _ => rfl)) pa_nil)) (nomark _)) (pw_or1 (pt_cmpR (op_neD' K (by rfl) hr.units) (pe_callB (cr_sortD K (by rfl) hr.units) (by rfl) T.sorted_ (by decide +kernel) (pa_cons (pe_d d_reached_states hr (by decide) rfl (pa_cons (pv 3) pa_nil)) pa_nil)) (pe_callB (cr_sortD K (by rfl) hr.units) (by rfl) T.sorted_ (by decide +kernel) (pa_cons (pe_d d_reached_states hr (by decide) rfl (pa_cons (pv 0) pa_nil)) pa_nil)) (nomark _))))) (pss_one (ps_ret pe_bl)) pss_nil)
      (pss_cons (ps_par (i := 5) (j := 6) rfl sc__law_check_letters.nd rfl rfl (by decide) rfl rfl (pa_cons (StX.pe_makeR mk_Box fi_Box (hr.mono (by decide)) rfl g_Box pass0 (pa_cons (pv 0) pa_nil)) (pa_cons (StX.pe_makeR mk_Box fi_Box (hr.mono (by decide)) rfl g_Box pass0 (pa_cons (pv 3) pa_nil)) pa_nil)) (by rfl))
      (pss_cons (ps_for PassesOwn.never rfl (pi_list' K (by rfl) (pv 4)) (pg_name (i := 7) sc__law_check_letters.nd rfl (by first | exact Or.inl rfl | exact Or.inr rfl)) (pss_cons (ps_set (i := 8) sc__law_check_letters.nd rfl (by first | exact Or.inl rfl | exact Or.inr rfl) (pe_d d__law_put hr (by decide) rfl (pa_cons (pv 1) (pa_cons (pv 7) pa_nil))))
      (pss_cons (ps_for PassesOwn.never rfl (pi_range1 (by rfl) T.range_ (pa_cons (pe_callB (c_len' K (by rfl)) (by rfl) T.len_ (by decide +kernel) (pa_cons (pe_ix (ix_tup' K (by rfl)) (pv 0) pe_int (fun _ _ => rfl)) pa_nil)) pa_nil)) (pg_name (i := 9) sc__law_check_letters.nd rfl (by first | exact Or.inl rfl | exact Or.inr rfl)) (pss_cons (ps_if (pt_cmpR op_ne (pe_dk k_led hr (by decide) rfl (pa_cons (pv 3) (pa_cons (pv 8) pa_nil)) (pk_cons (pv 9) pk_nil)) (pe_dk k_led hr (by decide) rfl (pa_cons (pv 0) (pa_cons (pv 7) pa_nil)) (pk_cons (pv 9) pk_nil)) (nomark _)) (pss_one (ps_ret pe_bl)) pss_nil)
      (pss_one (ps_if (pt_cmpR (op_neD' K (by rfl) hr.units) (pe_dk k_said hr (by decide) rfl (pa_cons (pv 3) (pa_cons (pv 8) pa_nil)) (pk_cons (pv 9) pk_nil)) (pe_dk k_said hr (by decide) rfl (pa_cons (pv 0) (pa_cons (pv 7) pa_nil)) (pk_cons (pv 9) pk_nil)) (nomark _)) (pss_one (ps_ret pe_bl)) pss_nil))))
      (pss_cons (ps_if (PW.pt (pw_and (pt_cmpR (op_neD' K (by rfl) hr.units) (pv 7) (pe_tup pa_nil) (nomark _)) (pw_and1 (pt_cmpR (op_neD' K (by rfl) hr.units) (pe_d d_step hr (by decide) rfl (pa_cons (pv 3) (pa_cons pe_int (pa_cons (pe_ix (ix_tup' K (by rfl)) (pv 8) pe_int (fun _ _ => rfl)) pa_nil)))) (pe_d d_step hr (by decide) rfl (pa_cons (pv 0) (pa_cons pe_int (pa_cons (pe_ix (ix_tup' K (by rfl)) (pv 7) pe_int (fun _ _ => rfl)) pa_nil)))) (nomark _))))) (pss_one (ps_ret pe_bl)) pss_nil)
      (pss_one (ps_if (PW.pt (pw_or (pt_cmpR (op_neD' K (by rfl) hr.units) (StX.pe_callO (pv 6) cO fi_call (hr.mono (by decide)) pass0 (pa_cons (pv 8) pa_nil)) (StX.pe_callO (pv 5) cO fi_call (hr.mono (by decide)) pass0 (pa_cons (pv 7) pa_nil)) (nomark _)) (pw_or1 (pt_cmpR op_ne (pe_callB (c_len' K (by rfl)) (by rfl) T.len_ (by decide +kernel) (pa_cons (pe_split (pe_d d_reading_text hr (by decide) rfl (pa_cons (pv 8) pa_nil)) pe_str) pa_nil)) (pe_callB (c_max2 rfl) (by rfl) T.max_ (by decide +kernel) (pa_cons pe_int (pa_cons (pe_callB (c_len' K (by rfl)) (by rfl) T.len_ (by decide +kernel) (pa_cons (pv 7) pa_nil)) pa_nil))) (nomark _))))) (pss_one (ps_ret pe_bl)) pss_nil))))))
      (pss_cons (ps_for PassesOwn.never rfl (pi_range1 (by rfl) T.range_ (pa_cons (pe_callB (c_len' K (by rfl)) (by rfl) T.len_ (by decide +kernel) (pa_cons (pe_ix (ix_tup' K (by rfl)) (pv 0) pe_int (fun _ _ => rfl)) pa_nil)) pa_nil)) (pg_name (i := 10) sc__law_check_letters.nd rfl (by first | exact Or.inl rfl | exact Or.inr rfl)) (pss_cons (ps_par (i := 11) (j := 12) rfl sc__law_check_letters.nd rfl rfl (by decide) rfl rfl (pa_cons (pe_d d_past_to hr (by decide) rfl (pa_cons (pv 0) (pa_cons (pv 10) pa_nil))) (pa_cons (pe_d d_past_to hr (by decide) rfl (pa_cons (pv 3) (pa_cons (pv 10) pa_nil))) pa_nil)) (by rfl))
      (pss_cons (ps_if (PW.pt (pw_or (pt_cmpR op_ne (pe_cmpR op_isN (pv 11) pe_non (nomark _)) (pe_cmpR op_isN (pv 12) pe_non (nomark _)) (nomark _)) (pw_or1 (PW.pt (pw_and (pt_cmpR op_notN (pv 11) pe_non (nomark _)) (pw_and1 (pt_cmpR op_ne (pe_callB (c_len' K (by rfl)) (by rfl) T.len_ (by decide +kernel) (pa_cons (pv 11) pa_nil)) (pe_callB (c_len' K (by rfl)) (by rfl) T.len_ (by decide +kernel) (pa_cons (pv 12) pa_nil)) (nomark _)))))))) (pss_one (ps_ret pe_bl)) pss_nil)
      (pss_one (ps_if (PW.pt (pw_and (pt_val (pv 2)) (pw_and (pt_cmpR op_notN (pv 11) pe_non (nomark _)) (pw_and1 (pt_cmpR (op_neD' K (by rfl) hr.units) (pv 12) (pe_d d__law_put hr (by decide) rfl (pa_cons (pv 1) (pa_cons (pv 11) pa_nil))) (nomark _)))))) (pss_one (ps_ret pe_bl)) pss_nil)))))
      (pss_cons (ps_if (PW.pt (pw_and (pt_val (pv 2)) (pw_and1 (pt_cmpR (op_neD' K (by rfl) hr.units) (pe_d d_walked hr (by decide) rfl (pa_cons (pv 3) pa_nil)) (pe_d d__law_other_letters hr (by decide) rfl (pa_cons (pe_d d_walked hr (by decide) rfl (pa_cons (pv 0) pa_nil)) (pa_cons (pv 1) pa_nil))) (nomark _))))) (pss_one (ps_ret pe_bl)) pss_nil)
      (pss_one (ps_ret (pe_and (pe_cmpR (op_eqD' K (by rfl) hr.units) (pe_d d_machine_read hr (by decide) rfl (pa_cons (pe_d d_machine_text hr (by decide) rfl (pa_cons (pv 3) pa_nil)) pa_nil)) (pv 3) (nomark _)) (pe_one (pe_cmpR op_eq (pe_callB (c_len' K (by rfl)) (by rfl) T.len_ (by decide +kernel) (pa_cons (pe_ix (ix_tup' K (by rfl)) (pe_d d_walked hr (by decide) rfl (pa_cons (pv 3) pa_nil)) pe_int (fun _ _ => rfl)) pa_nil)) (pe_callB (c_len' K (by rfl)) (by rfl) T.len_ (by decide +kernel) (pa_cons (pe_ix (ix_tup' K (by rfl)) (pe_d d_walked hr (by decide) rfl (pa_cons (pv 0) pa_nil)) pe_int (fun _ _ => rfl)) pa_nil)) (nomark _)))))))))))), ?_⟩
  obtain ⟨p, v, ns, M, b, rfl, hd, hv, hM, hn, hb, k⟩ := h
  have hw := hM.wf
  have hw2 := hn.wf hw
  generalize eN2 : permM (newsOf ns M) M = N at hw2
  have a : At K (.of H) [.d (eM M), .v (.ref p), .d (.bool b), .o, .o, .o, .o, .o, .o, .o, .o, .o, .o] [] (L2.start ["_law_good", "_law_named", "_law_keeps", "_law_other", "_law_wide", "_law_first_box", "_law_other_box", "_law_own", "_law_late", "_law_start", "_law_k", "_law_one", "_law_two"] [v, .ref p, .bl b]) H := ⟨Same.refl _, ⟨hv, rfl, .bl b, True.intro, True.intro, True.intro, True.intro, True.intro, True.intro, True.intro, True.intro, True.intro, True.intro, True.intro⟩, Own.nil, True.intro⟩
  have hnl : ∃ n : Nat, n ≤ 3 ∧ n = if M.L.length < 2 then 3 else 2 := ⟨_, by split <;> decide, rfl⟩
  obtain ⟨n, hn3, en⟩ := hnl
  refine' q_parDL (d := eM N) (es := (rdN M.L n).1.map eL) a (EvD.is (evd_otherL (evd_var a (i := 0) rfl) (evv_var a (i := 1) rfl) (hd.mono a.sm) hw hn) (by rw [eN2])) (evl_readings (evd_ix0 (evd_var a (i := 0) rfl)) ?hk1 hM.l3 hn3) fun pw σ1 H1 a1 => ?_
  case hk1 =>
    refine evd_if (b := decide (((M.L.map PyData.str).length : Int) < 2)) (evt_test (evd_op (evd_cb (eva_cons (evd_ix0 (evd_var a (i := 0) rfl)) eva_nil) cv_len) evd_i (ov_I0 fun _ => Dt.bl _))) (fun h1 => EvD.is evd_i ?_) fun h1 => EvD.is evd_i ?_
    · have h2 := of_decide_eq_true h1
      rw [List.length_map] at h2
      rw [en, if_pos (by omega)]
      rfl
    · have h2 := of_decide_eq_false h1
      rw [List.length_map] at h2
      rw [en, if_neg (by omega)]
      rfl
  refine' q_no a1 (EvT.is (evt_or (a := false) (b := false) (evt_test (EvD.is (evd_op (evd_c1 N hw2 (eva_cons (evd_var a1 (i := 3) rfl) eva_nil)) (evd_cb (eva_cons (evd_ix1 (evd_var a1 (i := 0) rfl)) eva_nil) cv_len) ov_neI) ?ht1)) fun _ => evt_test (evd_neSameL (ds := (sortI ((order M).map fun (n : Nat) => (n : Int))).map .int) (EvL.is (evl_sortT (evd_c1 N hw2 (eva_cons (evd_var a1 (i := 3) rfl) eva_nil)) ?hs1 ?hs2 ?hs3 ?hs4) ?hs5) (EvL.is (evl_sortT (evd_c1 M hw (eva_cons (evd_var a1 (i := 0) rfl) eva_nil)) ?hs6 ?hs7 ?hs8 ?hs9) ?hs10) ?hs11)) rfl) fun H2 a2 => ?_
  case ht1 =>
    have e1 : N.R.length = M.R.length := by rw [← eN2]; exact perm_len
    rw [List.length_map, e1]
    simp
  case hs1 => exact PySem.W.AllAlike.of (enc := PyData.int) fun _ _ => rfl
  case hs6 => exact PySem.W.AllAlike.of (enc := PyData.int) fun _ _ => rfl
  case hs2 => exact PySem.W.Sortable.others (enc := PyData.int) fun _ => ⟨(fun h => nomatch h), fun _ h => nomatch h⟩
  case hs7 => exact PySem.W.Sortable.others (enc := PyData.int) fun _ => ⟨(fun h => nomatch h), fun _ h => nomatch h⟩
  case hs3 =>
    have := hw2.order_len
    have := hw2.r1
    rw [List.length_map, (sortI_perm _).length_eq, List.length_map]
    omega
  case hs8 =>
    have := hw.order_len
    have := hw.r1
    rw [List.length_map, (sortI_perm _).length_eq, List.length_map]
    omega
  case hs4 =>
    intro d hd
    obtain ⟨i, _, rfl⟩ := List.mem_map.mp hd
    simp [PyData.depth]
  case hs9 =>
    intro d hd
    obtain ⟨i, _, rfl⟩ := List.mem_map.mp hd
    simp [PyData.depth]
  case hs5 => rw [sort_ints, sortI_idem, ← eN2, hn.reached hw]
  case hs10 => rw [sort_ints, sortI_idem]
  case hs11 => exact (sh_lst (n := 0) fun d hd => by
      obtain ⟨i, _, rfl⟩ := List.mem_map.mp hd
      exact sh_int i).mono (by decide)
  refine' q_parBB (C := CB) (C2 := CB) (M := walkedM M) (N := walkedM N) a2 (evb_box hcB hw (evd_var a2 (i := 0) rfl)) (evb_box hcB hw2 (evd_var a2 (i := 3) rfl)) fun bx by_ σ3 H3 hb1 hb2 a3 => ?_
  have a4 := (a3.fact (G := fun H => BoxAt K H bx CB (walkedM M)) (fun _ _ e h => h.im e) hb1).fact (G := fun H => BoxAt K H by_ CB (walkedM N)) (fun _ _ e h => h.im e) hb2
  clear a1 a2 a3 hb1 hb2
  have hnm : ∀ x ∈ M.L, isNm x = true := fun x hx => List.all_eq_true.mp hw.nm x hx
  have hnN : ∀ x ∈ N.L, isNm x = true := fun x hx => List.all_eq_true.mp hw2.nm x hx
  refine' q_forL (p := pw) (l := (rdN M.L n).1) (en := eL) (Γf := fun _ => [.d (eM M), .v (.ref p), .d (.bool b), .d (eM N), .v (.ref pw), .v (.ref bx), .v (.ref by_), .o, .o, .o, .o, .o, .o]) (Θf := fun _ => [(pw, .lst ((rdN M.L n).1.map eL))]) a4 (evv_var a4 (i := 4) rfl) (fun _ => ⟨0, rfl⟩) ?hw rfl (fun m own v5 σ5 H5 hm a5 hv5 => g_name a5 hv5 fun σ6 a6 => ?hin) fun σ5 H5 a5 => ?hout
  case hw => walk_at "wk"
  case hin =>
    have hmo := List.mem_of_getElem? hm
    obtain ⟨hol, hox⟩ := (rdN_mem (L := M.L) n).1 own hmo
    have hlN : ∀ y ∈ own.map (nmOf ns), y ∈ N.L := by
      rw [← eN2]
      exact NOk.mem hox
    have hll : (own.map (nmOf ns)).length = own.length := List.length_map _
    refine' q_asg (d := eL (own.map (nmOf ns))) a6 (evd_put (evv_var a6 (i := 1) rfl) (evd_var a6 (i := 7) rfl) (hd.mono a6.sm) (by omega) fun x hx => hn.has x (hox x hx)) fun σ7 H7 a7 => ?_
    refine' q_forS (l := List.range M.R.length) (en := fun (i : Nat) => .int (i : Int)) (Γf := fun _ => [.d (eM M), .v (.ref p), .d (.bool b), .d (eM N), .v (.ref pw), .v (.ref bx), .v (.ref by_), .d (eL own), .d (eL (own.map (nmOf ns))), .o, .o, .o, .o]) (Θf := fun _ => [(pw, .lst ((rdN M.L n).1.map eL))]) a7 (srcS_rng (eva_cons (EvD.is (evd_cb (eva_cons (evd_ix1 (evd_var a7 (i := 0) rfl)) eva_nil) cv_len) (by rw [List.length_map])) eva_nil) (Nat.le_trans hw.r1 (by decide))) ?hw2 rfl (fun G st s x v8 σ8 H8 hs a8 hv8 => g_name a8 hv8 fun σ9 a9 => ?hin2) fun σ8 H8 a8 => ?hout2
    case hw2 => walk_at "wk"
    case hin2 =>
      have hsx : x < M.R.length := List.mem_range.mp (List.mem_of_getElem? hs)
      have hsN : x < N.R.length := by
        rw [← eN2, perm_len]
        exact hsx
      have hrun := hn.run hw hsx hox
      rw [eN2] at hrun
      refine' q_no a9 (evt_test (EvD.is (evd_op (evd_k1 (N, own.map (nmOf ns), x) ⟨hw2, hsN, by show (own.map (nmOf ns)).length ≤ 1000; omega, hlN⟩ (eva_cons (evd_var a9 (i := 3) rfl) (eva_cons (evd_var a9 (i := 8) rfl) eva_nil)) (eva_cons (evd_var a9 (i := 9) rfl) eva_nil) rfl rfl) (evd_k1 (M, own, x) ⟨hw, hsx, by show own.length ≤ 1000; omega, hox⟩ (eva_cons (evd_var a9 (i := 0) rfl) (eva_cons (evd_var a9 (i := 7) rfl) eva_nil)) (eva_cons (evd_var a9 (i := 9) rfl) eva_nil) rfl rfl) ov_neI) ?h1)) fun H10 a10 => ?_
      case h1 =>
        show PyData.bool (!decide (((runS N (own.map (nmOf ns)) x : Nat) : Int) = ((runS M own x : Nat) : Int))) = _
        rw [hrun.1]
        simp
      refine' s_no a10 (evt_test (evd_op (EvD.is (evd_k1 (N, own.map (nmOf ns), x) ⟨hw2, hsN, by show (own.map (nmOf ns)).length ≤ 1000; omega, hlN⟩ (eva_cons (evd_var a10 (i := 3) rfl) (eva_cons (evd_var a10 (i := 8) rfl) eva_nil)) (eva_cons (evd_var a10 (i := 9) rfl) eva_nil) rfl rfl) ?h2) (evd_k1 (M, own, x) ⟨hw, hsx, by show own.length ≤ 1000; omega, hox⟩ (eva_cons (evd_var a10 (i := 0) rfl) (eva_cons (evd_var a10 (i := 7) rfl) eva_nil)) (eva_cons (evd_var a10 (i := 9) rfl) eva_nil) rfl rfl) (ov_neSame (shL (hw.runW_wd own x hsx hox))))) fun H11 a11 => a11.weak (by walk_at "wk")
      case h2 =>
        show eL (runW N (own.map (nmOf ns)) x) = eL (runW M own x)
        rw [hrun.2]
    case hout2 =>
      have hr0 := hw.r0
      have hrN0 := hw2.r0
      have hso : SeqAt.shaped (eL own) = true := shL fun x hx => isWd_of (hnm x (hox x hx))
      refine' q_no a8 (EvT.is (evt_and (a := decide (own ≠ [])) (b := false) (evt_test (EvD.is (evd_op (evd_var a8 (i := 7) rfl) (evd_tup eva_nil) (ov_neD hso rfl)) ?he1)) fun he => evt_test ?he2) (by rw [Bool.and_false])) fun H9 a9 => ?_
      case he1 => cases own <;> rfl
      case he2 =>
        have hne : own ≠ [] := of_decide_eq_true he
        obtain ⟨x0, r0, eo⟩ : ∃ x0 r0, own = x0 :: r0 := by
          cases own with
          | nil => exact absurd rfl hne
          | cons x r => exact ⟨x, r, rfl⟩
        have hx0 : x0 ∈ M.L := hox x0 (by rw [eo]; exact List.mem_cons_self ..)
        have e1 : eL own = .tuple (.str x0 :: r0.map .str) := by rw [eo]; rfl
        have e2 : eL (own.map (nmOf ns)) = .tuple (.str (nmOf ns x0) :: (r0.map (nmOf ns)).map .str) := by rw [eo]; rfl
        have h7 : EvD K (tVar 7) σ8 H8 (.tuple (.str x0 :: r0.map .str)) := EvD.is (evd_var a8 (i := 7) rfl) e1
        have h8 : EvD K (tVar 8) σ8 H8 (.tuple (.str (nmOf ns x0) :: (r0.map (nmOf ns)).map .str)) := EvD.is (evd_var a8 (i := 8) rfl) e2
        have hrs : rs N 0 (nmOf ns x0) = rs M 0 x0 := by
          rw [← eN2]
          exact hw.perm_rs (f := nmOf ns) rfl hn.nd hr0 hx0
        refine evd_op (EvD.is (evd_c1 (N, 0, nmOf ns x0) ⟨hw2, hrN0, hlN _ (by rw [eo]; exact List.mem_cons_self ..)⟩ (eva_cons (evd_var a8 (i := 3) rfl) (eva_cons evd_i (eva_cons (evd_ix0 h8) eva_nil)))) ?he3) (evd_c1 (M, 0, x0) ⟨hw, hr0, hx0⟩ (eva_cons (evd_var a8 (i := 0) rfl) (eva_cons evd_i (eva_cons (evd_ix0 h7) eva_nil)))) (ov_neSame (d := eP (rs M 0 x0)) ?he4)
        case he3 =>
          show eP (rs N 0 (nmOf ns x0)) = _
          rw [hrs]
        case he4 => exact (sh_eP (hw.wd _ (hw.row hr0) _ (hw.rs_mem hr0 hx0))).shaped (by decide)
      have hg := a9.gh
      have ok1 : RunOk (walkedM M, own, 0) := ⟨hw.walked, hw.walked.r0, by show own.length ≤ 1000; omega, hox⟩
      have ok2 : RunOk (walkedM N, own.map (nmOf ns), 0) := ⟨hw2.walked, hw2.walked.r0, by show (own.map (nmOf ns)).length ≤ 1000; omega, hlN⟩
      have hbx := hn.box hw hox
      rw [eN2] at hbx
      have hnl2 : ∀ x ∈ own.map (nmOf ns), isNm x = true := fun x hx => hnN x (hlN x hx)
      have hrl := rdW_len (l := own.map (nmOf ns)) (by omega) hnl2
      refine' s_no a9 (EvT.is (evt_or (a := false) (b := false) (evt_test (evd_op (EvD.is (evd_callB (evv_var a9 (i := 6) rfl) hg.2 ok2 (evd_var a9 (i := 8) rfl)) (by rw [hbx])) (evd_callB (evv_var a9 (i := 5) rfl) hg.1.2 ok1 (evd_var a9 (i := 7) rfl)) (ov_neSame (shL (hw.walked.runW_wd own 0 hw.walked.r0 hox))))) fun _ => evt_test (EvD.is (evd_op (evd_lenL (evl_split (c := 44) (evd_c1 (own.map (nmOf ns)) ?hf1 (eva_cons (evd_var a9 (i := 8) rfl) eva_nil)) ?hf2)) (evd_cb (eva_cons evd_i (eva_cons (evd_cb (eva_cons (evd_var a9 (i := 7) rfl) eva_nil) cv_len) eva_nil)) cv_max2) ov_neI) ?hf3)) rfl) fun H10 a10 => a10.weak (by walk_at "wk")
      case hf1 =>
        have := hrl.1
        show _ ≤ 100000
        omega
      case hf2 =>
        have := hrl.2
        omega
      case hf3 =>
        have h1 := rdW_split hnl2
        rw [hll] at h1
        rw [List.length_map, List.length_map, h1]
        simp
  case hout =>
    refine' q_forS (l := List.range M.R.length) (en := fun (i : Nat) => .int (i : Int)) (Γf := fun _ => [.d (eM M), .v (.ref p), .d (.bool b), .d (eM N), .v (.ref pw), .v (.ref bx), .v (.ref by_), .o, .o, .o, .o, .o, .o]) (Θf := fun _ => [(pw, .lst ((rdN M.L n).1.map eL))]) a5 (srcS_rng (eva_cons (EvD.is (evd_cb (eva_cons (evd_ix1 (evd_var a5 (i := 0) rfl)) eva_nil) cv_len) (by rw [List.length_map])) eva_nil) (Nat.le_trans hw.r1 (by decide))) ?hw3 rfl (fun G st s x v8 σ8 H8 hs a8 hv8 => g_name a8 hv8 fun σ9 a9 => ?hin3) fun σ8 H8 a8 => ?hout3
    case hw3 => walk_at "wk"
    case hin3 =>
      have hsx : x < M.R.length := List.mem_range.mp (List.mem_of_getElem? hs)
      have hsN : x < N.R.length := by
        rw [← eN2, perm_len]
        exact hsx
      refine' q_parDD (d := pastD M x) (dx := pastD N x) a9 (evd_c1 (M, x) ⟨hw, hsx⟩ (eva_cons (evd_var a9 (i := 0) rfl) (eva_cons (evd_var a9 (i := 10) rfl) eva_nil))) (evd_c1 (N, x) ⟨hw2, hsN⟩ (eva_cons (evd_var a9 (i := 3) rfl) (eva_cons (evd_var a9 (i := 10) rfl) eva_nil))) fun σ10 H10 a10 => ?_
      have hp := hn.pasts hw x b hb
      rw [eN2] at hp
      rcases hp with ⟨u, v, hu1, hv1, eu, ev, hlen, hmap⟩ | ⟨eu, ev⟩
      · rw [eu, ev] at a10
        refine' q_no a10 (EvT.is (evt_or (a := false) (b := false) (evt_test (EvD.is (evd_op (evd_isN (evd_var a10 (i := 11) rfl)) (evd_isN (evd_var a10 (i := 12) rfl)) ov_neB) rfl)) fun _ => EvT.is (evt_and (evt_test (evd_notN (evd_var a10 (i := 11) rfl))) fun _ => evt_test (evd_op (evd_cb (eva_cons (evd_var a10 (i := 11) rfl) eva_nil) cv_len) (evd_cb (eva_cons (evd_var a10 (i := 12) rfl) eva_nil) cv_len) ov_neI)) ?hg1) rfl) fun H11 a11 => ?_
        case hg1 =>
          rw [List.length_map, List.length_map, hlen]
          simp
        refine' s_no a11 (EvT.is (evt_and (b := false) (evt_test (evd_var a11 (i := 2) rfl)) fun hbt => EvT.is (evt_and (b := false) (evt_test (evd_notN (evd_var a11 (i := 11) rfl))) fun _ => evt_test (evd_op (evd_var a11 (i := 12) rfl) (EvD.is (evd_put (own := u) (evv_var a11 (i := 1) rfl) (evd_var a11 (i := 11) rfl) (hd.mono a11.sm) ?hg2 ?hg3) ?hg4) (ov_neSame (d := eL v) ?hg5))) (Bool.and_false _)) (Bool.and_false _)) fun H12 a12 => a12.weak (by walk_at "wk")
        case hg2 => exact Nat.le_trans (hw.lp_len hu1) (by decide)
        case hg3 => exact fun y hy => hn.has y (lp_mem hu1 y hy)
        case hg4 => rw [hmap hbt]
        case hg5 => exact shL fun y hy => isWd_of (hnN y (lp_mem hv1 y hy))
      · rw [eu, ev] at a10
        refine' q_no a10 (EvT.is (evt_or (a := false) (b := false) (evt_test (EvD.is (evd_op (evd_isN (evd_var a10 (i := 11) rfl)) (evd_isN (evd_var a10 (i := 12) rfl)) ov_neB) rfl)) fun _ => EvT.is (evt_and (b := false) (evt_test (evd_notN (evd_var a10 (i := 11) rfl))) fun h => nomatch h) (Bool.and_false _)) rfl) fun H11 a11 => ?_
        refine' s_no a11 (EvT.is (evt_and (b := false) (evt_test (evd_var a11 (i := 2) rfl)) fun hbt => EvT.is (evt_and (b := false) (evt_test (evd_notN (evd_var a11 (i := 11) rfl))) fun h => nomatch h) (Bool.and_false _)) (Bool.and_false _)) fun H12 a12 => a12.weak (by walk_at "wk")
    case hout3 =>
      have hws : SeqAt.shaped (eM (walkedM N)) = true := hw2.walked.sh.shaped (by decide)
      have hnw : NOk ns (walkedM M) := ⟨hn.has, hn.nd, hn.nm⟩
      refine' q_no a8 (EvT.is (evt_and (b := false) (evt_test (evd_var a8 (i := 2) rfl)) fun hbt => evt_test (evd_op (evd_c1 N hw2 (eva_cons (evd_var a8 (i := 3) rfl) eva_nil)) (EvD.is (evd_otherL (evd_c1 M hw (eva_cons (evd_var a8 (i := 0) rfl) eva_nil)) (evv_var a8 (i := 1) rfl) (hd.mono a8.sm) hw.walked hnw) ?hh1) (ov_neSame (d := eM (walkedM N)) hws))) (Bool.and_false _)) fun H9 a9 => ?_
      case hh1 =>
        have := hn.keep hw (hb hbt)
        rw [eN2] at this
        rw [this]
      refine' f_ret (d := .bool true) a9 (EvD.is (evd_and (b := true) (evd_op (evd_c1 N hw2 (eva_cons (evd_c1 N hw2 (eva_cons (evd_var a9 (i := 3) rfl) eva_nil)) eva_nil)) (evd_var a9 (i := 3) rfl) (ov_eqSame (d := eM N) (hw2.sh.shaped (by decide)))) fun _ => EvD.is (evd_op (evd_cb (eva_cons (evd_ix1 (evd_c1 N hw2 (eva_cons (evd_var a9 (i := 3) rfl) eva_nil))) eva_nil) cv_len) (evd_cb (eva_cons (evd_ix1 (evd_c1 M hw (eva_cons (evd_var a9 (i := 0) rfl) eva_nil))) eva_nil) cv_len) ov_eqI) ?hh2) rfl) fun v H' e hv => ?_
      case hh2 =>
        have := hn.walked_len hw
        rw [eN2] at this
        rw [List.length_map, List.length_map, this]
        simp
      rw [hv.bl_inv]
      exact k H' e
end
end K15

/-! part LA -/
set_option Elab.async false
set_option linter.all false
set_option maxRecDepth 100000
set_option maxHeartbeats 1000000
namespace K15
open PySem PySem.Spec PyProof.Rows L2 RZ
/-! ### steps by a word -/
local macro_rules | `(tactic| walk_at "ov") => `(tactic| first
  | with_reducible exact ov_eqS
  | with_reducible exact ov_eqI
  | with_reducible exact ov_neS
  | with_reducible exact ov_neI
  | with_reducible exact ov_neB
  | with_reducible exact ov_ltS
  | with_reducible exact ov_inS
  | with_reducible exact ov_I0 (fun _ => Dt.int _)
  | with_reducible exact ov_I0 (fun _ => Dt.bl _))
local macro_rules | `(tactic| walk_at "ev") => `(tactic| first
  | with_reducible exact evd_i
  | with_reducible exact evd_s
  | with_reducible exact evd_b
  | with_reducible exact evd_n
  | ((with_reducible refine' evd_var (by assumption) ?hv); (case hv => rfl))
  | with_reducible assumption
  | ((with_reducible refine' evd_op ?ha ?hb ?hr); (case ha => walk_at "ev"); (case hb => walk_at "ev"); (case hr => walk_at "ov"))
  | ((with_reducible refine' evd_and ?ha (fun hc => ?hb)); (case ha => walk_at "ev"); (case hb => walk_at "ev"))
  | ((with_reducible refine' evd_or ?ha (fun hc => ?hb)); (case ha => walk_at "ev"); (case hb => walk_at "ev"))
  | ((with_reducible refine' evd_not ?ha); (case ha => walk_at "ev"))
  | ((with_reducible refine' evd_isi ?ha ?hb); (case ha => walk_at "ev"); (case hb => first | exact kb_ii | exact kb_ib | exact kb_ss | exact kb_tt))
  | ((with_reducible refine' evd_tup ?ha ?hb); (case ha => walk_at "ea"); (case hb => first | decide | (simp only [List.length_cons, List.length_nil]; omega)))
  | ((with_reducible refine' evd_chain ?ha ?hb ?hc ?h1 ?h2); (case ha => walk_at "ev"); (case hb => walk_at "ev"); (case hc => walk_at "ev"); (case h1 => walk_at "ov"); (case h2 => walk_at "ov"))
  | ((with_reducible refine' evd_cb ?ha ?hb); (case ha => walk_at "ea"); (case hb => first | with_reducible exact cv_len | with_reducible exact cv_max2 | with_reducible exact cv_int1 | ((with_reducible refine' cv_lenS ?hz); (case hz => omega))))
  | ((with_reducible refine' evd_c1 _ ?hp ?ha); (case ha => walk_at "ea"); (case hp => first | exact True.intro | assumption | (show _ ≤ _; omega))))
local macro_rules | `(tactic| walk_at "ea") => `(tactic| first
  | with_reducible exact eva_nil
  | ((with_reducible refine' eva_cons ?ha ?hb); (case ha => walk_at "ev"); (case hb => walk_at "ea")))
local macro_rules | `(tactic| walk_at "et") => `(tactic| first
  | with_reducible assumption
  | ((with_reducible refine' evt_test ?ha); (case ha => walk_at "ev"))
  | ((with_reducible refine' evt_B ?ha); (case ha => walk_at "ev"))
  | ((with_reducible refine' evt_and ?ha (fun hc => ?hb)); (case ha => walk_at "et"); (case hb => walk_at "et"))
  | ((with_reducible refine' evt_or ?ha (fun hc => ?hb)); (case ha => walk_at "et"); (case hb => walk_at "et"))
  | ((with_reducible refine' evt_not ?ha); (case ha => walk_at "et")))

local macro_rules | `(tactic| walk_at "wk") => `(tactic| first
  | exact Weak.nil
  | ((refine' Weak.keep ?h); (case h => walk_at "wk"))
  | ((refine' Weak.drop ?h); (case h => walk_at "wk")))

theorem ObOk.moveT {K : PySem.W.Frag} {H0 H H' : Hp} {p : Addr} (e : ∀ b xs, Rd H b (.tup xs) → Rd H' b (.tup xs)) (hp : H' p = H p) : ∀ {o : Ob}, ObOk K H0 H p o → ObOk K H0 H' p o
  | .lst _, ⟨h0, xs, h, hd⟩ => ⟨h0, xs, hp.trans h, DtAll.imT e _ _ hd⟩
  | .dk _, ⟨h0, ks, h, hd⟩ => ⟨h0, ks, hp.trans h, DV.imT e hd⟩
  | .raw _, ⟨h0, h⟩ => ⟨h0, hp.trans h⟩
theorem At.perm {K : PySem.W.Frag} {B : Base} {Γ : List Sl} {Θ Θ' : List (Addr × Ob)} {σ : L2.St} {H : Hp} (a : At K B Γ Θ σ H) (h : Θ.Perm Θ') : At K B Γ Θ' σ H := ⟨a.sm, a.env, ⟨(h.map _).nodup_iff.mp a.own.nd, fun e he => a.own.ok e (h.mem_iff.mpr he)⟩, a.gh⟩
section
variable {K : PySem.W.Frag} {σ : L2.St} {H H0 : Hp} {ta tb te tf tg tl : TE} {d dx : PyData} {ds es : List PyData} {B : Base} {Γ Γ2 : List Sl} {Θ : List (Addr × Ob)} {D : Ends} {tz tbody : TS} {g : TG} {i j : Nat} {p : Addr} {l : List (Key × PyData)}
/-- for k in d: .., the own dict d locked meanwhile, other own objects changed -/
theorem q_keysM {d : Addr} {Γf : Nat → List Sl} {Θf : Nat → List (Addr × Ob)} (a : At K (.of H0) Γ ((d, .dk l) :: Θf 0) σ H) (hi : Γ[i]? = some (.v (.ref d))) (hw : Weak Γ (Γf 0))
    (hs : ∀ (G : Hp → Prop) st (n : Nat) x σ' H' D', l[n]? = some x → At K ((Base.of H0).and G st) ((Γf n).set j (.d (keyD x.1))) (Θf n) σ' H' → HasR K H' d l → tbody (Tn K ((Base.of H0).and G st) (Γf (n + 1)) (Θf (n + 1)) D') σ' H')
    (hk : ∀ σ' H', At K (.of H0) (Γf l.length) ((d, .dk l) :: Θf l.length) σ' H' → tz D σ' H') : tSeq (tLock (tFor (iKeys (tVar i)) (gName j) tbody)) tz D σ H := by
  show tLock (tFor (iKeys (tVar i)) (gName j) tbody) { D with nx := tz D } σ H
  obtain ⟨hn0, ks, hx, hv⟩ := a.own.at_ (k := 0) (p := d) (o := .dk l) rfl
  refine ⟨d, .dK ks, hx, True.intro, fun od => ?_⟩
  have ho : (upd H d (.frz od (.dK ks))) d = some (.frz od (.dK ks)) := upd_same
  refine ⟨.ref d, a.env.val hi, d, od, rfl, .inl ⟨ks, ho, ?_⟩⟩
  have st : ∀ A A' : Hp, Im A A' → (A d = some (.frz od (.dK ks)) ∧ DV K A ks l) → (A' d = some (.frz od (.dK ks)) ∧ DV K A' ks l) := fun A A' e h => ⟨e.n _ _ h.1 id, h.2.im e⟩
  have nd := List.nodup_cons.mp (show (d :: (Θf 0).map (·.1)).Nodup from a.own.nd)
  have a0 : At K ((Base.of H0).and (fun A => A d = some (.frz od (.dK ks)) ∧ DV K A ks l) st) (Γf 0) (Θf 0) σ (upd H d (.frz od (.dK ks))) :=
    ⟨sm_mut a.sm hn0, Sls.imT (lock_t hx) (hw.sls a.env), ⟨nd.2, fun e he => (a.own.ok e (List.mem_cons_of_mem _ he)).moveT (lock_t hx) (upd_ne fun z => nd.1 (z ▸ List.mem_map_of_mem he))⟩, ⟨True.intro, upd_same, hv.imT (lock_t hx)⟩⟩
  refine for_it (walk_keysD (K := K) (l := l)) (fun n σ' H' => At K ((Base.of H0).and (fun A => A d = some (.frz od (.dK ks)) ∧ DV K A ks l) st) (Γf n) (Θf n) σ' H') a0 (fun n σ' H' _ h => h.gh.2) (fun n x σ' H' H'' hn h y => ?_) fun σ' H' h => ?_
  · obtain ⟨s, dd, hdi, hx2⟩ := y
    have h2 := h.up s
    rw [List.getElem?_map] at hdi
    cases z : l[n]? with
    | none => rw [z] at hdi; cases hdi
    | some p =>
      rw [z] at hdi
      obtain rfl := Option.some.inj hdi
      show tbody _ (σ'.set j (some x)) H''
      exact hs _ st n p _ _ _ z (h2.setD hx2) ⟨ks, .inr ⟨od, h2.gh.2.1⟩, h2.gh.2.2⟩
  · rw [hv.length] at h
    have hf : H' d = some (.frz od (.dK ks)) := h.gh.2.1
    refine ⟨hf, hk σ' _ ⟨sm_mut h.sm hn0, Sls.imT (unlock_t hf) h.env, ⟨List.nodup_cons.mpr ⟨fun hm => ?_, h.own.nd⟩, fun e he => ?_⟩, True.intro⟩⟩
    · obtain ⟨e, he, rfl⟩ := List.mem_map.mp hm
      obtain ⟨u, hu, hlk⟩ := (h.own.ok e he).mut
      rw [hf] at hu
      cases hu
      exact hlk
    · rcases List.mem_cons.mp he with rfl | he
      · exact ⟨hn0, ks, upd_same, h.gh.2.2.imT (unlock_t hf)⟩
      · refine (h.own.ok e he).moveT (unlock_t hf) (upd_ne fun z => ?_)
        obtain ⟨u, hu, hlk⟩ := (h.own.ok e he).mut
        rw [z, hf] at hu
        cases hu
        exact hlk
theorem dv_eN : ∀ ns : Nms, DV K H (ns.map fun p => ((.inr p.1 : Key), V.str p.2)) (eN ns)
  | [] => .nil
  | p :: ns => .cons ⟨rfl, .str p.2⟩ (dv_eN ns)
/-- {} -/
theorem evk_new : EvK K tDNewK σ H [] := fun H1 e Q q p hp => q p _ hp (sm_new hp) ⟨[], upd_same, .nil⟩
/-- a display of written texts -/
theorem evk_dispN (ns : Nms) (hn : (ns.map (·.1)).Nodup) (hz : ns.length ≤ 15) (H1 : Hp) (p : Addr) (hp : H1 p = none) {Q : VK} (q : ∀ p H2, H1 p = none → Same H1 H2 → HasK K H2 p (eN ns) → Q (.ref p) H2) :
    (upd H1 p (.dK [])) p = some (.dK []) ∧ ∃ kvs : List (Key × V), (ns.map fun p => (V.str p.1, V.str p.2)) = kvs.map (fun kv => (kV kv.1, kv.2)) ∧ kvs.length ≤ 15 ∧ Q (.ref p) (upd (upd H1 p (.dK [])) p (.dK (mergeK [] kvs))) := by
  refine ⟨upd_same, ns.map fun p => ((.inr p.1 : Key), V.str p.2), by rw [List.map_map]; rfl, by rw [List.length_map]; exact hz, ?_⟩
  refine q p _ hp (sm_mut (sm_new hp) hp) ⟨_, upd_same, ?_⟩
  rw [mergeK_new _ [] ?hk]
  exact dv_eN ns
  case hk =>
    rw [List.nil_append, List.map_map]
    exact (List.pairwise_map.mpr ((List.pairwise_map.mp hn).imp fun h e => h (Sum.inr.inj e)))
theorem q_forN {α : Type} {l : List α} {en : α → PyData} (a : At K B Γ Θ σ H) (S : EvL K tl σ H (l.map en)) (hΓ : Weak Γ Γ2)
    (hs : ∀ p (i : Nat) (x : α) (v : V) σ' H', l[i]? = some x → At K B Γ2 ((p, .lst (l.map en)) :: Θ) σ' H' → Dt K H' v (en x) → g v σ' H' fun σ2 H2 => tbody (Tn K B Γ2 ((p, .lst (l.map en)) :: Θ) { D with nx := tz D }) σ2 H2)
    (hd : ∀ p σ' H', At K B Γ2 ((p, .lst (l.map en)) :: Θ) σ' H' → tz D σ' H') : tSeq (tFor (iList K tl) g tbody) tz D σ H := by
  show tFor (iList K tl) g tbody { D with nx := tz D } σ H
  refine S H (Same.refl H) _ fun p xs H2 hp e hx hxd => ?_
  have a2 := a.add (o := .lst (l.map en)) e hp ⟨a.sm.free hp, xs, hx, hxd⟩
  refine ⟨p, rfl, ⟨xs, SqL.of hx⟩, ?_⟩
  refine for_it (walk_listD (K := K) (ds := l.map en)) (fun i σ' H' => At K B Γ2 ((p, .lst (l.map en)) :: Θ) σ' H') (a2.weak hΓ) (fun i σ H _ h => h.hasL (k := 0) rfl) (fun i x σ' H' H'' hi h y => ?_) fun σ' H' h => hd p σ' H' h
  obtain ⟨s, d, hdi, hx⟩ := y
  rw [List.length_map] at hi
  rw [List.getElem?_map, List.getElem?_eq_getElem hi] at hdi
  obtain rfl := Option.some.inj hdi
  exact hs p i l[i] x σ' H'' (List.getElem?_eq_getElem hi) (h.up s) hx
theorem evb_quiet {CB CQ : Addr} {M : Mc} {ns : List Str} (hw : Wf M) (hn : ∀ n ∈ ns, isNm n = true) (hz : ns.length ≤ 100) (h : EvB K CB te σ H M) {tr : TA} (hr : ∀ σ H Q, Q (ns.map V.str) H → tr σ H Q) :
    EvB K CQ (StX.tMakeR CQ (fun vs H Q E => ∃ ws rest, vs = ws ++ rest ∧ ws.length = 2 ∧ rest.length ≤ sizeLine ∧ ∀ p, H p = none → SpQuiet0 K CB CQ (ws ++ [V.ref p]) (upd H p (.tup rest)) Q E) E0 (tCons te tr)) σ H (walkedM (mapW (hush ns) M)) := fun H1 e Q q =>
  h H1 e _ fun b H2 hb e2 hbx => hr σ H2 _ fun x dx hx hdx hne => by
    have e3 : Same H2 (upd (upd H2 dx (.own x)) x (.ins CQ dx [])) := (sm_new hdx).trans (sm_new (by rw [upd_ne hne.symm]; exact hx))
    refine ⟨[.ref x, .ref b], ns.map V.str, rfl, rfl, by rw [List.length_map]; exact sz_of (Nat.le_trans hz (by decide)), fun p hp => ?_⟩
    have hpx : p ≠ x := fun z => by
      rw [z, upd_same] at hp
      cases hp
    have e4 := sm_new (o := .tup (ns.map V.str)) hp
    refine ⟨x, b, p, dx, M, ns, rfl, by rw [upd_ne hpx.symm]; exact upd_same, hbx.mono (e3.trans e4), SqT.of upd_same, hz, hn, hw, hw.hushed ns, fun H' bt hq => ⟨rfl, q x H' (e2.free hx) (fun c u ec => ?_) hq⟩⟩
    refine bt c u (fun z => ?_) (((e2.trans e3).trans e4) _ _ ec)
    have := e2.free hx
    rw [← z, ec] at this
    cases this
/-- x != y of two new boxes -/
theorem evd_neB {CA CB gq : Addr} {M : Mc} (h1 : EvB K CA ta σ H M) (h2 : EvB K CB tb σ H M) (hw : Wf M) (hc : Bc K CA) (nf : PySem.W.notFirst K CA (.ref CB) = true) (no : NeOk K CA gq) : EvD K (tOp (rNeOwn K gq (SpEq K CB)) ta tb) σ H (.bool false) := fun H1 e Q q =>
  h1 H1 e _ fun x H2 hx e2 b1 => h2 H2 (e.trans e2) _ fun y H3 hy e3 b2 => by
    obtain ⟨dx, v, x1, x2⟩ := b1.mono e3
    obtain ⟨dy, u, y1, y2⟩ := b2
    refine ⟨x, CA, dx, _, y, CB, dy, _, rfl, rfl, x1, y1, nf, no, x, y, CA, M, M, rfl, hc, hw, hw, ⟨dx, v, x1, x2⟩, ⟨dy, u, y1, y2⟩, fun H4 e4 => ⟨_, rfl, ?_⟩⟩
    rw [Dt.eqv _ _ y2]
    exact q _ _ ((e2.trans e3).trans e4) (.bl _)
end
theorem bk_new : ∀ n, n < 5 → (getK (eN (bkW.take n)) (.inr ((tbW.getD n ("", "")).2))).isNone = true := by decide +kernel
section
variable {P : Program} {w : World} {K : PySem.W.Frag} {mg : Str → Option Value} {base : Heap}
abbrev s__law_check_words : Stmt := top 79
theorem sc__law_check_words : FnScope ["_law_good", "_law_table_now", "_law_other", "_law_back", "_law_word", "_law_own"] ["_law_good"] (defScope s__law_check_words) := ⟨rfl, rfl, rfl, by decide +kernel, rfl, by decide +kernel, by decide +kernel⟩
def SpCheckW (K : PySem.W.Frag) : Sp := fun vs H Q _ => ∃ v M, vs = [v] ∧ Dt K H v (eM M) ∧ MOk M ∧ ∀ H', Same H H' → Q (.bl true) H'
theorem df_check_words {CB CQ fiB fiQ gq : Addr} (T : Top mg) (F : Fn K mg "_law_check_words" "_law_check_words" s__law_check_words) (hcB : Bc K CB) (hcQ : Bc K CQ) (g_Box : mg "Box" = some (.ref CB)) (mk_Box : Mk K CB fiB) (fi_Box : FnR P w K mg base CX0 7 fiB (SpInit K)) (g_Quiet : mg "Quiet" = some (.ref CQ)) (mk_Quiet : Mk K CQ fiQ)
    (fi_Quiet : FnR P w K mg base CX0 8 fiQ (fun vs H Q E => ∃ ws rest, vs = ws ++ rest ∧ ws.length = 2 ∧ rest.length ≤ sizeLine ∧ ∀ p, H p = none → SpQuiet0 K CB CQ (ws ++ [V.ref p]) (upd H p (.tup rest)) Q E)) (fn_eq : FnR P w K mg base CX0 1 gq (SpEq K CB)) (nq : NeOk K CQ gq) (nf : PySem.W.notFirst K CQ (.ref CB) = true)
    (d__law_other_words : Df P w K mg base 1 "_law_other_words" (SpOtherW K)) (d__law_readings : Df P w K mg base 1 "_law_readings" (SpReadings K)) (d_lets_machine : Df P w K mg base 6 "lets_machine" (SpLetsMachine K)) (d_led : Df P w K mg base 4 "led" (SpLed K)) (d_said : Df P w K mg base 4 "said" (SpSaid K)) (d_walked : Df P w K mg base 2 "walked" (SpWalked K)) (d_quieted : Df P w K mg base 1 "quieted" (SpQuieted K))
    (d_machine_text : Df P w K mg base 3 "machine_text" (SpMachineText K)) : Df P w K mg base 11 "_law_check_words" (SpCheckW K) := by
  refine df_any F sc__law_check_words (fun _ _ _ _ _ _ us hl => match us, hl with | [_], _ => rfl) (fun vs H Q E ⟨_, _, h, _⟩ => by rw [h]; rfl) (fun f cdv A outer s H vs Q E hr h => ?_)
  have hu := hu_of hr
  refine ⟨_, (pss_cons (ps_set (i := 1) sc__law_check_words.nd rfl (by first | exact Or.inl rfl | exact Or.inr rfl) (pe_disp (pps_cons pe_str pe_str (pps_cons pe_str pe_str (pps_cons pe_str pe_str (pps_cons pe_str pe_str (pps_cons pe_str pe_str pps_nil))))) (by rfl) (by rfl) (fun z => by cases z) (by decide)))
      (pss_cons (ps_par (i := 2) (j := 3) rfl sc__law_check_words.nd rfl rfl (by decide) rfl rfl (pa_cons (pe_d d__law_other_words hr (by decide) rfl (pa_cons (pv 0) (pa_cons (pv 1) pa_nil))) (pa_cons pe_dnewK pa_nil)) (by rfl))
      (pss_cons (ps_lock (ps_for PassesOwn.never rfl (pi_keys (pv 1)) (pg_name (i := 4) sc__law_check_words.nd rfl (by first | exact Or.inl rfl | exact Or.inr rfl)) (pss_one (ps_dput hu (pv 3) (pe_dget hu (pv 1) (pv 4) (fun _ _ => rfl)) (pv 4) rfl))))
      (pss_cons (ps_if (PW.pt (pw_or (pt_cmpR (op_neD' K (by rfl) hr.units) (pe_d d__law_other_words hr (by decide) rfl (pa_cons (pv 2) (pa_cons (pv 3) pa_nil))) (pv 0) (nomark _)) (pw_or1 (pt_cmpR (op_neD' K (by rfl) hr.units) (pe_d d_walked hr (by decide) rfl (pa_cons (pv 2) pa_nil)) (pe_d d__law_other_words hr (by decide) rfl (pa_cons (pe_d d_walked hr (by decide) rfl (pa_cons (pv 0) pa_nil)) (pa_cons (pv 1) pa_nil))) (nomark _))))) (pss_one (ps_ret pe_bl)) pss_nil)
      (pss_cons (ps_if (pt_cmpR (op_neOwn K (by rfl) fn_eq hr (by decide)) (StX.pe_makeR mk_Quiet fi_Quiet (hr.mono (by decide)) rfl g_Quiet pass0 (pa_cons (StX.pe_makeR mk_Box fi_Box (hr.mono (by decide)) rfl g_Box pass0 (pa_cons (pv 2) pa_nil)) (pa_cons pe_str (pa_cons pe_str pa_nil)))) (StX.pe_makeR mk_Box fi_Box (hr.mono (by decide)) rfl g_Box pass0 (pa_cons (pe_d d__law_other_words hr (by decide) rfl (pa_cons (pe_d d_quieted hr (by decide) rfl (pa_cons (pv 0) (pa_cons (pe_tup (pa_cons pe_str (pa_cons pe_str pa_nil))) pa_nil))) (pa_cons (pv 1) pa_nil))) pa_nil)) (nomark _)) (pss_one (ps_ret pe_bl)) pss_nil)
      (pss_cons (ps_for PassesOwn.never rfl (pi_list' K (by rfl) (pe_d d__law_readings hr (by decide) rfl (pa_cons (pe_ix (ix_tup' K (by rfl)) (pv 0) pe_int (fun _ _ => rfl)) (pa_cons pe_int pa_nil)))) (pg_name (i := 5) sc__law_check_words.nd rfl (by first | exact Or.inl rfl | exact Or.inr rfl)) (pss_cons (ps_if (pt_cmpR (op_neD' K (by rfl) hr.units) (pe_d d_said hr (by decide) rfl (pa_cons (pv 2) (pa_cons (pv 5) pa_nil))) (pe_callTy (c_tup' K (by rfl)) (by rfl) T.tuple_ (by decide +kernel) (pa_cons (pe_lc (own := [("_law_word", 4)]) rfl sc__law_check_words.nd (pi_tup' K (by rfl) (pe_d d_said hr (by decide) rfl (pa_cons (pv 0) (pa_cons (pv 5) pa_nil)))) (blkOk_by (N := ["_law_good", "_law_table_now", "_law_other", "_law_back", "_law_word", "_law_own"]) (sc := defScope s__law_check_words) (by decide +kernel)) (fun _ _ _ _ _ => by exact (pg_name (i := 4) sc__law_check_words.nd rfl (by first | exact Or.inl rfl | exact Or.inr rfl))) (fun _ _ _ _ _ => pts_nil) (fun _ _ _ _ _ => by exact (pe_dget2 hu (pv 1) (pv 4) (pv 4) ⟨rfl, rfl, rfl, rfl⟩))) pa_nil)) (nomark _)) (pss_one (ps_ret pe_bl)) pss_nil)
      (pss_one (ps_if (pt_cmpR op_ne (pe_d d_led hr (by decide) rfl (pa_cons (pv 2) (pa_cons (pv 5) pa_nil))) (pe_d d_led hr (by decide) rfl (pa_cons (pv 0) (pa_cons (pv 5) pa_nil))) (nomark _)) (pss_one (ps_ret pe_bl)) pss_nil))))
      (pss_one (ps_ret (pe_and (pe_cmpR op_eq (pe_ix (ix_list' K (by rfl)) (pe_split (pe_d d_machine_text hr (by decide) rfl (pa_cons (pv 2) pa_nil)) pe_str) pe_int (fun _ _ => rfl)) (pe_ix (ix_list' K (by rfl)) (pe_split (pe_d d_machine_text hr (by decide) rfl (pa_cons (pv 0) pa_nil)) pe_str) pe_int (fun _ _ => rfl)) (nomark _)) (pe_one (pe_cmpR op_eq (pe_d d_lets_machine hr (by decide) rfl (pa_cons (pv 2) pa_nil)) (pe_callB (c_len' K (by rfl)) (by rfl) T.len_ (by decide +kernel) (pa_cons (pe_ix (ix_tup' K (by rfl)) (pv 0) pe_int (fun _ _ => rfl)) pa_nil)) (nomark _)))))))))))), ?_⟩
  obtain ⟨v, M, rfl, hv, hM, k⟩ := h
  have hw := hM.wf
  have hw2 := hw.tb
  have hback := hM.back
  have hwalk := hw.walk_words hw2
  have hquiet := hM.quiet
  generalize eN2 : mapW (nmOf tbW) M = N at hw2 hback hwalk hquiet
  have a : At K (.of H) [.d (eM M), .o, .o, .o, .o, .o] [] (L2.start ["_law_good", "_law_table_now", "_law_other", "_law_back", "_law_word", "_law_own"] [v]) H := ⟨Same.refl _, ⟨hv, True.intro, True.intro, True.intro, True.intro, True.intro, True.intro⟩, Own.nil, True.intro⟩
  refine' q_asgK (l := eN tbW) a (fun H1 e Q q p hp => evk_dispN tbW (by decide +kernel) (by decide) H1 p hp q) fun pt σ1 H1 a1 => ?_
  refine' q_parDK (d := eM N) (l := []) a1 (EvD.is (evd_otherW (evd_var a1 (i := 0) rfl) (evv_var a1 (i := 1) rfl) (a1.hasK (k := 0) rfl) hw) (by rw [eN2])) evk_new fun pb σ2 H2 a2 => ?_
  have a3 := a2.perm (List.Perm.swap (pt, Ob.dk (eN tbW)) (pb, Ob.dk []) [])
  refine' q_keysM (d := pt) (Γf := fun _ => [.d (eM M), .v (.ref pt), .d (eM N), .v (.ref pb), .o, .o]) (Θf := fun n => [(pb, .dk (eN (bkW.take n)))]) a3 rfl ?hw1 (fun G st n x σ' H' D' hx a4 hr4 => ?hs1) fun σ4 H4 a4 => ?_
  case hw1 => walk_at "wk"
  case hs1 =>
    rw [List.getElem?_map] at hx
    cases et : tbW[n]? with
    | none => rw [et] at hx; cases hx
    | some t =>
      rw [et] at hx
      obtain rfl := Option.some.inj hx
      have htm : t ∈ tbW := List.mem_of_getElem? et
      have hn5 : n < 5 := (List.getElem?_eq_some_iff.mp et).1
      have hnew : getK (eN (bkW.take n)) (.inr t.2) = none := by
        have := bk_new n hn5
        rw [List.getD_eq_getElem?_getD, et] at this
        exact Option.isNone_iff_eq_none.mp this
      have hsn : bkW[n]? = some (t.2, t.1) := by
        unfold bkW
        rw [List.getElem?_map, et]
        rfl
      refine' s_dput (key := .inr t.2) (d := .str t.1) a4 (evv_var a4 (i := 3) rfl) (k := 0) rfl (evd_dgetR (key := .inr t.1) (evv_var a4 (i := 1) rfl) hr4 (evd_var a4 (i := 4) rfl) (getK_mem (by decide +kernel) t htm)) (evd_var a4 (i := 4) rfl) ?hlen hnew fun H5 a5 => ?_
      case hlen =>
        rw [List.length_map, List.length_take]
        omega
      have e1 : eN (bkW.take (n + 1)) = eN (bkW.take n) ++ [((.inr t.2 : Key), PyData.str t.1)] := by
        rw [take_snoc hsn]
        exact List.map_append
      show At K _ _ [(pb, .dk (eN (bkW.take (n + 1))))] _ H5
      rw [e1]
      exact a5.weak (by walk_at "wk")
  have a5 : At K (.of H) [.d (eM M), .v (.ref pt), .d (eM N), .v (.ref pb), .o, .o] [(pt, .dk (eN tbW)), (pb, .dk (eN bkW))] σ4 H4 := a4
  clear a1 a2 a3 a4
  have htab : ∀ {Γ σ H'}, At K (.of H) Γ [(pt, .dk (eN tbW)), (pb, .dk (eN bkW))] σ H' → HasK K H' pt (eN tbW) := fun a => a.hasK (k := 0) rfl
  refine' q_no a5 (EvT.is (evt_or (a := false) (b := false) (evt_test (evd_op (EvD.is (evd_otherW (evd_var a5 (i := 2) rfl) (evv_var a5 (i := 3) rfl) (a5.hasK (k := 1) rfl) hw2) (by rw [hback])) (evd_var a5 (i := 0) rfl) (ov_neSame (hw.sh.shaped (by decide))))) fun _ => evt_test (evd_op (evd_c1 N hw2 (eva_cons (evd_var a5 (i := 2) rfl) eva_nil)) (EvD.is (evd_otherW (evd_c1 M hw (eva_cons (evd_var a5 (i := 0) rfl) eva_nil)) (evv_var a5 (i := 1) rfl) (htab a5) hw.walked) (by rw [hwalk])) (ov_neSame (hw2.walked.sh.shaped (by decide))))) rfl) fun H6 a6 => ?_
  have hwh := hw.hushed ["x", "no"]
  refine' q_no a6 (evt_test (evd_neB (M := walkedM (mapW (hush ["yes", "k"]) (walkedM N))) (evb_quiet (ns := ["yes", "k"]) hw2.walked (by decide +kernel) (by decide) (evb_box hcB hw2 (evd_var a6 (i := 2) rfl)) fun σ H Q q => q) ?hb2 (hw2.walked.hushed _).walked hcQ nf nq)) fun H7 a7 => ?_
  case hb2 =>
    rw [hquiet]
    exact evb_box hcB hwh.tb (evd_otherW (evd_c1 (I := Mc × List Str) (pre := fun i => Wf i.1) (arg := fun i => [eM i.1, eL i.2]) (res := fun i => eM (mapW (hush i.2) i.1)) (M, ["x", "no"]) hw (eva_cons (evd_var a6 (i := 0) rfl) (eva_cons (evd_tup (eva_cons evd_s (eva_cons evd_s eva_nil)) (by show 2 ≤ 100000; decide)) eva_nil))) (evv_var a6 (i := 1) rfl) (htab a6) hwh)
  refine' q_forN (l := (rdN M.L 2).1) (en := eL) (Γ2 := [.d (eM M), .v (.ref pt), .d (eM N), .v (.ref pb), .o, .o]) a7 (evl_readings (n := 2) (evd_ix0 (evd_var a7 (i := 0) rfl)) evd_i hM.l3 (by decide)) ?hw2 (fun pw m own v8 σ8 H8 hm a8 hv8 => g_name a8 hv8 fun σ9 a9 => ?hin) fun pw σ8 H8 a8 => ?hout
  case hw2 => walk_at "wk"
  case hin =>
    have hmo := List.mem_of_getElem? hm
    obtain ⟨hol, hox⟩ := (rdN_mem (L := M.L) 2).1 own hmo
    have hoxN : ∀ x ∈ own, x ∈ N.L := by
      rw [← eN2]
      exact hox
    have ok1 : RunOk (M, own, 0) := ⟨hw, hw.r0, by show own.length ≤ 1000; omega, hox⟩
    have ok2 : RunOk (N, own, 0) := ⟨hw2, hw2.r0, by show own.length ≤ 1000; omega, hoxN⟩
    have hrun := hw.words_run (nmOf tbW) hw.r0 hox
    rw [eN2] at hrun
    have hsz : (runW M own 0).length ≤ 100000 := by
      rw [runW_length]
      omega
    have hwd : SeqAt.shaped (eL (runW N own 0)) = true := shL (hw2.runW_wd own 0 hw2.r0 hoxN)
    refine' q_no a9 (evt_test (evd_op (evd_c1 (N, own) ok2 (eva_cons (evd_var a9 (i := 2) rfl) (eva_cons (evd_var a9 (i := 5) rfl) eva_nil))) (EvD.is (evd_tupL (evl_lcn (l := runW M own 0) (en := .str) (fun x => .str (nmOf tbW x)) a9 (src_tup (evd_c1 (M, own) ok1 (eva_cons (evd_var a9 (i := 0) rfl) (eva_cons (evd_var a9 (i := 5) rfl) eva_nil)))) hsz ?hj fun x σ' H10 hx a10 => ?hb)) ?he) (ov_neSame hwd))) fun H10 a10 => ?_
    case hj => decide
    case hb => exact evd_dget2 (key := .inr x) (dx := .str x) (evv_var a10 (i := 1) rfl) (a10.hasK (k := 1) rfl) (evd_var a10 (i := 4) rfl) (evd_var a10 (i := 4) rfl) (getK_eN tbW x)
    case he =>
      show PyData.tuple ((runW M own 0).map fun x => .str (nmOf tbW x)) = .tuple ((runW N own 0).map .str)
      rw [hrun.2, List.map_map]
      rfl
    refine' s_no a10 (evt_test (EvD.is (evd_op (evd_c1 (N, own) ok2 (eva_cons (evd_var a10 (i := 2) rfl) (eva_cons (evd_var a10 (i := 5) rfl) eva_nil))) (evd_c1 (M, own) ok1 (eva_cons (evd_var a10 (i := 0) rfl) (eva_cons (evd_var a10 (i := 5) rfl) eva_nil))) ov_neI) ?hq)) fun H11 a11 => a11.weak (by walk_at "wk")
    case hq =>
      show PyData.bool (!decide (((runS N own 0 : Nat) : Int) = ((runS M own 0 : Nat) : Int))) = _
      rw [hrun.1]
      simp
  case hout =>
    have hw2' : Wf (mapW (nmOf tbW) M) := by
      rw [eN2]
      exact hw2
    obtain ⟨u, d1, d2, h1, h2⟩ := hw.firsts hw2'
    rw [eN2] at h2
    have ht1 := hw.text_len
    have ht2 := hw2.text_len
    have hlen : N.R.length = M.R.length := by
      rw [← eN2]
      exact List.length_map _
    refine' f_ret (d := .bool true) a8 (EvD.is (evd_and (b := true) (EvD.is (evd_op (evd_ixEL0 (d := .str u) (ds := d2.map .str) (EvL.is (evl_split (c := 58) (evd_c1 N hw2 (eva_cons (evd_var a8 (i := 2) rfl) eva_nil)) (by omega)) (by rw [h2]; rfl))) (evd_ixEL0 (d := .str u) (ds := d1.map .str) (EvL.is (evl_split (c := 58) (evd_c1 M hw (eva_cons (evd_var a8 (i := 0) rfl) eva_nil)) (by omega)) (by rw [h1]; rfl))) ov_eqS) (by simp; rfl)) fun _ => EvD.is (evd_op (evd_c1 N hw2 (eva_cons (evd_var a8 (i := 2) rfl) eva_nil)) (evd_cb (eva_cons (evd_ix1 (evd_var a8 (i := 0) rfl)) eva_nil) cv_len) ov_eqI) ?hh2) rfl) fun v H' e hv => ?_
    case hh2 =>
      rw [List.length_map, hlen]
      simp
    rw [hv.bl_inv]
    exact k H' e
end
end K15

/-! part LB -/
set_option Elab.async false
set_option linter.all false
set_option maxRecDepth 100000
set_option maxHeartbeats 1000000
namespace K15
open PySem PySem.Spec PyProof.Rows L2 RZ
open LamX (ExtN Tabs TabB CodeO)
/-! ### the law's heap: the tables of code objects may grow -/
def noT (H : Hp) : Hp := fun b => match H b with
  | some (.tbl _) => none
  | o => o
theorem noT_sm {H : Hp} : Same (noT H) H := fun b u e => by
  unfold noT at e
  split at e
  · cases e
  · exact e
theorem noT_ne {H : Hp} {b : Addr} {u : HO} (e : noT H b = some u) : ∀ ps, u ≠ .tbl ps := fun ps z => by
  unfold noT at e
  split at e
  · cases e
  · next h => exact h ps (z ▸ e)
theorem tabs_im {Tb : List (Addr × Str)} : ∀ A A' : Hp, Im A A' → Tabs Tb A → Tabs Tb A' := fun A A' e h p hp => by
  obtain ⟨ps, h1, h2, h3⟩ := h p hp
  refine ⟨ps, e.n _ _ h1 id, h2, fun pos cv hc => ?_⟩
  obtain ⟨c, e1, e2⟩ := h3 pos cv hc
  exact ⟨c, e1, e.n _ _ e2 (by unfold CodeO; exact id)⟩
def lawB (Tb : List (Addr × Str)) (H : Hp) : Base := (Base.of (noT H)).and (Tabs Tb) tabs_im
theorem same_ext {H H' : Hp} (e : Same H H') : ExtN H H' := fun b o h _ => e b o h
theorem dt_ext {K : PySem.W.Frag} {H H' : Hp} {v : V} {d : PyData} (e : ExtN H H') (h : Dt K H v d) : Dt K H' v d := Dt.imT (extN_t e) _ _ h
theorem BoxAt.ext {K : PySem.W.Frag} {H H' : Hp} {x C : Addr} {M : Mc} (e : ExtN H H') (h : BoxAt K H x C M) : BoxAt K H' x C M := let ⟨dx, v, a, b⟩ := h; ⟨dx, v, e _ _ a (fun _ z => nomatch z), dt_ext e b⟩
theorem lk_ne {u : HO} (h : Lk u) : ∀ ps, u ≠ .tbl ps := fun ps z => by
  rw [z] at h
  exact h
section
variable {K : PySem.W.Frag} {Tb : List (Addr × Str)} {H0 H H1 : Hp} {Γ Γ2 : List Sl} {Θ : List (Addr × Ob)} {σ : L2.St}
theorem At.ext (a : At K (lawB Tb H0) Γ Θ σ H) (e : ExtN H H1) (t : Tabs Tb H1) : At K (lawB Tb H0) Γ Θ σ H1 :=
  ⟨fun b u eb => e b u (a.sm b u eb) (noT_ne eb), Sls.imT (extN_t e) a.env, ⟨a.own.nd, fun o ho => by
    obtain ⟨u, hu, hl⟩ := (a.own.ok o ho).mut
    exact (a.own.ok o ho).moveT (extN_t e) ((e _ _ hu (lk_ne hl)).trans hu.symm)⟩, ⟨True.intro, t⟩⟩
variable {te ta tb tf tg : TE} {tt tu : TT} {C C2 : Addr} {M N : Mc} {D : Ends} {ts tz : TS} {i j : Nat} {d : PyData}
/-- a new box, or one that stands, the tables grown -/
def EvBX (K : PySem.W.Frag) (Tb : List (Addr × Str)) (C : Addr) (te : TE) (σ : L2.St) (H : Hp) (M : Mc) : Prop := ∀ H1, ExtN H H1 → Tabs Tb H1 → ∀ Q : VK, (∀ x H2, ExtN H1 H2 → Tabs Tb H2 → BoxAt K H2 x C M → Q (.ref x) H2) → te σ H1 Q
def EvTX (Tb : List (Addr × Str)) (t : TT) (σ : L2.St) (H : Hp) : Prop := ∀ H1, ExtN H H1 → Tabs Tb H1 → ∀ Q : Bool → Hp → Prop, (∀ H2, ExtN H1 H2 → Tabs Tb H2 → Q false H2) → t σ H1 Q
theorem evbx_of (a : At K (lawB Tb H0) Γ Θ σ H) (h : ∀ H1, ExtN H H1 → At K (lawB Tb H0) Γ Θ σ H1 → EvB K C te σ H1 M) : EvBX K Tb C te σ H M := fun H1 e t Q q => h H1 e (a.ext e t) H1 (Same.refl _) Q fun x H2 hx e2 hb => q x H2 (same_ext e2) (t.ext e2) hb
theorem evbx_var {x : Addr} (a : At K (lawB Tb H0) Γ Θ σ H) (hi : Γ[i]? = some (.v (.ref x))) (hb : BoxAt K H x C M) : EvBX K Tb C (tVar i) σ H M := fun H1 e t Q q => ⟨.ref x, a.env.val hi, q x H1 (ExtN.refl _) t (hb.ext e)⟩
theorem evbx_ren {CR : Addr} {BC : Addr → Prop} {ns : Nms} {ks : List Str} {tk : TA} (hks : ns.map (·.1) = ks) (hC : BC C) (hw : Wf M) (hnd : ks.Nodup) (hz : ns.length ≤ 100) (hm : ∀ p ∈ ns, p.1 ∈ M.L ∧ isNm p.2 = true) (hnw : (newsOf ns M).Nodup) (hw2 : Wf (permM (newsOf ns M) M)) (h : EvBX K Tb C te σ H M)
    (hk : ∀ H1, ExtN H H1 → Tabs Tb H1 → EvA K tk σ H1 ((ns.map (·.2)).map .str)) :
    EvBX K Tb CR (tMakeRK CR 1 ks.length (fun vs zs H Q E => ∀ d, H d = none → SpRen0 K Tb CR BC (vs ++ [.ref d]) (upd H d (.dK (kwV ks zs))) Q E) (tCons te tNil) tk) σ H (walkedM (permM (newsOf ns M) M)) := fun H1 e1 t1 Q q =>
  h H1 e1 t1 _ fun b H2 e2 t2 hb => hk H2 (e1.trans e2) t2 H2 (Same.refl _) _ fun zs H3 e3 hz3 => by
    obtain rfl := hz3.strs
    subst hks
    refine ⟨rfl, by simp, fun x dx hx hdx hne d hd => ?_⟩
    have e4 : Same H3 (upd (upd H3 dx (.own x)) x (.ins CR dx [])) := (sm_new hdx).trans (sm_new (by rw [upd_ne hne.symm]; exact hx))
    have e5 : Same H3 (upd (upd (upd H3 dx (.own x)) x (.ins CR dx [])) d (.dK (kwV (ns.map (·.1)) ((ns.map (·.2)).map .str)))) := e4.trans (sm_new hd)
    have hxd : x ≠ d := fun z => by
      rw [← z, upd_same] at hd
      cases hd
    refine ⟨x, b, d, dx, C, M, ns, rfl, hC, by rw [upd_ne hxd]; exact upd_same, hb.mono (e3.trans e5), ⟨_, upd_same, ?_⟩, t2.ext (e3.trans e5), hnd, hz, hm, hnw, hw, hw2, fun H' bx hbx => ⟨rfl, q x H' (fun c u ec nt => bx.1 c u (fun z => ?_) (e5 _ _ (e3 _ _ (e2 c u ec nt))) nt) bx.2 hbx⟩⟩
    · have : ((ns.map (·.2)).map V.str) = ns.map fun p => V.str p.2 := by rw [List.map_map]; rfl
      rw [this]
      exact kwV_eN ns
    · have := e3 _ _ (e2 c u ec nt)
      rw [z, hx] at this
      cases this
/-- x != y of two boxes -/
theorem evtx_ne {CB gq : Addr} (h1 : EvBX K Tb C ta σ H M) (h2 : EvBX K Tb CB tb σ H M) (hw : Wf M) (hc : Bc K C) (nf : PySem.W.notFirst K C (.ref CB) = true) (no : NeOk K C gq) : EvTX Tb (tTest (tOp (rNeOwn K gq (SpEq K CB)) ta tb)) σ H := fun H1 e t Q q =>
  h1 H1 e t _ fun x H2 e2 t2 b1 => h2 H2 (e.trans e2) t2 _ fun y H3 e3 t3 b2 => by
    obtain ⟨dx, v, x1, x2⟩ := b1.ext e3
    obtain ⟨dy, u, y1, y2⟩ := b2
    refine ⟨x, C, dx, _, y, CB, dy, _, rfl, rfl, x1, y1, nf, no, x, y, C, M, M, rfl, hc, hw, hw, ⟨dx, v, x1, x2⟩, ⟨dy, u, y1, y2⟩, fun H4 e4 => ⟨_, rfl, ?_⟩⟩
    rw [Dt.eqv _ _ y2]
    exact ⟨_, rfl, q H4 ((e2.trans e3).trans (same_ext e4)) (t3.ext e4)⟩
theorem evtx_or (h1 : EvTX Tb tt σ H) (h2 : EvTX Tb tu σ H) : EvTX Tb (tOr tt tu) σ H := fun H1 e t Q q => h1 H1 e t _ fun H2 e2 t2 => by
  show tu σ H2 Q
  exact h2 H2 (e.trans e2) t2 Q fun H3 e3 t3 => q H3 (e2.trans e3) t3
theorem s_noX (a : At K (lawB Tb H0) Γ Θ σ H) (h : EvTX Tb tt σ H) (k : ∀ H', ExtN H H' → At K (lawB Tb H0) Γ Θ σ H' → D.nx σ H') : tIfS tt ts tNext D σ H := h H (ExtN.refl _) a.gh.2 _ fun H1 e t => k H1 e (a.ext e t)
theorem q_noX (a : At K (lawB Tb H0) Γ Θ σ H) (h : EvTX Tb tt σ H) (k : ∀ H', ExtN H H' → At K (lawB Tb H0) Γ Θ σ H' → tz D σ H') : tSeq (tIfS tt ts tNext) tz D σ H := s_noX (D := { D with nx := tz D }) a h k
/-- a, b = e, f of two boxes -/
theorem q_parX (a : At K (lawB Tb H0) Γ Θ σ H) (h1 : EvBX K Tb C tf σ H M) (h2 : EvBX K Tb C2 tg σ H N) (k : ∀ x y σ' H', BoxAt K H' x C M → BoxAt K H' y C2 N → At K (lawB Tb H0) ((Γ.set i (.v (.ref x))).set j (.v (.ref y))) Θ σ' H' → tz D σ' H') : tSeq (tPar i j (tCons tf (tCons tg tNil))) tz D σ H :=
  h1 H (ExtN.refl _) a.gh.2 _ fun x H1 e1 t1 b1 => h2 H1 e1 t1 _ fun y H2 e2 t2 b2 => ⟨_, _, rfl, k x y _ H2 (b1.ext e2) b2 (a.ext (e1.trans e2) t2).setV.setV⟩
end
/-! ### more of own objects -/
section
variable {K : PySem.W.Frag} {σ : L2.St} {H : Hp} {te tl tf tg : TE} {d : PyData} {ds : List PyData} {B : Base} {Γ Γ2 : List Sl} {Θ : List (Addr × Ob)} {D : Ends} {tz tbody : TS} {g : TG} {i j k k2 : Nat} {p pr ps : Addr} {l : List (Key × PyData)} {x y : Int} {ns : List Int} {n : Nat}
theorem q_parLK (a : At K B Γ Θ σ H) (h1 : EvL K tf σ H ds) (h2 : EvK K tg σ H l) (q : ∀ p r σ' H', At K B ((Γ.set i (.v (.ref p))).set j (.v (.ref r))) ((r, .dk l) :: (p, .lst ds) :: Θ) σ' H' → tz D σ' H') : tSeq (tPar i j (tCons tf (tCons tg tNil))) tz D σ H :=
  h1 H (Same.refl H) _ fun p xs H1 hp e hl hd => h2 H1 e _ fun r H2 hr e2 hk => by
    have a1 := a.add (o := .lst ds) e hp ⟨a.sm.free hp, xs, hl, hd⟩
    have a2 := a1.add (o := .dk l) e2 hr ⟨a1.sm.free hr, hk⟩
    exact ⟨_, _, rfl, q p r _ H2 a2.setV.setV⟩
/-- a, b = e, f by a tuple -/
theorem q_tupLK (a : At K B Γ Θ σ H) (h1 : EvL K tf σ H ds) (h2 : EvK K tg σ H l) (q : ∀ p r σ' H', At K B ((Γ.set i (.v (.ref p))).set j (.v (.ref r))) ((r, .dk l) :: (p, .lst ds) :: Θ) σ' H' → tz D σ' H') : tSeq (tAsg (tTup (tCons tf (tCons tg tNil))) (gTup K 2 (gCons (gName i) (gCons (gName j) gNil)))) tz D σ H :=
  h1 H (Same.refl H) _ fun p xs H1 hp e hl hd => h2 H1 e _ fun r H2 hr e2 hk => by
    have a1 := a.add (o := .lst ds) e hp ⟨a.sm.free hp, xs, hl, hd⟩
    have a2 := a1.add (o := .dk l) e2 hr ⟨a1.sm.free hr, hk⟩
    refine ⟨by show 2 ≤ sizeLine; decide, fun t ht => ?_⟩
    have a3 := a2.up (sm_new (o := .tup [V.ref p, V.ref r]) ht)
    exact ⟨t, [.ref p, .ref r], rfl, SqT.of upd_same, rfl, _, [_], rfl, _, [], rfl, rfl, q p r _ _ a3.setV.setV⟩
/-- a for over an own list, its body changing own objects; t: what is told of them -/
theorem q_forLM {α τ : Type} {l : List α} {en : α → PyData} {Θf : τ → List (Addr × Ob)} {t0 : τ} (Ok : Nat → τ → Prop) (a : At K B Γ (Θf t0) σ H) (S : EvV tl σ H (.ref p)) (hp : ∀ t, ∃ k : Nat, (Θf t)[k]? = some (p, Ob.lst (l.map en))) (hw : Weak Γ Γ2) (h0 : Ok 0 t0)
    (hs : ∀ (i : Nat) (x : α) (v : V) (t : τ) σ' H' D', l[i]? = some x → Ok i t → At K B Γ2 (Θf t) σ' H' → Dt K H' v (en x) → (∀ t' σ2 H2, Ok (i + 1) t' → At K B Γ2 (Θf t') σ2 H2 → D'.nx σ2 H2) → D'.rt = D.rt → g v σ' H' fun σ2 H2 => tbody D' σ2 H2)
    (hd : ∀ t σ' H', Ok l.length t → At K B Γ2 (Θf t) σ' H' → tz D σ' H') : tSeq (tFor (iList K tl) g tbody) tz D σ H := by
  show tFor (iList K tl) g tbody { D with nx := tz D } σ H
  refine S H (Same.refl H) _ fun H2 e => ?_
  have hL : HasL K H p (l.map en) := let ⟨k, h⟩ := hp t0; a.hasL h
  obtain ⟨xs, hx, hxd⟩ := hL
  refine ⟨p, rfl, ⟨xs, SqL.of (e _ _ hx)⟩, ?_⟩
  refine for_it (walk_listD (K := K) (ds := l.map en)) (fun i σ' H' => ∃ t, Ok i t ∧ At K B Γ2 (Θf t) σ' H') ⟨t0, h0, (a.up e).weak hw⟩ (fun i σ H _ ⟨t, _, h⟩ => let ⟨k, z⟩ := hp t; h.hasL z) (fun i x σ' H' H'' hi ⟨t, ok, h⟩ y => ?_) fun σ' H' ⟨t, ok, h⟩ => ?_
  · obtain ⟨s, d, hdi, hx⟩ := y
    rw [List.length_map] at hi
    rw [List.getElem?_map, List.getElem?_eq_getElem hi] at hdi
    obtain rfl := Option.some.inj hdi
    exact hs i l[i] x t σ' H'' _ (List.getElem?_eq_getElem hi) ok (h.up s) hx (fun t' σ2 H2 ok' h' => ⟨t', ok', h'⟩) rfl
  · rw [List.length_map] at ok
    exact hd t σ' H' ok h
/-- the reader read on by a def -/
theorem at_rdto {n' : Nat} (a : At K B Γ Θ σ H) (hk : Θ[k]? = some (pr, .raw [.ref ps, .int x, .int y, .int ((n : Nat) : Int)])) {H' : Hp} (h : RdTo H H' pr ps n') : ∃ x' y', At K B Γ (Θ.set k (pr, .raw [.ref ps, .int x', .int y', .int ((n' : Nat) : Int)])) σ H' := by
  obtain ⟨bt, x', y', hr⟩ := h
  refine ⟨x', y', (a.put hk (u := .lst [.ref ps, .int x', .int y', .int ((n' : Nat) : Int)]) (o' := .raw [.ref ps, .int x', .int y', .int ((n' : Nat) : Int)]) ⟨(a.own.at_ hk).1, upd_same⟩).up fun b u e => ?_⟩
  by_cases hb : b = pr
  · subst hb
    rw [upd_same] at e
    cases e
    exact hr
  · rw [upd_ne hb] at e
    exact bt b u hb e
theorem rd_at (a : At K B Γ Θ σ H) (hk : Θ[k]? = some (pr, .raw [.ref ps, .int x, .int y, .int ((n : Nat) : Int)])) (hk2 : Θ[k2]? = some (ps, .lst (eI ns))) (hz : ns.length ≤ 63) : RdAt K H pr ps ns n := by
  have hr := (a.own.at_ hk).2
  obtain ⟨xs, hx, hd⟩ := a.hasL hk2
  refine ⟨x, y, hr, ?_, ⟨xs, hx, hd⟩, hz⟩
  rintro rfl
  rw [hx] at hr
  cases hr
  cases ns with
  | nil => cases hd
  | cons c ns =>
    cases hd with
    | cons h _ => cases h
/-- d[k] = v at an own dict, k new -/
theorem put_at {key : Key} {v : V} (a : At K B Γ Θ σ H) (h : Θ[k]? = some (p, .dk l)) (hv : Dt K H v d) (hl : l.length < 100000) (hn : getK l key = none) : ∃ H4, DPut H p (kV key) v H4 ∧ At K B Γ (Θ.set k (p, .dk (l ++ [(key, d)]))) σ H4 := by
  obtain ⟨ks, hx, hd⟩ := a.hasK h
  have pn : putK ks key v = ks ++ [(key, v)] := putK_new v (hd.none hn)
  refine ⟨_, DPut.k hx (by rw [hd.length]; exact sz_lt hl), a.put h ⟨(a.own.at_ h).none, _, upd_same, ?_⟩⟩
  rw [pn]
  have im : Im H (upd H p (.dK (ks ++ [(key, v)]))) := im_upd fun o e => by
    rw [hx] at e
    cases e
    exact True.intro
  exact (hd.snoc hv).im im
/-- a display of written texts, as a value -/
theorem evk_dict (ms : Nms) (hn : (ms.map (·.1)).Nodup) (hz : ms.length ≤ 15) (h : ∀ (σ : L2.St) (H1 : Hp) (Q : VK), (∀ p, H1 p = none → (upd H1 p (.dK [])) p = some (.dK []) ∧ ∃ kvs : List (Key × V), (ms.map fun p => (V.str p.1, V.str p.2)) = kvs.map (fun kv => (kV kv.1, kv.2)) ∧ kvs.length ≤ 15 ∧ Q (.ref p) (upd (upd H1 p (.dK [])) p (.dK (mergeK [] kvs)))) → te σ H1 Q) : EvK K te σ H (eN ms) := fun H1 e Q q => h σ H1 Q fun p hp => evk_dispN ms hn hz H1 p hp q
def rDictP (K : PySem.W.Frag) : List V → Hp → VK → Prop := fun xs H Q => ∃ (a : Addr) (ps : List Addr) (kvs : List (Key × V)), xs = [.ref a] ∧ SqL K H a (ps.map V.ref) ∧ Paired (fun p kv => SqT K H p [kV kv.1, kv.2]) ps kvs ∧ ∀ p, H p = none → Q (.ref p) (upd H p (.dK (mergeK [] kvs)))
theorem c_dictP {X : Cx} (K : PySem.W.Frag) (hK : X.K = K) (hc : X.calm = true) : CallR X (.type "dict") (rDictP K) := by subst hK; exact call_dictP hc
theorem pairs_dt : ∀ {ms : Nms} {xs : List V}, DtAll K H xs (ms.map fun p => PyData.tuple [.str p.1, .str p.2]) → ∃ ps : List Addr, xs = ps.map V.ref ∧ Paired (fun p (kv : Key × V) => SqT K H p [kV kv.1, kv.2]) ps (ms.map fun p => ((.inr p.1 : Key), V.str p.2))
  | [], _, h => by
    cases h
    exact ⟨[], rfl, .nil⟩
  | m :: ms, _, h => by
    cases h with
    | cons h1 h2 =>
      obtain ⟨a, ys, rfl, hs, hy⟩ := h1.tup_inv
      obtain ⟨v, w, rfl, hv, hw⟩ := hy.two
      obtain ⟨ps, rfl, hp⟩ := pairs_dt h2
      refine ⟨a :: ps, rfl, .cons ?_ hp⟩
      rw [hv.str_inv, hw.str_inv] at hs
      exact hs
theorem evk_pairs {ms : Nms} (h : EvL K te σ H (ms.map fun p => PyData.tuple [.str p.1, .str p.2])) (hn : (ms.map (·.1)).Nodup) : EvK K (tCB (rDictP K) (tCons te tNil)) σ H (eN ms) := fun H1 e Q q => h H1 e _ fun a xs H2 ha e2 hx hd => by
  obtain ⟨ps, rfl, hp⟩ := pairs_dt hd
  refine ⟨a, ps, _, rfl, SqL.of hx, hp, fun p hp => ?_⟩
  refine q p _ (e2.free hp) (e2.trans (sm_new hp)) ⟨_, upd_same, ?_⟩
  rw [mergeK_new _ [] ?hk]
  exact dv_eN ms
  case hk =>
    rw [List.nil_append, List.map_map]
    exact (List.pairwise_map.mpr ((List.pairwise_map.mp hn).imp fun h e => h (Sum.inr.inj e)))
/-! ### the checks as they are called -/
variable {t1 t2 t3 : TE} {ms : Nms} {M : Mc} {b : Bool}
theorem evd_checkL (h1 : EvD K t1 σ H (eM M)) (h2 : EvV t2 σ H (.ref p)) (h3 : EvD K t3 σ H (.bool b)) (hd : HasK K H p (eN ms)) (hM : MOk M) (hn : NOk ms M) (hb : b = true → (newsOf ms M).Pairwise leT) : EvD K (tCallR (SpCheckL K) (tCons t1 (tCons t2 (tCons t3 tNil)))) σ H (.bool true) := fun H1 e Q q =>
  h1 H1 e _ fun v H2 e2 hv => h2 H2 (e.trans e2) _ fun H3 e3 => h3 H3 ((e.trans e2).trans e3) _ fun u H4 e4 hu => by
    cases hu
    exact ⟨p, v, ms, M, b, rfl, hd.mono (((e.trans e2).trans e3).trans e4), (hv.mono e3).mono e4, hM, hn, hb, fun H' e5 => q _ H' (((e2.trans e3).trans e4).trans e5) (.bl _)⟩
theorem evd_checkW (h1 : EvD K t1 σ H (eM M)) (hM : MOk M) : EvD K (tCallR (SpCheckW K) (tCons t1 tNil)) σ H (.bool true) := fun H1 e Q q =>
  h1 H1 e _ fun v H2 e2 hv => ⟨v, M, rfl, hv, hM, fun H' e5 => q _ H' (e2.trans e5) (.bl _)⟩
theorem evd_otherLK (h1 : EvD K t1 σ H (eM M)) (h2 : EvK K t2 σ H (eN ms)) (hw : Wf M) (n : NOk ms M) : EvD K (tCallR (SpOtherL K) (tCons t1 (tCons t2 tNil))) σ H (eM (permM (newsOf ms M) M)) := fun H1 e Q q =>
  h1 H1 e _ fun v H2 e2 hv => h2 H2 (e.trans e2) _ fun p H3 hp e3 hd => ⟨p, v, ms, M, rfl, hd, hv.mono e3, hw, n.has, n.nd, fun u H' e4 hu => q u H' ((e2.trans e3).trans e4) hu⟩
end
end K15

/-! part LC -/
set_option Elab.async false
set_option linter.all false
set_option maxRecDepth 100000
set_option maxHeartbeats 2000000
namespace K15
open PySem PySem.Spec PyProof.Rows L2 RZ
open LamX (ExtN Tabs TabB CodeO)
/-! ### steps by a word -/
local macro_rules | `(tactic| walk_at "ov") => `(tactic| first
  | with_reducible exact ov_eqS
  | with_reducible exact ov_eqI
  | with_reducible exact ov_neS
  | with_reducible exact ov_neI
  | with_reducible exact ov_neB
  | with_reducible exact ov_ltS
  | with_reducible exact ov_inS
  | with_reducible exact ov_I0 (fun _ => Dt.int _)
  | with_reducible exact ov_I0 (fun _ => Dt.bl _))
local macro_rules | `(tactic| walk_at "ev") => `(tactic| first
  | with_reducible exact evd_i
  | with_reducible exact evd_s
  | with_reducible exact evd_b
  | with_reducible exact evd_n
  | ((with_reducible refine' evd_var (by assumption) ?hv); (case hv => rfl))
  | with_reducible assumption
  | ((with_reducible refine' evd_op ?ha ?hb ?hr); (case ha => walk_at "ev"); (case hb => walk_at "ev"); (case hr => walk_at "ov"))
  | ((with_reducible refine' evd_and ?ha (fun hc => ?hb)); (case ha => walk_at "ev"); (case hb => walk_at "ev"))
  | ((with_reducible refine' evd_or ?ha (fun hc => ?hb)); (case ha => walk_at "ev"); (case hb => walk_at "ev"))
  | ((with_reducible refine' evd_not ?ha); (case ha => walk_at "ev"))
  | ((with_reducible refine' evd_isi ?ha ?hb); (case ha => walk_at "ev"); (case hb => first | exact kb_ii | exact kb_ib | exact kb_ss | exact kb_tt))
  | ((with_reducible refine' evd_tup ?ha ?hb); (case ha => walk_at "ea"); (case hb => first | decide | (simp only [List.length_cons, List.length_nil]; omega)))
  | ((with_reducible refine' evd_chain ?ha ?hb ?hc ?h1 ?h2); (case ha => walk_at "ev"); (case hb => walk_at "ev"); (case hc => walk_at "ev"); (case h1 => walk_at "ov"); (case h2 => walk_at "ov"))
  | ((with_reducible refine' evd_cb ?ha ?hb); (case ha => walk_at "ea"); (case hb => first | with_reducible exact cv_len | with_reducible exact cv_max2 | with_reducible exact cv_int1 | ((with_reducible refine' cv_lenS ?hz); (case hz => omega))))
  | ((with_reducible refine' evd_c1 _ ?hp ?ha); (case ha => walk_at "ea"); (case hp => first | exact True.intro | assumption | (show _ ≤ _; omega))))
local macro_rules | `(tactic| walk_at "ea") => `(tactic| first
  | with_reducible exact eva_nil
  | ((with_reducible refine' eva_cons ?ha ?hb); (case ha => walk_at "ev"); (case hb => walk_at "ea")))
local macro_rules | `(tactic| walk_at "et") => `(tactic| first
  | with_reducible assumption
  | ((with_reducible refine' evt_test ?ha); (case ha => walk_at "ev"))
  | ((with_reducible refine' evt_B ?ha); (case ha => walk_at "ev"))
  | ((with_reducible refine' evt_and ?ha (fun hc => ?hb)); (case ha => walk_at "et"); (case hb => walk_at "et"))
  | ((with_reducible refine' evt_or ?ha (fun hc => ?hb)); (case ha => walk_at "et"); (case hb => walk_at "et"))
  | ((with_reducible refine' evt_not ?ha); (case ha => walk_at "et")))

local macro_rules | `(tactic| walk_at "wk") => `(tactic| first
  | exact Weak.nil
  | ((refine' Weak.keep ?h); (case h => walk_at "wk"))
  | ((refine' Weak.drop ?h); (case h => walk_at "wk")))

theorem EvBX.is {K : PySem.W.Frag} {Tb : List (Addr × Str)} {C : Addr} {te : TE} {σ : L2.St} {H : Hp} {M N : Mc} (h : EvBX K Tb C te σ H M) (e : M = N) : EvBX K Tb C te σ H N := e ▸ h
theorem EvB.is {K : PySem.W.Frag} {C : Addr} {te : TE} {σ : L2.St} {H : Hp} {M N : Mc} (h : EvB K C te σ H M) (e : M = N) : EvB K C te σ H N := e ▸ h
theorem seq_nat {v m : Nat} (h : v < m) : seqIndex? (v : Int) m = some v := by
  unfold seqIndex?
  rw [if_neg (show ¬ (v : Int) < 0 by omega)]
  simp
  omega
theorem erase_map {α β : Type} (f : α → β) : ∀ (l : List α) (i : Nat), (l.map f).eraseIdx i = (l.eraseIdx i).map f
  | [], _ => rfl
  | _ :: _, 0 => rfl
  | a :: l, i + 1 => congrArg (f a :: ·) (erase_map f l i)
theorem erase_perm {α : Type} : ∀ {l : List α} {i : Nat} (h : i < l.length), (l[i] :: l.eraseIdx i).Perm l
  | a :: l, 0, _ => List.Perm.refl _
  | a :: l, i + 1, h => (List.Perm.swap a (l[i]'(by simpa using h)) (l.eraseIdx i)).trans ((erase_perm (l := l) (i := i) (by simpa using h)).cons a)
theorem q_asgE {K : PySem.W.Frag} {σ : L2.St} {H : Hp} {te : TE} {d : PyData} {B : Base} {Γ : List Sl} {Θ : List (Addr × Ob)} {D : Ends} {tz : TS} {i : Nat} (a : At K B Γ Θ σ H) (h : EvD K te σ H d) (k : ∀ σ' H', Same H H' → At K B (Γ.set i (.d d)) Θ σ' H' → tz D σ' H') : tSeq (tAsg te (gName i)) tz D σ H := h H (Same.refl H) _ fun v H1 e hv => k _ H1 e ((a.up e).setD hv)
theorem evl_fixed {K : PySem.W.Frag} {σ : L2.St} {H : Hp} : EvL K (tCallR (SpFixed K) tNil) σ H (fixedM.map eM) := fun H1 e Q q => ⟨rfl, fun p H' e2 hp hl => let ⟨xs, hx, hd⟩ := hl; q p xs H' hp e2 hx hd⟩
abbrev SpRenK (K : PySem.W.Frag) (Tb : List (Addr × Str)) (CR : Addr) (BC : Addr → Prop) (ks : List Str) : SpK := fun vs zs H Q E => ∀ d, H d = none → SpRen0 K Tb CR BC (vs ++ [.ref d]) (upd H d (.dK (kwV ks zs))) Q E
section
variable {P : Program} {w : World} {K : PySem.W.Frag} {mg : Str → Option Value} {base : Heap}
theorem fok_any {k : Nat} {nm qual : Str} {st : Stmt} {f : Addr} {fd : FuncData} {N ps : List Str} {sp : Sp} (F : FunD K nm qual (defArgs st) (defBody st) (defScope st) [] [] f fd) (S : FnScope N ps (defScope st)) (len : ∀ vs H Q E, sp vs H Q E → vs.length = ps.length)
    (hbody : ∀ (cdv : Value) (A : Around) (outer : List Env) (s : Shared) (H : Hp) (vs : List V) (Q : VK) (E : XK), Room k (A.deeper (envOfC qual (defScope st) s.heap.objs.size f cdv)) → sp vs H Q E →
      ∃ t, PSs (cxOf CX0 P w K mg base N qual (defScope st) f cdv A outer s H E).nox (defBody st) t ∧ t { nx := fun _ H' => Q .non H', rt := Q } (L2.start N vs) H) : FnOk P w K mg base CX0 (k + 1) f fd ps sp := by
  refine F.ok S len fun cdv A outer s H vs Q E hr h => ?_
  obtain ⟨t, a, b⟩ := hbody cdv A outer s H vs Q E hr h
  exact ⟨t, a.nox, b⟩
abbrev s_law : Stmt := top 80
theorem sc_law : FnScope ["_law_script", "_law_reader_here", "_law_lots", "_law_turn", "_law_good", "_law_pool", "_law_named", "_law_letter", "_law_rising", "_law_kept", "_law_j", "_law_box", "_law_other", "_law_turned"] ["_law_script"] (defScope s_law) := ⟨rfl, rfl, rfl, by decide +kernel, rfl, by decide +kernel, by decide +kernel⟩
def SpLaw (K : PySem.W.Frag) (Tb : List (Addr × Str)) : Sp := fun vs H Q _ => ∃ (l : Addr) (ns : List Int), vs = [.ref l] ∧ SqL K H l (ns.map V.int) ∧ ns.length ≤ 63 ∧ Tabs Tb H ∧ ∀ H', Q (.bl true) H'
theorem ok_law {f : Addr} {fd : FuncData} {CB CR fiB fiR gq : Addr} {Tb : List (Addr × Str)} (T : Top mg) (F : FunD K "law" "law" (defArgs s_law) (defBody s_law) (defScope s_law) [] [] f fd) (hcB : Bc K CB) (hcR : Bc K CR) (g_Box : mg "Box" = some (.ref CB)) (mk_Box : Mk K CB fiB) (fi_Box : FnR P w K mg base CX0 7 fiB (SpInit K))
    (g_Renamed : mg "Renamed" = some (.ref CR)) (mk_Renamed : Mk K CR fiR) (fr : ∀ ks : List Str, ks ∈ ([["a", "b"], ["b", "a"], ["a"], ["zz"]] : List (List Str)) → FnRK P w K mg base 8 fiR 2 ks (SpRenK K Tb CR (fun C => C = CB ∨ C = CR) ks)) (fn_eq : FnR P w K mg base CX0 1 gq (SpEq K CB)) (nq : NeOk K CR gq) (nf : PySem.W.notFirst K CR (.ref CB) = true)
    (d__law_reader : Df P w K mg base 1 "_law_reader" (SpReader K)) (d__law_draw : Df P w K mg base 1 "_law_draw" (SpDraw K)) (d__law_random_letters : Df P w K mg base 2 "_law_random_letters" (SpRandL K)) (d__law_random_machine : Df P w K mg base 2 "_law_random_machine" (SpRandM K)) (d__law_fixed_machines : Df P w K mg base 1 "_law_fixed_machines" (SpFixed K))
    (d__law_other_letters : Df P w K mg base 1 "_law_other_letters" (SpOtherL K)) (d__law_check_letters : Df P w K mg base 11 "_law_check_letters" (SpCheckL K)) (d__law_check_words : Df P w K mg base 11 "_law_check_words" (SpCheckW K)) : FnOk P w K mg base CX0 12 f fd ["_law_script"] (SpLaw K Tb) := by
  refine fok_any F sc_law (fun vs H Q E ⟨_, _, h, _⟩ => by rw [h]; rfl) (fun cdv A outer s H vs Q E hr h => ?_)
  have hu := hu_of hr
  have fr_ab := fr ["a", "b"] (by decide)
  have fr_ba := fr ["b", "a"] (by decide)
  have fr_a := fr ["a"] (by decide)
  have fr_zz := fr ["zz"] (by decide)
  refine ⟨_, (pss_cons (ps_set (i := 1) sc_law.nd rfl (by first | exact Or.inl rfl | exact Or.inr rfl) (pe_d d__law_reader hr (by decide) rfl (pa_cons (pv 0) pa_nil)))
      (pss_cons (ps_set (i := 2) sc_law.nd rfl (by first | exact Or.inl rfl | exact Or.inr rfl) (pe_d0 d__law_fixed_machines hr (by decide) rfl))
      (pss_cons (ps_for PassesOwn.never rfl (pi_range1 (by rfl) T.range_ (pa_cons pe_int pa_nil)) (pg_name (i := 3) sc_law.nd rfl (by first | exact Or.inl rfl | exact Or.inr rfl)) (pss_one (ps_expr (pe_bm PySem.F.plainAttrs_list PySem.F.slot_list_append PySem.F.type_list_append mt_append (pv 2) (pa_cons (pe_d d__law_random_machine hr (by decide) rfl (pa_cons (pv 1) (pa_cons (pe_d d__law_random_letters hr (by decide) rfl (pa_cons (pv 1) pa_nil)) (pa_cons pe_int pa_nil)))) pa_nil)))))
      (pss_cons (ps_for PassesOwn.never rfl (pi_list' K (by rfl) (pv 2)) (pg_name (i := 4) sc_law.nd rfl (by first | exact Or.inl rfl | exact Or.inr rfl)) (pss_cons (ps_asg (pe_tup (pa_cons (pe_lst (pa_cons pe_str (pa_cons pe_str (pa_cons pe_str (pa_cons pe_str (pa_cons pe_str (pa_cons pe_str pa_nil))))))) (pa_cons pe_dnewK pa_nil))) (pg_pair K (by rfl) (i := 5) (j := 6) rfl sc_law.nd rfl rfl (by first | exact Or.inl rfl | exact Or.inr rfl) (by first | exact Or.inl rfl | exact Or.inr rfl) (by first | exact Or.inl rfl | exact Or.inr rfl) (by first | exact Or.inl rfl | exact Or.inr rfl)))
      (pss_cons (ps_for PassesOwn.never rfl (pi_tup' K (by rfl) (pe_ix (ix_tup' K (by rfl)) (pv 4) pe_int (fun _ _ => rfl))) (pg_name (i := 7) sc_law.nd rfl (by first | exact Or.inl rfl | exact Or.inr rfl)) (pss_one (ps_dput hu (pv 6) (pv 7) (pe_bm PySem.F.plainAttrs_list PySem.F.slot_list_pop PySem.F.type_list_pop mt_popAt (pv 5) (pa_cons (pe_d d__law_draw hr (by decide) rfl (pa_cons (pv 1) (pa_cons (pe_callB (c_len' K (by rfl)) (by rfl) T.len_ (by decide +kernel) (pa_cons (pv 5) pa_nil)) pa_nil))) pa_nil)) rfl)))
      (pss_cons (ps_set (i := 8) sc_law.nd rfl (by first | exact Or.inl rfl | exact Or.inr rfl) (pe_callB (cr_sortD K (by rfl) hr.units) (by rfl) T.sorted_ (by decide +kernel) (pa_cons (pe_lc (own := [("_law_letter", 7)]) rfl sc_law.nd (pi_tup' K (by rfl) (pe_ix (ix_tup' K (by rfl)) (pv 4) pe_int (fun _ _ => rfl))) (blkOk_by (N := ["_law_script", "_law_reader_here", "_law_lots", "_law_turn", "_law_good", "_law_pool", "_law_named", "_law_letter", "_law_rising", "_law_kept", "_law_j", "_law_box", "_law_other", "_law_turned"]) (sc := defScope s_law) (by decide +kernel)) (fun _ _ _ _ _ => by exact (pg_name (i := 7) sc_law.nd rfl (by first | exact Or.inl rfl | exact Or.inr rfl))) (fun _ _ _ _ _ => pts_nil) (fun _ _ _ _ _ => by exact (pe_dget hu (pv 6) (pv 7) (fun _ _ => rfl)))) pa_nil)))
      (pss_cons (ps_set (i := 9) sc_law.nd rfl (by first | exact Or.inl rfl | exact Or.inr rfl) (pe_callTy (c_dictP K (by rfl) rfl) (by rfl) T.dict_ (by decide +kernel) (pa_cons (pe_lc (own := [("_law_j", 10)]) rfl sc_law.nd (pi_range1 (by rfl) T.range_ (pa_cons (pe_callB (c_len' K (by rfl)) (by rfl) T.len_ (by decide +kernel) (pa_cons (pv 8) pa_nil)) pa_nil)) (blkOk_by (N := ["_law_script", "_law_reader_here", "_law_lots", "_law_turn", "_law_good", "_law_pool", "_law_named", "_law_letter", "_law_rising", "_law_kept", "_law_j", "_law_box", "_law_other", "_law_turned"]) (sc := defScope s_law) (by decide +kernel)) (fun _ _ _ _ _ => by exact (pg_name (i := 10) sc_law.nd rfl (by first | exact Or.inl rfl | exact Or.inr rfl))) (fun _ _ _ _ _ => pts_nil) (fun _ _ _ _ _ => by exact (pe_tup (pa_cons (pe_ix (ix_tup' K (by rfl)) (pe_ix (ix_tup' K (by rfl)) (pv 4) pe_int (fun _ _ => rfl)) (pv 10) (fun _ _ => rfl)) (pa_cons (pe_ix (ix_list' K (by rfl)) (pv 8) (pv 10) (fun _ _ => rfl)) pa_nil))))) pa_nil)))
      (pss_cons (ps_if (PW.pt (pw_or (pt_not (pt_val (pe_d d__law_check_letters hr (by decide) rfl (pa_cons (pv 4) (pa_cons (pv 6) (pa_cons pe_bl pa_nil)))))) (pw_or1 (pt_not (pt_val (pe_d d__law_check_letters hr (by decide) rfl (pa_cons (pv 4) (pa_cons (pv 9) (pa_cons pe_bl pa_nil))))))))) (pss_one (ps_ret pe_bl)) pss_nil)
      (pss_cons (ps_if (pt_not (pt_val (pe_d d__law_check_words hr (by decide) rfl (pa_cons (pv 4) pa_nil)))) (pss_one (ps_ret pe_bl)) pss_nil)
      (pss_one (ps_if (pt_cmpR (op_eqD' K (by rfl) hr.units) (pe_ix (ix_tup' K (by rfl)) (pv 4) pe_int (fun _ _ => rfl)) (pe_tup (pa_cons pe_str (pa_cons pe_str pa_nil))) (nomark _)) (pss_cons (ps_par (i := 11) (j := 12) rfl sc_law.nd rfl rfl (by decide) rfl rfl (pa_cons (StX.pe_makeR mk_Box fi_Box (hr.mono (by decide)) rfl g_Box pass0 (pa_cons (pv 4) pa_nil)) (pa_cons (pe_makeRK mk_Renamed fr_ab hr (by decide) rfl g_Renamed (pa_cons (StX.pe_makeR mk_Box fi_Box (hr.mono (by decide)) rfl g_Box pass0 (pa_cons (pv 4) pa_nil)) pa_nil) (pk_cons (pe_dget hu (pv 6) pe_str (fun _ _ => rfl)) (pk_cons (pe_dget hu (pv 6) pe_str (fun _ _ => rfl)) pk_nil))) pa_nil)) (by rfl))
      (pss_cons (ps_set (i := 13) sc_law.nd rfl (by first | exact Or.inl rfl | exact Or.inr rfl) (pe_d d__law_other_letters hr (by decide) rfl (pa_cons (pv 4) (pa_cons (pe_disp (pps_cons pe_str pe_str (pps_cons pe_str pe_str pps_nil)) (by rfl) (by rfl) (fun z => by cases z) (by decide)) pa_nil))))
      (pss_cons (ps_if (PW.pt (pw_or (pt_cmpR (op_neOwn K (by rfl) fn_eq hr (by decide)) (pv 12) (StX.pe_makeR mk_Box fi_Box (hr.mono (by decide)) rfl g_Box pass0 (pa_cons (pe_d d__law_other_letters hr (by decide) rfl (pa_cons (pv 4) (pa_cons (pv 6) pa_nil))) pa_nil)) (nomark _)) (pw_or1 (pt_cmpR (op_neOwn K (by rfl) fn_eq hr (by decide)) (pe_makeRK mk_Renamed fr_ab hr (by decide) rfl g_Renamed (pa_cons (pv 11) pa_nil) (pk_cons pe_str (pk_cons pe_str pk_nil))) (StX.pe_makeR mk_Box fi_Box (hr.mono (by decide)) rfl g_Box pass0 (pa_cons (pv 13) pa_nil)) (nomark _))))) (pss_one (ps_ret pe_bl)) pss_nil)
      (pss_one (ps_if (PW.pt (pw_or (pt_cmpR (op_neOwn K (by rfl) fn_eq hr (by decide)) (pe_makeRK mk_Renamed fr_zz hr (by decide) rfl g_Renamed (pa_cons (pe_makeRK mk_Renamed fr_a hr (by decide) rfl g_Renamed (pa_cons (pv 11) pa_nil) (pk_cons pe_str pk_nil)) pa_nil) (pk_cons pe_str pk_nil)) (pv 11) (nomark _)) (pw_or1 (pt_cmpR (op_neOwn K (by rfl) fn_eq hr (by decide)) (pe_makeRK mk_Renamed fr_ab hr (by decide) rfl g_Renamed (pa_cons (pe_makeRK mk_Renamed fr_ba hr (by decide) rfl g_Renamed (pa_cons (pv 11) pa_nil) (pk_cons pe_str (pk_cons pe_str pk_nil))) pa_nil) (pk_cons pe_str (pk_cons pe_str pk_nil))) (pv 11) (nomark _))))) (pss_one (ps_ret pe_bl)) pss_nil))))) pss_nil)))))))))
      (pss_one (ps_ret pe_bl)))))), ?_⟩
  obtain ⟨l, ns, rfl, hs, hz, hT, k⟩ := h
  have a0 : At K (lawB Tb H) [.v (.ref l), .o, .o, .o, .o, .o, .o, .o, .o, .o, .o, .o, .o, .o] [] (L2.start ["_law_script", "_law_reader_here", "_law_lots", "_law_turn", "_law_good", "_law_pool", "_law_named", "_law_letter", "_law_rising", "_law_kept", "_law_j", "_law_box", "_law_other", "_law_turned"] [.ref l]) H := ⟨noT_sm, ⟨rfl, True.intro, True.intro, True.intro, True.intro, True.intro, True.intro, True.intro, True.intro, True.intro, True.intro, True.intro, True.intro, True.intro, True.intro⟩, Own.nil, ⟨True.intro, hT⟩⟩
  refine u_asg ⟨.ref l, a0.env.val (i := 0) rfl, l, ns, rfl, hs, hz, fun ps pr H1 e1 hpr hps hL hR => ?_⟩
  have hne : pr ≠ ps := by
    rintro rfl
    obtain ⟨xs, hx, hd⟩ := hL
    rw [hx] at hR
    cases hR
    cases ns with
    | nil => cases hd
    | cons c ns =>
      cases hd with
      | cons h _ => cases h
  have a1 : At K (lawB Tb H) [.v (.ref l), .v (.ref pr), .o, .o, .o, .o, .o, .o, .o, .o, .o, .o, .o, .o] [(pr, .raw [.ref ps, .int 0, .int 0, .int ((0 : Nat) : Int)]), (ps, .lst (eI ns))] _ H1 :=
    ⟨a0.sm.trans e1, Sls.set (g := .v (.ref pr)) (s := some (.ref pr)) rfl 1 (a0.env.im (im_same e1)), ⟨List.nodup_cons.mpr ⟨(fun h => hne (List.mem_singleton.mp h)), List.nodup_cons.mpr ⟨(fun h => nomatch h), List.nodup_nil⟩⟩, fun e he => by
      rcases List.mem_cons.mp he with rfl | he
      · exact (show ObOk K (noT H) H1 pr (.raw _) from ⟨a0.sm.free hpr, hR⟩)
      · obtain rfl := List.mem_singleton.mp he
        exact (show ObOk K (noT H) H1 ps (.lst _) from ⟨a0.sm.free hps, hL⟩)⟩, ⟨True.intro, hT.ext e1⟩⟩
  clear a0
  show tSeq _ _ _ (List.set _ 1 (some (V.ref pr))) H1
  refine' q_asgL (ds := fixedM.map eM) a1 evl_fixed fun pl σ2 H2 a2 => ?_
  have a2' : At K (lawB Tb H) [.v (.ref l), .v (.ref pr), .v (.ref pl), .o, .o, .o, .o, .o, .o, .o, .o, .o, .o, .o] [(pl, .lst ((fixedM ++ []).map eM)), (pr, .raw [.ref ps, .int 0, .int 0, .int ((0 : Nat) : Int)]), (ps, .lst (eI ns))] σ2 H2 := by
    rw [List.append_nil]
    exact a2
  clear a1 a2
  refine' q_forM (τ := Int × Int × Nat × List Mc) (l := List.range 4) (en := fun (i : Nat) => .int (i : Int)) (Γ2 := [.v (.ref l), .v (.ref pr), .v (.ref pl), .o, .o, .o, .o, .o, .o, .o, .o, .o, .o, .o])
    (Θf := fun t => [(pl, .lst ((fixedM ++ t.2.2.2).map eM)), (pr, .raw [.ref ps, .int t.1, .int t.2.1, .int ((t.2.2.1 : Nat) : Int)]), (ps, .lst (eI ns))]) (t0 := (0, 0, 0, []))
    (fun i t => t.2.2.1 ≤ 33 * i ∧ t.2.2.2.length = i ∧ ∀ M ∈ t.2.2.2, MOk M) a2' (srcS_rng (eva_cons evd_i eva_nil) (by decide)) ?hw1 ⟨Nat.le_refl _, rfl, fun M hM => nomatch hM⟩ (fun G st i x v t σ' H' D' hi ok a3 hv3 hnx hrt => ?hbody1) fun t σ3 H3 ok a3 => ?hend1
  case hw1 => walk_at "wk"
  case hbody1 =>
    obtain ⟨x3, y3, n3, ms⟩ := t
    obtain ⟨o1, o2, o3⟩ := ok
    have hi4 : i < 4 := (List.getElem?_eq_some_iff.mp hi).1
    have o1' : n3 ≤ 33 * i := o1
    have o2' : ms.length = i := o2
    refine g_name a3 hv3 fun σ4 a4 => ?_
    refine' s_appendM (τ := Int × Int × Nat) (k := 0) (i := 2) (p := pl) (ds := (fixedM ++ ms).map eM) (t0 := (x3, y3, n3)) (Θf := fun s => [(pl, .lst ((fixedM ++ ms).map eM)), (pr, .raw [.ref ps, .int s.1, .int s.2.1, .int ((s.2.2 : Nat) : Int)]), (ps, .lst (eI ns))]) (fun s d => s.2.2 ≤ n3 + 33 ∧ ∃ M, MOk M ∧ d = eM M) a4 rfl (fun _ => rfl) ?hlen (fun Q hq => ?hdraw) fun d s H5 ok5 a5 => ?hnext
    case hlen =>
      rw [List.length_map, List.length_append]
      show 9 + ms.length < 100000
      omega
    case hdraw =>
      refine ⟨.ref pr, a4.env.val (i := 1) rfl, .ref pr, a4.env.val (i := 1) rfl, pr, ps, ns, n3, rfl, rd_at a4 (k := 1) (k2 := 2) rfl rfl hz, by omega, fun L v H10 hL10 rt hvL => ?_⟩
      obtain ⟨x4, y4, a10⟩ := at_rdto a4 (k := 1) rfl rt
      refine ⟨pr, ps, ns, n3 + 1, v, L, rfl, rd_at a10 (k := 1) (k2 := 2) rfl rfl hz, by omega, hvL, lots_ok L hL10, fun M n' u H11 hM hn' rt2 hu11 => ?_⟩
      obtain ⟨x5, y5, a11⟩ := at_rdto a10 (k := 1) rfl rt2
      exact hq u (eM M) (x5, y5, n') H11 ⟨by show n' ≤ n3 + 33; omega, M, hM, rfl⟩ a11 hu11
    case hnext =>
      obtain ⟨x5, y5, n5⟩ := s
      obtain ⟨o5, M, hM, rfl⟩ := ok5
      have o5' : n5 ≤ n3 + 33 := o5
      refine hnx (x5, y5, n5, ms ++ [M]) σ4 H5 ⟨by show n5 ≤ 33 * (i + 1); omega, by show (ms ++ [M]).length = i + 1; rw [List.length_append, o2']; rfl, fun N hN => ?_⟩ ?_
      · rcases List.mem_append.mp hN with hN | hN
        · exact o3 N hN
        · obtain rfl := List.mem_singleton.mp hN
          exact hM
      · have e1 : (fixedM ++ (ms ++ [M])).map eM = (fixedM ++ ms).map eM ++ [eM M] := by
          rw [← List.append_assoc, List.map_append]
          rfl
        show At K _ _ [(pl, .lst ((fixedM ++ (ms ++ [M])).map eM)), _, _] σ4 H5
        rw [e1]
        exact a5.weak (by walk_at "wk")
  case hend1 =>
    obtain ⟨x3, y3, n3, ms⟩ := t
    obtain ⟨o1, o2, o3⟩ := ok
    have o1' : n3 ≤ 33 * 4 := o1
    have o2' : ms.length = 4 := o2
    have hlots : ∀ M ∈ fixedM ++ ms, MOk M := fun M hM => (List.mem_append.mp hM).elim (fixed_ok M) (o3 M)
    have hll : (fixedM ++ ms).length = 13 := by
      rw [List.length_append, o2']
      rfl
    replace a3 : At K (lawB Tb H) [.v (.ref l), .v (.ref pr), .v (.ref pl), .o, .o, .o, .o, .o, .o, .o, .o, .o, .o, .o] [(pl, .lst ((fixedM ++ ms).map eM)), (pr, .raw [.ref ps, .int x3, .int y3, .int ((n3 : Nat) : Int)]), (ps, .lst (eI ns))] σ3 H3 := a3
    generalize fixedM ++ ms = lots at hlots hll a3
    clear a2'
    refine' q_forLM (τ := Int × Int × Nat) (l := lots) (en := eM) (p := pl) (Γ2 := [.v (.ref l), .v (.ref pr), .v (.ref pl), .o, .o, .o, .o, .o, .o, .o, .o, .o, .o, .o])
      (Θf := fun t => [(pl, .lst (lots.map eM)), (pr, .raw [.ref ps, .int t.1, .int t.2.1, .int ((t.2.2 : Nat) : Int)]), (ps, .lst (eI ns))]) (t0 := (x3, y3, n3))
      (fun i t => t.2.2 ≤ 132 + 3 * i) a3 (evv_var a3 (i := 2) rfl) (fun _ => ⟨0, rfl⟩) ?hw2 (by show n3 ≤ 132 + 3 * 0; omega) (fun i M v t σ4 H4 D' hi ok4 a4 hv4 hnx hrt => ?hbody2) fun t σ4 H4 ok4 a4 => ?hend2
    case hw2 => walk_at "wk"
    case hend2 => exact u_ret (u_c (k H4))
    case hbody2 =>
      obtain ⟨x4, y4, n4⟩ := t
      have ok4' : n4 ≤ 132 + 3 * i := ok4
      have hi13 : i < 13 := hll ▸ (List.getElem?_eq_some_iff.mp hi).1
      have hM := hlots M (List.mem_of_getElem? hi)
      have hw := hM.wf
      have hl3 := hM.l3
      clear a3
      -- to the next turn
      have nxt : ∀ {Γ' : List Sl} {Θ' : List (Addr × Ob)} {σ' : L2.St} {H' : Hp} {x' y' : Int} {n' : Nat}, n' ≤ n4 + 3 → Weak Γ' [.v (.ref l), .v (.ref pr), .v (.ref pl), .o, .o, .o, .o, .o, .o, .o, .o, .o, .o, .o] → List.Sublist [(pl, .lst (lots.map eM)), (pr, .raw [.ref ps, .int x', .int y', .int ((n' : Nat) : Int)]), (ps, .lst (eI ns))] Θ' → At K (lawB Tb H) Γ' Θ' σ' H' → D'.nx σ' H' := fun {Γ' Θ' σ' H' x' y' n'} hn' wk sb a' => hnx (x', y', n') σ' H' (by show n' ≤ 132 + 3 * (i + 1); omega) ((a'.weak wk).sub sb)
      clear hnx
      refine g_name a4 hv4 fun σ5 a5 => ?_
      refine' q_tupLK (i := 5) (j := 6) (ds := poolW.map .str) (l := []) a5 (evl_lst ?hp1) evk_new fun pp pn σ6 H6 a6 => ?_
      case hp1 =>
        show EvA K _ _ _ [.str "k", .str "q", .str "ka", .str "m", .str "c", .str "fold"]
        walk_at "ea"
      refine' q_forM (τ := Int × Int × Nat × List Str × Nms) (l := M.L) (en := .str) (Γ2 := [.v (.ref l), .v (.ref pr), .v (.ref pl), .o, .d (eM M), .v (.ref pp), .v (.ref pn), .o, .o, .o, .o, .o, .o, .o])
        (Θf := fun s => [(pn, .dk (eN s.2.2.2.2)), (pp, .lst (s.2.2.2.1.map .str)), (pl, .lst (lots.map eM)), (pr, .raw [.ref ps, .int s.1, .int s.2.1, .int ((s.2.2.1 : Nat) : Int)]), (ps, .lst (eI ns))]) (t0 := (x4, y4, n4, poolW, []))
        (fun i s => s.2.2.1 ≤ n4 + i ∧ s.2.2.2.2.map (·.1) = M.L.take i ∧ (s.2.2.2.2.map (·.2) ++ s.2.2.2.1).Perm poolW) a6 (srcS_tup (evd_ix0 (evd_var a6 (i := 4) rfl))) ?hw3 ⟨Nat.le_refl _, rfl, List.Perm.refl _⟩ (fun G st j y v s σ' H' D2 hj ok7 a7 hv7 hnx7 hrt7 => ?hbody3) fun s σ7 H7 ok7 a7 => ?hend3
      case hw3 => walk_at "wk"
      case hbody3 =>
        obtain ⟨x7, y7, n7, pool, named⟩ := s
        obtain ⟨p1, p2, p3⟩ := ok7
        replace p1 : n7 ≤ n4 + j := p1
        replace p2 : named.map (·.1) = M.L.take j := p2
        replace p3 : (named.map (·.2) ++ pool).Perm poolW := p3
        have hjl : j < M.L.length := (List.getElem?_eq_some_iff.mp hj).1
        have hnl : named.length = j := by
          have := congrArg List.length p2
          rw [List.length_map, List.length_take] at this
          omega
        have hpl : pool.length = 6 - j := by
          have := p3.length_eq
          rw [List.length_append, List.length_map] at this
          have e6 : poolW.length = 6 := rfl
          omega
        refine g_name a7 hv7 fun σ8 a8 => ?_
        refine ⟨.ref pp, a8.env.val (i := 5) rfl, .inl ⟨rfl, ?htv⟩, ?_⟩
        case htv =>
          obtain ⟨xs, hx, _⟩ := a8.hasL (k := 1) (p := pp) rfl
          exact ⟨xs, SqL.of hx⟩
        refine u_cons ?_
        refine run_draw (k := 3) (k2 := 4) (i := 1) (m := pool.length) a8 rfl rfl rfl hz (by show n7 ≤ 1000; omega) (EvD.is (evd_lenV (evv_var a8 (i := 5) rfl) (a8.hasL (k := 1) rfl)) (by rw [List.length_map])) (by omega) (by omega) fun v9 x9 y9 H9 hv9 a9 => ?_
        obtain ⟨hnp, xs9, hx9, hd9⟩ := a9.own.at_ (k := 1) (p := pp) (o := .lst (pool.map .str)) rfl
        obtain rfl := hd9.strs
        refine ⟨pp, pool.map V.str, (v9 : Int), v9, .str (pool[v9]'hv9), rfl, rfl, hx9, by omega, by omega, seq_nat (by rw [List.length_map]; exact hv9), by rw [List.getElem?_map, List.getElem?_eq_getElem hv9]; rfl, ?_⟩
        have a10 := a9.put (k := 1) rfl (u := .lst ((pool.map V.str).eraseIdx v9)) (o' := .lst ((pool.eraseIdx v9).map .str)) ⟨hnp, _, upd_same, by
          rw [erase_map]
          exact dtAll_strs _⟩
        refine ⟨.ref pn, a10.env.val (i := 6) rfl, ?_⟩
        obtain ⟨vl, hvl, hdl⟩ := a10.env.data (i := 7) (d := .str y) rfl
        refine ⟨vl, hvl, ?_⟩
        obtain rfl := hdl.str_inv
        have hnew : getK (eN named) (.inr y) = none := getK_none fun hm => by
          rw [List.map_map] at hm
          have hm2 : y ∈ named.map (·.1) := by
            obtain ⟨q, hq, e⟩ := List.mem_map.mp hm
            exact List.mem_map.mpr ⟨q, hq, Sum.inr.inj e⟩
          rw [p2] at hm2
          obtain ⟨m, hm3, e3⟩ := List.mem_take_iff_getElem.mp hm2
          have ey : M.L[j] = y := (List.getElem?_eq_some_iff.mp hj).2
          have := (List.getElem_inj hw.nd).mp (e3.trans ey.symm)
          omega
        obtain ⟨H11, hput, a11⟩ := put_at (key := .inr y) (d := .str (pool[v9]'hv9)) a10 (k := 0) (p := pn) (l := eN named) rfl (.str _) (by rw [List.length_map]; omega) hnew
        refine ⟨pn, H11, rfl, hput, hnx7 (x9, y9, n7 + 1, pool.eraseIdx v9, named ++ [(y, pool[v9]'hv9)]) σ8 H11 ⟨by show n7 + 1 ≤ n4 + (j + 1); omega, ?_, ?_⟩ ?_⟩
        · show (named ++ [(y, pool[v9]'hv9)]).map (·.1) = M.L.take (j + 1)
          rw [List.map_append, p2, take_snoc hj]
          rfl
        · show ((named ++ [(y, pool[v9]'hv9)]).map (·.2) ++ pool.eraseIdx v9).Perm poolW
          rw [List.map_append, List.append_assoc]
          exact ((erase_perm hv9).append_left (named.map (·.2))).trans p3
        · have e1 : eN (named ++ [(y, pool[v9]'hv9)]) = eN named ++ [((.inr y : Key), PyData.str (pool[v9]'hv9))] := List.map_append
          show At K _ _ [(pn, .dk (eN (named ++ [(y, pool[v9]'hv9)]))), _, _, _, _] σ8 H11
          rw [e1]
          exact a11.weak (by walk_at "wk")
      case hend3 =>
        obtain ⟨x7, y7, n7, pool, named⟩ := s
        obtain ⟨p1, p2, p3⟩ := ok7
        replace p1 : n7 ≤ n4 + M.L.length := p1
        replace p2 : named.map (·.1) = M.L.take M.L.length := p2
        replace p3 : (named.map (·.2) ++ pool).Perm poolW := p3
        rw [List.take_length] at p2
        have hvnd : (named.map (·.2)).Nodup := (List.nodup_append.mp (p3.nodup_iff.mpr pool_ok.1)).1
        have hvnm : ∀ x ∈ named.map (·.2), isNm x = true := fun x hx => pool_ok.2 x (p3.mem_iff.mp (List.mem_append_left _ hx))
        have hn := nok_keys p2 hw.nd hvnd hvnm
        have hnews := news_keys p2 hw.nd
        have hnlen : (newsOf named M).length = M.L.length := news_len
        have hslen : (sortS (newsOf named M)).length = M.L.length := by rw [(sortS_perm _).length_eq, hnlen]
        replace a7 : At K (lawB Tb H) [.v (.ref l), .v (.ref pr), .v (.ref pl), .o, .d (eM M), .v (.ref pp), .v (.ref pn), .o, .o, .o, .o, .o, .o, .o] [(pn, .dk (eN named)), (pp, .lst (pool.map .str)), (pl, .lst (lots.map eM)), (pr, .raw [.ref ps, .int x7, .int y7, .int ((n7 : Nat) : Int)]), (ps, .lst (eI ns))] σ7 H7 := a7
        clear a4 a5 a6
        refine' q_asgL (ds := (sortS (newsOf named M)).map .str) a7 (EvL.is (evl_sortL (ds := (newsOf named M).map .str) (EvL.is (evl_lcn (l := M.L) (en := .str) (fun x => .str (nmOf named x)) a7 (src_tup (evd_ix0 (evd_var a7 (i := 4) rfl))) (by omega) ?hj8 fun x σ' H1 hx a1 => ?hb8) ?he8) (PySem.W.AllAlike.of (enc := PyData.str) fun _ _ => rfl) (PySem.W.Sortable.others (enc := PyData.str) fun _ => ⟨(fun h => nomatch h), fun _ h => nomatch h⟩) ?hz8 ?hd8) (sort_strs _)) fun pri σ8 H8 a8 => ?_
        case hj8 => decide
        case hb8 => exact evd_dget (key := .inr x) (evv_var a1 (i := 6) rfl) (a1.hasK (k := 0) rfl) (evd_var a1 (i := 7) rfl) (getK_has (hn.has x hx))
        case he8 =>
          unfold newsOf
          rw [List.map_map]
          rfl
        case hz8 =>
          rw [List.length_map, hnlen]
          omega
        case hd8 =>
          intro d hd
          obtain ⟨x, _, rfl⟩ := List.mem_map.mp hd
          simp [PyData.depth]
        have hkk := kept_keys (L := M.L) hnlen
        have hkv := kept_vals (L := M.L) hnlen
        generalize eK : keptN M.L (newsOf named M) = kn at hkk hkv
        refine' q_asgK (l := eN kn) a8 (evk_pairs (EvL.is (evl_lcn (l := List.range (sortS (newsOf named M)).length) (en := fun (j : Nat) => .int (j : Int)) (fun j => .tuple [.str (M.L.getD j Str.empty), .str ((sortS (newsOf named M)).getD j Str.empty)]) a8 (src_rng (eva_cons (EvD.is (evd_lenV (evv_var a8 (i := 8) rfl) (a8.hasL (k := 0) rfl)) (by rw [List.length_map])) eva_nil) (by omega)) (by rw [List.length_range]; omega) ?hj9 fun j σ' H1 hjm a1 => ?hb9) (by rw [kept_range hnlen, eK])) (by rw [hkk]; exact hw.nd)) fun pk σ9 H9 a9 => ?_
        case hj9 => decide
        case hb9 =>
          have hj := List.mem_range.mp hjm
          have hj2 : j < M.L.length := by omega
          refine evd_tup (eva_cons (evd_op (evd_ix0 (evd_var a1 (i := 4) rfl)) (evd_var a1 (i := 10) rfl) (ov_ix j ?h1)) (eva_cons (evd_ixL (n := j) (evv_var a1 (i := 8) rfl) (a1.hasL (k := 0) rfl) (evd_var a1 (i := 10) rfl) rfl ?h2) eva_nil))
          case h1 => rw [List.getElem?_map, List.getElem?_eq_getElem hj2, List.getD_eq_getElem?_getD, List.getElem?_eq_getElem hj2]; rfl
          case h2 => rw [List.getElem?_map, List.getElem?_eq_getElem hj, List.getD_eq_getElem?_getD, List.getElem?_eq_getElem hj]; rfl
        have hvs : sortS (newsOf named M) = sortS (named.map (·.2)) := by rw [hnews]
        have hkn := nok_keys hkk hw.nd (by rw [hkv, hvs]; exact (sortS_perm _).nodup_iff.mpr hvnd) (fun x hx => hvnm x ((sortS_perm _).mem_iff.mp (by rw [hkv, hvs] at hx; exact hx)))
        have hkp : (newsOf kn M).Pairwise leT := by
          rw [news_keys hkk hw.nd, hkv]
          exact sortS_pw _
        refine' q_no a9 (EvT.is (evt_or (a := false) (b := false) (EvT.is (evt_not (evt_test (evd_checkL (b := false) (evd_var a9 (i := 4) rfl) (evv_var a9 (i := 6) rfl) evd_b (a9.hasK (k := 2) rfl) hM hn (fun h => nomatch h)))) rfl) fun _ => EvT.is (evt_not (evt_test (evd_checkL (b := true) (evd_var a9 (i := 4) rfl) (evv_var a9 (i := 9) rfl) evd_b (a9.hasK (k := 0) rfl) hM hkn (fun _ => hkp)))) rfl) rfl) fun H10 a10 => ?_
        refine' q_no a10 (EvT.is (evt_not (evt_test (evd_checkW (evd_var a10 (i := 4) rfl) hM))) rfl) fun H11 a11 => ?_
        clear a7 a8 a9 a10
        have shAB : SeqAt.shaped (eL letAB) = true := shL (by decide +kernel)
        have shMl : SeqAt.shaped (eL M.L) = true := shL fun x hx => isWd_of (List.all_eq_true.mp hw.nm x hx)
        have sub11 : List.Sublist [(pl, Ob.lst (lots.map eM)), (pr, .raw [.ref ps, .int x7, .int y7, .int ((n7 : Nat) : Int)]), (ps, .lst (eI ns))] [(pk, .dk (eN kn)), (pri, .lst ((sortS (newsOf named M)).map .str)), (pn, .dk (eN named)), (pp, .lst (pool.map .str)), (pl, .lst (lots.map eM)), (pr, .raw [.ref ps, .int x7, .int y7, .int ((n7 : Nat) : Int)]), (ps, .lst (eI ns))] := .cons _ (.cons _ (.cons _ (.cons _ (List.Sublist.refl _))))
        refine' s_if (b := PyData.eqv (eL M.L) (eL letAB)) a11 (evt_test (evd_op (evd_ix0 (evd_var a11 (i := 4) rfl)) (evd_tup (eva_cons evd_s (eva_cons evd_s eva_nil))) (ov_eqD shMl shAB))) (fun hb H12 a12 => ?hyes) fun hb H12 a12 => nxt (by omega) (by walk_at "wk") sub11 a12
        case hyes =>
          have hL : M.L = letAB := eqv_eL hb
          have two : Two M := ⟨hw, hL⟩
          have twoW := two.walked
          clear a11
          have e2 : newsOf named M = [nmOf named "a", nmOf named "b"] := by
            unfold newsOf
            rw [hL]
            rfl
          generalize eva : nmOf named "a" = va at e2
          generalize evb : nmOf named "b" = vb at e2
          have hga : ∀ x, x ∈ letAB → getK (eN named) (.inr x) = some (.str (nmOf named x)) := fun x hx => getK_has (hn.has x (hL ▸ hx))
          have ns2k : ([("a", va), ("b", vb)] : Nms).map (·.1) = (walkedM M).L := by
            show _ = M.L
            rw [hL]
            rfl
          have nd2 : [va, vb].Nodup := e2 ▸ hn.nd
          have nm2 : ∀ x ∈ [va, vb], isNm x = true := e2 ▸ hn.nm
          have ok2 : NOk [("a", va), ("b", vb)] (walkedM M) := nok_keys ns2k hw.walked.nd nd2 nm2
          have ns2 : newsOf [("a", va), ("b", vb)] (walkedM M) = newsOf named M := by
            rw [news_keys ns2k hw.walked.nd, e2]
            rfl
          have hm2 : ∀ p ∈ ([("a", va), ("b", vb)] : Nms), p.1 ∈ (walkedM M).L ∧ isNm p.2 = true := fun p hp => ⟨ns2k ▸ List.mem_map_of_mem hp, nm2 p.2 (List.mem_map_of_mem (f := (·.2)) hp)⟩
          have box : ∀ {Γ' Θ' σ' H'} (a' : At K (lawB Tb H) Γ' Θ' σ' H') (_ : Γ'[4]? = some (.d (eM M))), EvBX K Tb CB (StX.tMakeR CB (SpInit K) E0 (tCons (tVar 4) tNil)) σ' H' (walkedM M) := fun a' h4 => evbx_of a' fun H1 e a1 => evb_box hcB hw (evd_var a1 h4)
          refine' q_parX (C := CB) (C2 := CR) (M := walkedM M) (N := walkedM (permM (newsOf named M) M)) a12 (box a12 rfl) (EvBX.is (evbx_ren (ns := [("a", va), ("b", vb)]) (ks := ["a", "b"]) rfl (.inl rfl) hw.walked (by decide) (by show 2 ≤ 100; decide) hm2 ok2.nd (ok2.wf hw.walked) (box a12 rfl) (fun H1 e t => ?hk2)) ?he2) fun bx by_ σ13 H13 hbx hby a13 => ?_
          case hk2 =>
            have a1 := a12.ext e t
            refine eva_cons (evd_dget (key := .inr "a") (evv_var a1 (i := 6) rfl) (a1.hasK (k := 2) rfl) evd_s ?_) (eva_cons (evd_dget (key := .inr "b") (evv_var a1 (i := 6) rfl) (a1.hasK (k := 2) rfl) evd_s ?_) eva_nil)
            · rw [← eva]
              exact hga "a" (by decide)
            · rw [← evb]
              exact hga "b" (by decide)
          case he2 =>
            have := hw.perm_walk (nw := newsOf named M) news_len (hn.wf hw) (ns2 ▸ ok2.wf hw.walked)
            rw [ns2, this]
          have abk : abN.map (·.1) = M.L := by rw [hL]; rfl
          have okab : NOk abN M := nok_keys abk hw.nd (by decide +kernel) (by decide +kernel)
          have okabW : NOk abN (walkedM M) := nok_keys abk hw.walked.nd (by decide +kernel) (by decide +kernel)
          refine' q_asgE (d := eM (permM (newsOf abN M) M)) a13 (evd_otherLK (evd_var a13 (i := 4) rfl) (evk_dict abN (by decide +kernel) (by decide) fun σ H1 Q h => h) hw okab) fun σ14 H14 e14 a14 => ?_
          have hbx14 := hbx.mono e14
          have hby14 := hby.mono e14
          have inW : ∀ x ∈ letAB, x ∈ (walkedM M).L := fun x hx => by
            show x ∈ M.L
            rw [hL]
            exact hx
          have hmab : ∀ p ∈ abN, p.1 ∈ (walkedM M).L ∧ isNm p.2 = true := fun p hp => ⟨inW _ ((show ∀ p ∈ abN, p.1 ∈ letAB by decide +kernel) p hp), (show ∀ p ∈ abN, isNm p.2 = true by decide +kernel) p hp⟩
          have hmba : ∀ p ∈ baN, p.1 ∈ (walkedM M).L ∧ isNm p.2 = true := fun p hp => ⟨inW _ ((show ∀ p ∈ baN, p.1 ∈ letAB by decide +kernel) p hp), (show ∀ p ∈ baN, isNm p.2 = true by decide +kernel) p hp⟩
          have hmzz : ∀ p ∈ zzN, p.1 ∈ (walkedM M).L ∧ isNm p.2 = true := fun p hp => ⟨inW _ ((show ∀ p ∈ zzN, p.1 ∈ letAB by decide +kernel) p hp), (show ∀ p ∈ zzN, isNm p.2 = true by decide +kernel) p hp⟩
          have eqab : walkedM (permM (newsOf abN (walkedM M)) (walkedM M)) = walkedM (permM (newsOf abN M) M) := hw.perm_walk (nw := newsOf abN M) news_len (okab.wf hw) (okabW.wf hw.walked)
          have box14 := evbx_var a14 (i := 11) rfl hbx14
          refine' q_noX a14 (evtx_or (evtx_ne (C := CR) (M := walkedM (permM (newsOf named M) M)) (evbx_var a14 (i := 12) rfl hby14) (evbx_of a14 fun H1 e a1 => evb_box hcB (hn.wf hw) (evd_otherL (evd_var a1 (i := 4) rfl) (evv_var a1 (i := 6) rfl) (a1.hasK (k := 2) rfl) hw hn)) (hn.wf hw).walked hcR nf nq)
            (evtx_ne (C := CR) (M := walkedM (permM (newsOf abN M) M)) (EvBX.is (evbx_ren (ns := abN) (ks := ["a", "b"]) rfl (.inl rfl) hw.walked (by decide) (by decide) hmab okabW.nd (okabW.wf hw.walked) box14 (fun H1 e t => eva_cons evd_s (eva_cons evd_s eva_nil))) eqab) (evbx_of a14 fun H1 e a1 => evb_box hcB (okab.wf hw) (evd_var a1 (i := 13) rfl)) (okab.wf hw).walked hcR nf nq)) fun H15 e15 a15 => ?_
          have hbx15 := hbx14.ext e15
          have box15 := evbx_var a15 (i := 11) rfl hbx15
          have wZ := twoW.wzz
          have wY := twoW.wba
          have lZ : (walkedM (permM letZB (walkedM M))).L = letBZ := Two.lzz (M := walkedM M)
          have lY : (walkedM (permM letBA (walkedM M))).L = letAB := Two.lba (M := walkedM M)
          have nZ := news_za lZ
          have nY := two_ab lY
          have n1 := two_zz twoW
          have n2 := two_ba twoW.l
          have hmza : ∀ p ∈ zaN, p.1 ∈ (walkedM (permM letZB (walkedM M))).L ∧ isNm p.2 = true := fun p hp => ⟨by
            rw [lZ]
            exact (show ∀ p ∈ zaN, p.1 ∈ letBZ by decide +kernel) p hp, (show ∀ p ∈ zaN, isNm p.2 = true by decide +kernel) p hp⟩
          have hmY : ∀ p ∈ abN, p.1 ∈ (walkedM (permM letBA (walkedM M))).L ∧ isNm p.2 = true := fun p hp => ⟨by
            rw [lY]
            exact (show ∀ p ∈ abN, p.1 ∈ letAB by decide +kernel) p hp, (show ∀ p ∈ abN, isNm p.2 = true by decide +kernel) p hp⟩
          have ndBA : letBA.Nodup := by decide +kernel
          have ndZB : letZB.Nodup := by decide +kernel
          have in1 : EvBX K Tb CR _ σ14 H15 (walkedM (permM letZB (walkedM M))) := EvBX.is (evbx_ren (CR := CR) (BC := fun C => C = CB ∨ C = CR) (ns := zzN) (ks := ["a"]) (tk := tCons (tC (.str "zz")) tNil) rfl (.inl rfl) hw.walked (by decide) (by decide) hmzz (n1 ▸ ndZB) (n1 ▸ wZ) box15 (fun H1 e t => eva_cons evd_s eva_nil)) (by rw [n1])
          have in2 : EvBX K Tb CR _ σ14 H15 (walkedM (permM letBA (walkedM M))) := EvBX.is (evbx_ren (CR := CR) (BC := fun C => C = CB ∨ C = CR) (ns := baN) (ks := ["b", "a"]) (tk := tCons (tC (.str "a")) (tCons (tC (.str "b")) tNil)) rfl (.inl rfl) hw.walked (by decide) (by decide) hmba (n2 ▸ ndBA) (n2 ▸ wY) box15 (fun H1 e t => eva_cons evd_s (eva_cons evd_s eva_nil))) (by rw [n2])
          refine' s_noX a15 (evtx_or (evtx_ne (C := CR) (M := walkedM M) (EvBX.is (evbx_ren (ns := zaN) (ks := ["zz"]) rfl (.inr rfl) wZ.walked (by decide) (by decide) hmza (by rw [nZ]; exact ndBA) (by rw [nZ]; exact wf_ba wZ.walked (by rw [lZ]; rfl)) in1 (fun H1 e t => eva_cons evd_s eva_nil)) (by rw [nZ]; exact two.zz)) box15 hw.walked hcR nf nq)
            (evtx_ne (C := CR) (M := walkedM M) (EvBX.is (evbx_ren (ns := abN) (ks := ["a", "b"]) rfl (.inr rfl) wY.walked (by decide) (by decide) hmY (by rw [nY]; exact ndBA) (by rw [nY]; exact wf_ba wY.walked (by rw [lY]; rfl)) in2 (fun H1 e t => eva_cons evd_s (eva_cons evd_s eva_nil))) (by rw [nY]; exact two.ba)) box15 hw.walked hcR nf nq)) fun H16 e16 a16 => nxt (by omega) (by walk_at "wk") sub11 a16
end
end K15

/-! part HZ -/
set_option Elab.async false
set_option linter.all false
set_option maxRecDepth 100000
set_option maxHeartbeats 2000000
namespace K15
open PySem PySem.Spec PyProof.Rows L2 RZ
open LamX (ExtN Tabs TabB CodeO)
/-! ### what was looked at, as facts -/
theorem funD_y {K : PySem.W.Frag} {d : DefY} (e : fnY K (d.at_ K) = d.val) (c : codeB K d = true) (hc : d.cl = []) : ∃ fd, FunD K d.name d.qual (defArgs d.st) (defBody d.st) (defScope d.st) [] [] (d.at_ K) fd := by
  obtain ⟨kp, c2⟩ := He.ba c
  unfold fnY at e
  cases q : K.lookup (d.at_ K) with
  | none => rw [q] at c2; cases c2
  | some o =>
    obtain ⟨oc, od, dt, osl⟩ := o
    rw [q] at c2 e
    cases dt with
    | func fd =>
      obtain ⟨n1, n2, n3, n4, n5, n6, n7, n8, n9, n10, n11, n12, n13, n14, n15⟩ := fd
      have e2 : (some (n1, n2, n3, n4, n5, n6, n7.map (·.1), n8, n15) : FnY) = some (d.name, d.qual, defArgs d.st, .stmts (defBody d.st), defScope d.st, mainGlobals, d.cl, .none, builtinsNs) := e
      simp only [Option.some.injEq, Prod.mk.injEq] at e2
      obtain ⟨h1, h2, h3, h4, h5, h6, h7, h8, h9⟩ := e2
      rw [hc, List.map_eq_nil_iff] at h7
      subst h1 h2 h3 h4 h5 h6 h7 h8 h9
      exact ⟨_, ⟨oc, od, .none, n9, n10, n11, n12, n13, n14, osl, rfl, q, c2, .inl ⟨rfl, rfl⟩, .inl rfl⟩, kp⟩
    | _ => cases c2
/-- an __init__ that says super().__init__, of the class x -/
theorem mdc_y {P : Program} {K : PySem.W.Frag} {mg : Str → Option Value} {d : DefY} {x : Str} (hP : P.main.file = PySem.Challenge.pw_alwaysnew_k15_whole_other_names.main.file) (hs : (P.main.scope.names.lookup ("super" : Str)).isSome = false) (hu : mg "super" = none) (e : fnY K (d.at_ K) = d.val) (c : codeB K d = true) (hc : d.cl = (["__class__"] : List Str)) (hd : d.at_ K = He.ma K (He.ga K x) "__init__")
    (s : superB K x = true) (t1 : PySem.W.typeIn K (.ref (He.ma K (He.ga K "Box") "__init__")) = some (.type "function")) (t2 : PySem.W.fnIn K (He.ma K (He.ga K "Box") "__init__") = true) (t3 : PySem.W.nsIn K cStatics "thirdparty.any" = some none) :
    ∃ cda, MdC P K mg d.name d.qual d.st (d.at_ K) (He.ga K x) (He.ma K (He.ga K "Box") "__init__") cda ∧ ∀ p : He.Defn, He.fAd K p = d.at_ K → He.codeOf K p = cda := by
  obtain ⟨kp, c2⟩ := He.ba c
  unfold fnY at e
  unfold superB at s
  rw [← hd] at s
  obtain ⟨s1, s2⟩ := He.ba s
  obtain ⟨s3, s4⟩ := He.ba s2
  obtain ⟨s5, s6⟩ := He.ba s4
  cases q : K.lookup (d.at_ K) with
  | none => rw [q] at c2; cases c2
  | some o =>
    obtain ⟨oc, od, dt, osl⟩ := o
    rw [q] at c2 e s1
    cases dt with
    | func fd =>
      obtain ⟨n1, n2, n3, n4, n5, n6, n7, n8, n9, n10, n11, n12, n13, n14, n15⟩ := fd
      have e2 : (some (n1, n2, n3, n4, n5, n6, n7.map (·.1), n8, n15) : FnY) = some (d.name, d.qual, defArgs d.st, .stmts (defBody d.st), defScope d.st, mainGlobals, d.cl, .none, builtinsNs) := e
      simp only [Option.some.injEq, Prod.mk.injEq] at e2
      obtain ⟨h1, h2, h3, h4, h5, h6, h7, h8, h9⟩ := e2
      subst h1 h2 h3 h4 h5 h6 h8 h9
      rw [hc] at h7
      obtain ⟨u1, u2⟩ := He.ba s1
      match n7, h7, u1, q, c2, u2 with
      | [(nm, cc)], h7, u1, q, c2, u2 =>
        have hnm : nm = "__class__" := by simpa using h7
        subst hnm
        have v1 : (match K.lookup cc with
          | some ⟨_, _, .cell (some (.ref D)), _⟩ => decide (D = He.ga K x)
          | _ => false) = true := u1
        have cell : ∃ c d sl, K.lookup cc = some ⟨c, d, .cell (some (.ref (He.ga K x))), sl⟩ := by
          split at v1
          · next a b D f g =>
            rw [← of_decide_eq_true v1]
            exact ⟨_, _, _, g⟩
          · cases v1
        cases n13 with
        | ref cda =>
          have w2 := u2
          dsimp only at w2
          have code : ∃ (ccl : Value) (cdd : Option Addr) (vs : Array Value) (ccs : Array (Option Value)) (file : Str) (tf : Tok), K.lookup cda = some ⟨ccl, cdd, .fields vs, ccs⟩ ∧ vs[2]? = some (.str file tf) ∧ ((P.main.file : Str) == file) = true := by
            split at w2
            · next a b vs f g =>
              split at w2
              · next file tf r => exact ⟨_, _, _, _, file, tf, g, r, by rw [hP]; exact w2⟩
              · cases w2
            · cases w2
          exact ⟨cda, ⟨⟨cc, oc, od, n9, n10, n11, n12, n14, osl, q, cell⟩, c2, code, Option.isSome_iff_exists.mp s3, of_decide_eq_true s5, He.eqO_ok s6, t1, t2, t3, hs, hu⟩, fun p hp => He.codeOf_eq (by rw [hp]; exact q) rfl⟩
        | _ => cases u2
    | _ => cases c2
theorem prop_of {K : PySem.W.Frag} {x f : Str} (h : propB K x f = true) : PropOf K (He.ga K x) f (He.ma K (He.ga K "Box") f) (gAd K (He.ga K "Box") f) := by
  obtain ⟨h1, h⟩ := He.ba h
  obtain ⟨h2, h⟩ := He.ba h
  obtain ⟨h3, h4⟩ := He.ba h
  refine ⟨He.eqO_ok h1, He.eqO_ok h2, of_decide_eq_true h3, ?_⟩
  unfold gAd
  split at h4
  · next g r q =>
    rw [q]
    exact ⟨_, rfl⟩
  · cases h4
theorem quiet_of {K : PySem.W.Frag} (h : quietB K = true) (H : Hp) : SqT K H (quietAt K) [] := by
  unfold quietB at h
  split at h
  · next c b its n sl q =>
    obtain ⟨h1, h2⟩ := He.ba h
    have e : its = #[] := Array.isEmpty_iff.mp h2
    subst e
    exact .inr ⟨_, #[], _, q, congrArg Value.type (of_decide_eq_true h1), rfl, by simp, .nil⟩
  · cases h
theorem ne_of_B {K : PySem.W.Frag} {x : Str} (h : neB K x = true) (hf : PySem.W.isFn K (.ref (He.ma K (He.ga K "Box") "__eq__")) = true) : NeOk K (He.ga K x) (He.ma K (He.ga K "Box") "__eq__") ∧ PySem.W.notFirst K (He.ga K x) (.ref (He.ga K "Box")) = true := by
  obtain ⟨h1, h⟩ := He.ba h
  obtain ⟨h2, h⟩ := He.ba h
  obtain ⟨h3, h4⟩ := He.ba h
  exact ⟨⟨He.eqO_ok h1, He.eqO_ok h2, hf, of_decide_eq_true h3⟩, h4⟩
theorem ins_of {K : PySem.W.Frag} (hc : Cls K (He.ga K "Box")) (h : insB K = true) : C8.InsC K (He.ga K "Box") := by
  obtain ⟨h1, h⟩ := He.ba h
  obtain ⟨h2, h⟩ := He.ba h
  obtain ⟨h3, h⟩ := He.ba h
  obtain ⟨h4, h5⟩ := He.ba h
  exact ⟨hc, He.eqO_ok h1, He.eqO_ok h2, of_decide_eq_true h3, of_decide_eq_true h4, of_decide_eq_true h5⟩
theorem held_of {P : Program} {w : World} {K : PySem.W.Frag} {mg : Str → Option Value} {base : Heap} {k : Nat} {x : Str} {f : Addr} {sp : Sp} (hm : mg x = some (.ref f)) (D : Df P w K mg base k x sp) : HeldR P w K mg base k f sp := by
  obtain ⟨f', hm', kp, F⟩ := D.ex
  rw [hm] at hm'
  cases hm'
  exact ⟨kp, F⟩
/-! ### names by keyword -/
theorem ren_binds {ks : List Str} (h : ks ∈ ([["a", "b"], ["b", "a"], ["a"], ["zz"]] : List (List Str))) (cc cda : Addr) (kV doc pm : Value) (an : Option Addr) (ct : Value) (us ws : List Value) (l1 : us.length = 2) (l2 : ws.length = ks.length) : bindArgs (PySem.W.fnX "__init__" "Renamed.__init__" (defArgs s_Renamed___init__) (defBody s_Renamed___init__) (defScope s_Renamed___init__) [("__class__", cc)] .none kV doc pm an (.ref cda) ct) ⟨us, ks.zip ws⟩ =
      ((alloc ({ cls := .type "dict", data := .dict #[] } : Obj) : Sem Addr) >>= fun d => (forIn (ks.zip ws) PUnit.unit fun x _ => (nsSet d x.1 x.2 >>= fun _ => pure (ForInStep.yield PUnit.unit))) >>= fun _ => pure ((["self", "box"] : List Str).zip us ++ [(("names" : Str), Value.ref d)])) := by
  simp only [List.mem_cons, List.not_mem_nil, or_false] at h
  rcases h with rfl | rfl | rfl | rfl
  · match us, ws, l1, l2 with
    | [_, _], [_, _], _, _ => rfl
  · match us, ws, l1, l2 with
    | [_, _], [_, _], _, _ => rfl
  · match us, ws, l1, l2 with
    | [_, _], [_], _, _ => rfl
  · match us, ws, l1, l2 with
    | [_, _], [_], _, _ => rfl

abbrev lawK : PySem.W.OpenLaw := PySem.Challenge.rw_alwaysnew_k15_whole_other_names
theorem law_at {w : World} {mg : Str → Option Value} {fa : Addr} {h : Heap} {K : PySem.W.Frag} (c : SaysK h K) (G : h.Ns mainGlobals mg) (hfa : mg "law" = some (.ref fa)) : LamX.LawAtS lawK w K CX0 12 63 "_law_script" mg fa h := by
  obtain ⟨g, hg, e⟩ := c.obs
  have X := c.kin
  have D : He.SaysD facts defs K := congrArg (fun z : AlK => z.1) e
  have eB : tabK g K :: moreL K = List.replicate 23 true := congrArg (fun z : AlK => z.2.1) e
  have eY : (defY.map fun d => fnY K (d.at_ K)) = defY.map DefY.val := congrArg (fun z : AlK => z.2.2) e
  have b0 : tabK g K = true := Option.some.inj (congrArg (fun l : List Bool => l[0]?) eB)
  have b1 : quietB K = true := Option.some.inj (congrArg (fun l : List Bool => l[1]?) eB)
  have b2 : propB K "Box" "machine" = true := Option.some.inj (congrArg (fun l : List Bool => l[2]?) eB)
  have b3 : propB K "Box" "letters" = true := Option.some.inj (congrArg (fun l : List Bool => l[3]?) eB)
  have b4 : propB K "Renamed" "machine" = true := Option.some.inj (congrArg (fun l : List Bool => l[4]?) eB)
  have b5 : propB K "Renamed" "letters" = true := Option.some.inj (congrArg (fun l : List Bool => l[5]?) eB)
  have b6 : codeB K y_machine = true := Option.some.inj (congrArg (fun l : List Bool => l[6]?) eB)
  have b7 : codeB K y_letters = true := Option.some.inj (congrArg (fun l : List Bool => l[7]?) eB)
  have b8 : codeB K y_Renamed = true := Option.some.inj (congrArg (fun l : List Bool => l[8]?) eB)
  have b9 : codeB K y_Quiet = true := Option.some.inj (congrArg (fun l : List Bool => l[9]?) eB)
  have b10 : superB K "Renamed" = true := Option.some.inj (congrArg (fun l : List Bool => l[10]?) eB)
  have b11 : superB K "Quiet" = true := Option.some.inj (congrArg (fun l : List Bool => l[11]?) eB)
  have b12 : neB K "Renamed" = true := Option.some.inj (congrArg (fun l : List Bool => l[12]?) eB)
  have b13 : neB K "Quiet" = true := Option.some.inj (congrArg (fun l : List Bool => l[13]?) eB)
  have b14 : insB K = true := Option.some.inj (congrArg (fun l : List Bool => l[14]?) eB)
  have b15 : contB K "Box" = true := Option.some.inj (congrArg (fun l : List Bool => l[15]?) eB)
  have b16 : contB K "Renamed" = true := Option.some.inj (congrArg (fun l : List Bool => l[16]?) eB)
  have b17 : PySem.W.isFn K (.ref (He.ma K (He.ga K "Box") "__contains__")) = true := Option.some.inj (congrArg (fun l : List Bool => l[17]?) eB)
  have b18 : PySem.W.isFn K (.ref (He.ma K (He.ga K "Box") "__eq__")) = true := Option.some.inj (congrArg (fun l : List Bool => l[18]?) eB)
  have b19 : PySem.W.fnIn K (He.ma K (He.ga K "Box") "__call__") = true := Option.some.inj (congrArg (fun l : List Bool => l[19]?) eB)
  have b20 : decide (PySem.W.typeIn K (.ref (He.ma K (He.ga K "Box") "__init__")) = some (.type "function")) = true := Option.some.inj (congrArg (fun l : List Bool => l[20]?) eB)
  have b21 : PySem.W.fnIn K (He.ma K (He.ga K "Box") "__init__") = true := Option.some.inj (congrArg (fun l : List Bool => l[21]?) eB)
  have b22 : He.eqO (PySem.W.nsIn K cStatics "thirdparty.any") (some none) = true := Option.some.inj (congrArg (fun l : List Bool => l[22]?) eB)
  have v_machine : fnY K (y_machine.at_ K) = y_machine.val := Option.some.inj (congrArg (fun l : List FnY => l[0]?) eY)
  have v_letters : fnY K (y_letters.at_ K) = y_letters.val := Option.some.inj (congrArg (fun l : List FnY => l[1]?) eY)
  have v_Renamed : fnY K (y_Renamed.at_ K) = y_Renamed.val := Option.some.inj (congrArg (fun l : List FnY => l[2]?) eY)
  have v_Quiet : fnY K (y_Quiet.at_ K) = y_Quiet.val := Option.some.inj (congrArg (fun l : List FnY => l[3]?) eY)
  have T : Top mg := {
    len_ := He.free_ok X G (D.fact 51 (f := .free "len") rfl)
    all_ := He.free_ok X G (D.fact 52 (f := .free "all") rfl)
    any_ := He.free_ok X G (D.fact 53 (f := .free "any") rfl)
    isinstance_ := He.free_ok X G (D.fact 54 (f := .free "isinstance") rfl)
    sorted_ := He.free_ok X G (D.fact 55 (f := .free "sorted") rfl)
    max_ := He.free_ok X G (D.fact 56 (f := .free "max") rfl)
    zip_ := He.free_ok X G (D.fact 57 (f := .free "zip") rfl)
    enumerate_ := He.free_ok X G (D.fact 58 (f := .free "enumerate") rfl)
    range_ := He.free_ok X G (D.fact 59 (f := .free "range") rfl)
    super_ := He.free_ok X G (D.fact 60 (f := .free "super") rfl)
    int_ := He.free_ok X G (D.fact 61 (f := .free "int") rfl)
    bool_ := He.free_ok X G (D.fact 62 (f := .free "bool") rfl)
    str_ := He.free_ok X G (D.fact 63 (f := .free "str") rfl)
    tuple_ := He.free_ok X G (D.fact 64 (f := .free "tuple") rfl)
    list_ := He.free_ok X G (D.fact 65 (f := .free "list") rfl)
    dict_ := He.free_ok X G (D.fact 66 (f := .free "dict") rfl)
    set_ := He.free_ok X G (D.fact 67 (f := .free "set") rfl)
    LETTERS := let ⟨t, q⟩ := He.str_ok X G (D.fact 68 (f := .str "LETTERS" "abcdefghijklmnopqrstuvwxyz") rfl); ⟨_, q, t, rfl⟩
    SILENT := let ⟨t, q⟩ := He.str_ok X G (D.fact 69 (f := .str "SILENT" "") rfl); ⟨_, q, t, rfl⟩
    NOTHING_WORD := let ⟨t, q⟩ := He.str_ok X G (D.fact 70 (f := .str "NOTHING_WORD" "-") rfl); ⟨_, q, t, rfl⟩
    DIGITS := let ⟨t, q⟩ := He.str_ok X G (D.fact 71 (f := .str "DIGITS" "0123456789") rfl); ⟨_, q, t, rfl⟩
    LONGEST_NAME := let ⟨t, q⟩ := He.int_ok X G (D.fact 72 (f := .int "LONGEST_NAME" 8) rfl); ⟨_, q, t, rfl⟩
    MOST_DIGITS := let ⟨t, q⟩ := He.int_ok X G (D.fact 73 (f := .int "MOST_DIGITS" 60) rfl); ⟨_, q, t, rfl⟩
  }
  have F_is_integer : Fn K mg "is_integer" "is_integer" s_is_integer := let ⟨fd, q⟩ := D.def_ 0 (d := e_is_integer) rfl; ⟨⟨_, fd, He.glo_ok X G (D.fact 0 (f := .glo "is_integer") rfl), q⟩⟩
  have F_is_number : Fn K mg "is_number" "is_number" s_is_number := let ⟨fd, q⟩ := D.def_ 1 (d := e_is_number) rfl; ⟨⟨_, fd, He.glo_ok X G (D.fact 1 (f := .glo "is_number") rfl), q⟩⟩
  have F_is_name : Fn K mg "is_name" "is_name" s_is_name := let ⟨fd, q⟩ := D.def_ 2 (d := e_is_name) rfl; ⟨⟨_, fd, He.glo_ok X G (D.fact 2 (f := .glo "is_name") rfl), q⟩⟩
  have F_is_word : Fn K mg "is_word" "is_word" s_is_word := let ⟨fd, q⟩ := D.def_ 3 (d := e_is_word) rfl; ⟨⟨_, fd, He.glo_ok X G (D.fact 3 (f := .glo "is_word") rfl), q⟩⟩
  have F_is_ascending : Fn K mg "is_ascending" "is_ascending" s_is_ascending := let ⟨fd, q⟩ := D.def_ 4 (d := e_is_ascending) rfl; ⟨⟨_, fd, He.glo_ok X G (D.fact 4 (f := .glo "is_ascending") rfl), q⟩⟩
  have F_is_reading : Fn K mg "is_reading" "is_reading" s_is_reading := let ⟨fd, q⟩ := D.def_ 5 (d := e_is_reading) rfl; ⟨⟨_, fd, He.glo_ok X G (D.fact 5 (f := .glo "is_reading") rfl), q⟩⟩
  have F_is_quiet : Fn K mg "is_quiet" "is_quiet" s_is_quiet := let ⟨fd, q⟩ := D.def_ 6 (d := e_is_quiet) rfl; ⟨⟨_, fd, He.glo_ok X G (D.fact 6 (f := .glo "is_quiet") rfl), q⟩⟩
  have F_is_letters : Fn K mg "is_letters" "is_letters" s_is_letters := let ⟨fd, q⟩ := D.def_ 7 (d := e_is_letters) rfl; ⟨⟨_, fd, He.glo_ok X G (D.fact 7 (f := .glo "is_letters") rfl), q⟩⟩
  have F_require_letters : Fn K mg "require_letters" "require_letters" s_require_letters := let ⟨fd, q⟩ := D.def_ 8 (d := e_require_letters) rfl; ⟨⟨_, fd, He.glo_ok X G (D.fact 8 (f := .glo "require_letters") rfl), q⟩⟩
  have F_require_states : Fn K mg "require_states" "require_states" s_require_states := let ⟨fd, q⟩ := D.def_ 9 (d := e_require_states) rfl; ⟨⟨_, fd, He.glo_ok X G (D.fact 9 (f := .glo "require_states") rfl), q⟩⟩
  have F_row_step : Fn K mg "row_step" "row_step" s_row_step := let ⟨fd, q⟩ := D.def_ 10 (d := e_row_step) rfl; ⟨⟨_, fd, He.glo_ok X G (D.fact 10 (f := .glo "row_step") rfl), q⟩⟩
  have F_step : Fn K mg "step" "step" s_step := let ⟨fd, q⟩ := D.def_ 11 (d := e_step) rfl; ⟨⟨_, fd, He.glo_ok X G (D.fact 11 (f := .glo "step") rfl), q⟩⟩
  have F_run : Fn K mg "run" "run" s_run := let ⟨fd, q⟩ := D.def_ 12 (d := e_run) rfl; ⟨⟨_, fd, He.glo_ok X G (D.fact 12 (f := .glo "run") rfl), q⟩⟩
  have F_least_pasts : Fn K mg "least_pasts" "least_pasts" s_least_pasts := let ⟨fd, q⟩ := D.def_ 15 (d := e_least_pasts) rfl; ⟨⟨_, fd, He.glo_ok X G (D.fact 15 (f := .glo "least_pasts") rfl), q⟩⟩
  have F_reached_states : Fn K mg "reached_states" "reached_states" s_reached_states := let ⟨fd, q⟩ := D.def_ 16 (d := e_reached_states) rfl; ⟨⟨_, fd, He.glo_ok X G (D.fact 16 (f := .glo "reached_states") rfl), q⟩⟩
  have F_past_to : Fn K mg "past_to" "past_to" s_past_to := let ⟨fd, q⟩ := D.def_ 17 (d := e_past_to) rfl; ⟨⟨_, fd, He.glo_ok X G (D.fact 17 (f := .glo "past_to") rfl), q⟩⟩
  have F_walked : Fn K mg "walked" "walked" s_walked := let ⟨fd, q⟩ := D.def_ 18 (d := e_walked) rfl; ⟨⟨_, fd, He.glo_ok X G (D.fact 18 (f := .glo "walked") rfl), q⟩⟩
  have F_quieted : Fn K mg "quieted" "quieted" s_quieted := let ⟨fd, q⟩ := D.def_ 19 (d := e_quieted) rfl; ⟨⟨_, fd, He.glo_ok X G (D.fact 19 (f := .glo "quieted") rfl), q⟩⟩
  have F_is_pair : Fn K mg "is_pair" "is_pair" s_is_pair := let ⟨fd, q⟩ := D.def_ 20 (d := e_is_pair) rfl; ⟨⟨_, fd, He.glo_ok X G (D.fact 20 (f := .glo "is_pair") rfl), q⟩⟩
  have F_is_row : Fn K mg "is_row" "is_row" s_is_row := let ⟨fd, q⟩ := D.def_ 21 (d := e_is_row) rfl; ⟨⟨_, fd, He.glo_ok X G (D.fact 21 (f := .glo "is_row") rfl), q⟩⟩
  have F_has_shape : Fn K mg "has_shape" "has_shape" s_has_shape := let ⟨fd, q⟩ := D.def_ 22 (d := e_has_shape) rfl; ⟨⟨_, fd, He.glo_ok X G (D.fact 22 (f := .glo "has_shape") rfl), q⟩⟩
  have F_lets_machine : Fn K mg "lets_machine" "lets_machine" s_lets_machine := let ⟨fd, q⟩ := D.def_ 23 (d := e_lets_machine) rfl; ⟨⟨_, fd, He.glo_ok X G (D.fact 23 (f := .glo "lets_machine") rfl), q⟩⟩
  have F_reading_text : Fn K mg "reading_text" "reading_text" s_reading_text := let ⟨fd, q⟩ := D.def_ 24 (d := e_reading_text) rfl; ⟨⟨_, fd, He.glo_ok X G (D.fact 24 (f := .glo "reading_text") rfl), q⟩⟩
  have F_pair_word : Fn K mg "pair_word" "pair_word" s_pair_word := let ⟨fd, q⟩ := D.def_ 25 (d := e_pair_word) rfl; ⟨⟨_, fd, He.glo_ok X G (D.fact 25 (f := .glo "pair_word") rfl), q⟩⟩
  have F_state_line : Fn K mg "state_line" "state_line" s_state_line := let ⟨fd, q⟩ := D.def_ 26 (d := e_state_line) rfl; ⟨⟨_, fd, He.glo_ok X G (D.fact 26 (f := .glo "state_line") rfl), q⟩⟩
  have F_machine_text : Fn K mg "machine_text" "machine_text" s_machine_text := let ⟨fd, q⟩ := D.def_ 27 (d := e_machine_text) rfl; ⟨⟨_, fd, He.glo_ok X G (D.fact 27 (f := .glo "machine_text") rfl), q⟩⟩
  have F_number_or_none : Fn K mg "number_or_none" "number_or_none" s_number_or_none := let ⟨fd, q⟩ := D.def_ 28 (d := e_number_or_none) rfl; ⟨⟨_, fd, He.glo_ok X G (D.fact 28 (f := .glo "number_or_none") rfl), q⟩⟩
  have F_said_or_none : Fn K mg "said_or_none" "said_or_none" s_said_or_none := let ⟨fd, q⟩ := D.def_ 29 (d := e_said_or_none) rfl; ⟨⟨_, fd, He.glo_ok X G (D.fact 29 (f := .glo "said_or_none") rfl), q⟩⟩
  have F_letters_or_none : Fn K mg "letters_or_none" "letters_or_none" s_letters_or_none := let ⟨fd, q⟩ := D.def_ 30 (d := e_letters_or_none) rfl; ⟨⟨_, fd, He.glo_ok X G (D.fact 30 (f := .glo "letters_or_none") rfl), q⟩⟩
  have F_pair_or_none : Fn K mg "pair_or_none" "pair_or_none" s_pair_or_none := let ⟨fd, q⟩ := D.def_ 31 (d := e_pair_or_none) rfl; ⟨⟨_, fd, He.glo_ok X G (D.fact 31 (f := .glo "pair_or_none") rfl), q⟩⟩
  have F_values_of : Fn K mg "values_of" "values_of" s_values_of := let ⟨fd, q⟩ := D.def_ 32 (d := e_values_of) rfl; ⟨⟨_, fd, He.glo_ok X G (D.fact 32 (f := .glo "values_of") rfl), q⟩⟩
  have F_machine_read : Fn K mg "machine_read" "machine_read" s_machine_read := let ⟨fd, q⟩ := D.def_ 33 (d := e_machine_read) rfl; ⟨⟨_, fd, He.glo_ok X G (D.fact 33 (f := .glo "machine_read") rfl), q⟩⟩
  have F__law_reader : Fn K mg "_law_reader" "_law_reader" s__law_reader := let ⟨fd, q⟩ := D.def_ 34 (d := e__law_reader) rfl; ⟨⟨_, fd, He.glo_ok X G (D.fact 34 (f := .glo "_law_reader") rfl), q⟩⟩
  have F__law_draw : Fn K mg "_law_draw" "_law_draw" s__law_draw := let ⟨fd, q⟩ := D.def_ 35 (d := e__law_draw) rfl; ⟨⟨_, fd, He.glo_ok X G (D.fact 35 (f := .glo "_law_draw") rfl), q⟩⟩
  have F__law_random_letters : Fn K mg "_law_random_letters" "_law_random_letters" s__law_random_letters := let ⟨fd, q⟩ := D.def_ 36 (d := e__law_random_letters) rfl; ⟨⟨_, fd, He.glo_ok X G (D.fact 36 (f := .glo "_law_random_letters") rfl), q⟩⟩
  have F__law_random_machine : Fn K mg "_law_random_machine" "_law_random_machine" s__law_random_machine := let ⟨fd, q⟩ := D.def_ 37 (d := e__law_random_machine) rfl; ⟨⟨_, fd, He.glo_ok X G (D.fact 37 (f := .glo "_law_random_machine") rfl), q⟩⟩
  have F__law_fixed_machines : Fn K mg "_law_fixed_machines" "_law_fixed_machines" s__law_fixed_machines := let ⟨fd, q⟩ := D.def_ 38 (d := e__law_fixed_machines) rfl; ⟨⟨_, fd, He.glo_ok X G (D.fact 38 (f := .glo "_law_fixed_machines") rfl), q⟩⟩
  have F__law_readings : Fn K mg "_law_readings" "_law_readings" s__law_readings := let ⟨fd, q⟩ := D.def_ 39 (d := e__law_readings) rfl; ⟨⟨_, fd, He.glo_ok X G (D.fact 39 (f := .glo "_law_readings") rfl), q⟩⟩
  have F__law_other_letters : Fn K mg "_law_other_letters" "_law_other_letters" s__law_other_letters := let ⟨fd, q⟩ := D.def_ 40 (d := e__law_other_letters) rfl; ⟨⟨_, fd, He.glo_ok X G (D.fact 40 (f := .glo "_law_other_letters") rfl), q⟩⟩
  have F__law_other_words : Fn K mg "_law_other_words" "_law_other_words" s__law_other_words := let ⟨fd, q⟩ := D.def_ 41 (d := e__law_other_words) rfl; ⟨⟨_, fd, He.glo_ok X G (D.fact 41 (f := .glo "_law_other_words") rfl), q⟩⟩
  have F__law_put : Fn K mg "_law_put" "_law_put" s__law_put := let ⟨fd, q⟩ := D.def_ 42 (d := e__law_put) rfl; ⟨⟨_, fd, He.glo_ok X G (D.fact 42 (f := .glo "_law_put") rfl), q⟩⟩
  have F__law_check_letters : Fn K mg "_law_check_letters" "_law_check_letters" s__law_check_letters := let ⟨fd, q⟩ := D.def_ 43 (d := e__law_check_letters) rfl; ⟨⟨_, fd, He.glo_ok X G (D.fact 43 (f := .glo "_law_check_letters") rfl), q⟩⟩
  have F__law_check_words : Fn K mg "_law_check_words" "_law_check_words" s__law_check_words := let ⟨fd, q⟩ := D.def_ 44 (d := e__law_check_words) rfl; ⟨⟨_, fd, He.glo_ok X G (D.fact 44 (f := .glo "_law_check_words") rfl), q⟩⟩
  have F_require_machinechecker : Fn K mg "require_machinechecker" "require" s_require0 := let ⟨fd, q⟩ := D.def_ 46 (d := e_require0) rfl; ⟨⟨_, fd, He.glo_ok X G (D.fact 46 (f := .glo "require_machinechecker") rfl), q⟩⟩
  have F_require_boxes : Fn K mg "require_boxes" "require" s_require1 := let ⟨fd, q⟩ := D.def_ 47 (d := e_require1) rfl; ⟨⟨_, fd, He.glo_ok X G (D.fact 47 (f := .glo "require_boxes") rfl), q⟩⟩
  have F_led : FnK K mg "led" s_led [("state", .int 0)] := let ⟨fd, q⟩ := D.def_ 13 (d := e_led) rfl; ⟨⟨_, fd, He.glo_ok X G (D.fact 13 (f := .glo "led") rfl), q⟩⟩
  have F_said : FnSaid K mg := let ⟨fd, q⟩ := D.def_ 14 (d := e_said) rfl; ⟨⟨_, _, fd, He.glo_ok X G (D.fact 14 (f := .glo "said") rfl), q, quiet_of b1⟩⟩
  have g_Box : mg "Box" = some (.ref (He.ga K "Box")) := He.glo_ok X G (D.fact 48 (f := .glo "Box") rfl)
  have hc_Box : Bc K (He.ga K "Box") := ⟨He.cls_ok (D.fact 74 (f := .cls "Box") rfl), He.noat_ok (D.fact 75 (f := .noat "Box" "own_machine") rfl)⟩
  have mk_Box : Mk K (He.ga K "Box") (He.ma K (He.ga K "Box") "__init__") := He.mkr_ok (D.fact 76 (f := .mkr "Box") rfl)
  have g_Renamed : mg "Renamed" = some (.ref (He.ga K "Renamed")) := He.glo_ok X G (D.fact 49 (f := .glo "Renamed") rfl)
  have hc_Renamed : Bc K (He.ga K "Renamed") := ⟨He.cls_ok (D.fact 77 (f := .cls "Renamed") rfl), He.noat_ok (D.fact 78 (f := .noat "Renamed" "own_machine") rfl)⟩
  have mk_Renamed : Mk K (He.ga K "Renamed") (He.ma K (He.ga K "Renamed") "__init__") := He.mkr_ok (D.fact 79 (f := .mkr "Renamed") rfl)
  have g_Quiet : mg "Quiet" = some (.ref (He.ga K "Quiet")) := He.glo_ok X G (D.fact 50 (f := .glo "Quiet") rfl)
  have hc_Quiet : Bc K (He.ga K "Quiet") := ⟨He.cls_ok (D.fact 80 (f := .cls "Quiet") rfl), He.noat_ok (D.fact 81 (f := .noat "Quiet" "own_machine") rfl)⟩
  have mk_Quiet : Mk K (He.ga K "Quiet") (He.ma K (He.ga K "Quiet") "__init__") := He.mkr_ok (D.fact 82 (f := .mkr "Quiet") rfl)
  have M___init__ : Md K "__init__" "Box.__init__" s_Box___init__ (He.ma K (He.ga K "Box") "__init__") := let ⟨fd, q⟩ := D.def_ 48 (d := e_Box___init__) rfl; ⟨⟨fd, q⟩⟩
  have M___call__ : Md K "__call__" "Box.__call__" s_Box___call__ (He.ma K (He.ga K "Box") "__call__") := let ⟨fd, q⟩ := D.def_ 49 (d := e_Box___call__) rfl; ⟨⟨fd, q⟩⟩
  have M___contains__ : Md K "__contains__" "Box.__contains__" s_Box___contains__ (He.ma K (He.ga K "Box") "__contains__") := let ⟨fd, q⟩ := D.def_ 50 (d := e_Box___contains__) rfl; ⟨⟨fd, q⟩⟩
  have M___eq__ : Md K "__eq__" "Box.__eq__" s_Box___eq__ (He.ma K (He.ga K "Box") "__eq__") := let ⟨fd, q⟩ := D.def_ 51 (d := e_Box___eq__) rfl; ⟨⟨fd, q⟩⟩
  have M_machine : Md K "machine" "Box.machine" s_Box_machine (gAd K (He.ga K "Box") "machine") := ⟨funD_y v_machine b6 rfl⟩
  have M_letters : Md K "letters" "Box.letters" s_Box_letters (gAd K (He.ga K "Box") "letters") := ⟨funD_y v_letters b7 rfl⟩
  have t1 := of_decide_eq_true b20
  have t3 := He.eqO_ok b22
  obtain ⟨cR, mdR, hcdR⟩ := mdc_y (P := lawK.prog) (mg := mg) (d := y_Renamed) (x := "Renamed") (by kernel_rfl) (by kernel_rfl) T.super_ v_Renamed b8 rfl rfl b10 t1 b21 t3
  obtain ⟨cQ, mdQ, _⟩ := mdc_y (P := lawK.prog) (mg := mg) (d := y_Quiet) (x := "Quiet") (by kernel_rfl) (by kernel_rfl) T.super_ v_Quiet b9 rfl rfl b11 t1 b21 t3
  have ecR : (He.cT K renAt).1 = cR := hcdR renAt rfl
  obtain ⟨nR, nfR⟩ := ne_of_B b12 b18
  have cB : PySem.W.findIn K (.ref (He.ga K "Box")) "__contains__" = some (some (.ref (He.ma K (He.ga K "Box") "__contains__"))) := He.eqO_ok b15
  have cRn : PySem.W.findIn K (.ref (He.ga K "Renamed")) "__contains__" = some (some (.ref (He.ma K (He.ga K "Box") "__contains__"))) := He.eqO_ok b16
  obtain ⟨nQ, nfQ⟩ := ne_of_B b13 b18
  have ic := ins_of hc_Box.cls b14
  have cO : StX.CallO K (He.ga K "Box") (He.ma K (He.ga K "Box") "__call__") := ⟨(He.meth_ok (D.fact 83 (f := .meth "Box" "__call__") rfl)).at_, (He.meth_ok (D.fact 83 (f := .meth "Box" "__call__") rfl)).fn, b19⟩
  obtain ⟨fd, FL⟩ := D.def_ 45 (d := e_law) rfl
  have hf : fa = He.fAd K ("law", none) := by
    have := hfa.symm.trans (He.glo_ok X G (D.fact 45 (f := .glo "law") rfl))
    cases this
    rfl
  subst hf
  obtain ⟨b01, b02⟩ := He.ba b0
  refine ⟨fd, [He.cT K renAt], SpLaw K [((He.cT K renAt).2, ("Renamed.__init__" : Str) ++ ".<locals>." ++ "<lambda>")], fun p hp => ?_, fun p hp => ?_, fun p hp => ?_, ?_, fun H a ns hl _ hH hS => ?_, fun base KB GB TB => ?_⟩
  · obtain rfl := List.mem_singleton.mp hp
    cases q : g (He.cT K renAt).2 with
    | none => rw [q] at b02; cases b02
    | some o =>
      rw [q] at b02
      rw [← He.emptyTab_eq b02]
      exact hg _ _ q
  · obtain rfl := List.mem_singleton.mp hp
    exact c.out
  · obtain rfl := List.mem_singleton.mp hp
    exact PySem.W.codeHd_of_K X b01
  · have b := FunD.bindsA (ps := ["_law_script"]) FL fun _ _ _ _ _ _ us hl => match us, hl with | [_], _ => rfl
    exact fun s v => b s [v] rfl
  · refine ⟨a, ns, rfl, hS, hl, fun p hp => ?_, fun _ => rfl⟩
    obtain rfl := List.mem_singleton.mp hp
    exact LamX.TabS.nil (hH _ (List.mem_singleton.mpr rfl))
  · have TBR : TabB base mg cR (He.cT K renAt).2 := ecR ▸ TB _ (List.mem_singleton.mpr rfl)
    have d_is_integer := df_is_integer (P := lawK.prog) (w := w) (base := base) T F_is_integer
    have d_is_number := df_is_number (P := lawK.prog) (w := w) (base := base) T F_is_number d_is_integer
    have d_is_name := df_is_name (P := lawK.prog) (w := w) (base := base) T F_is_name
    have d_is_word := df_is_word (P := lawK.prog) (w := w) (base := base) T F_is_word d_is_name
    have d_is_ascending := df_is_ascending (P := lawK.prog) (w := w) (base := base) T F_is_ascending
    have d_is_reading := df_is_reading (P := lawK.prog) (w := w) (base := base) T F_is_reading d_is_name
    have d_is_quiet := df_is_quiet (P := lawK.prog) (w := w) (base := base) T F_is_quiet d_is_reading d_is_ascending
    have d_is_letters := df_is_letters (P := lawK.prog) (w := w) (base := base) T F_is_letters d_is_quiet
    have d_require_machinechecker := df_require0 (P := lawK.prog) (w := w) (base := base) T F_require_machinechecker
    have d_is_pair := df_is_pair (P := lawK.prog) (w := w) (base := base) T F_is_pair d_is_integer d_is_word
    have d_is_row := df_is_row (P := lawK.prog) (w := w) (base := base) T F_is_row d_is_pair
    have d_has_shape := df_has_shape (P := lawK.prog) (w := w) (base := base) T F_has_shape d_is_reading d_is_row
    have d_lets_machine := df_lets_machine (P := lawK.prog) (w := w) (base := base) T F_lets_machine d_has_shape d_is_letters d_require_machinechecker
    have d_require_letters := df_require_letters (P := lawK.prog) (w := w) (base := base) T F_require_letters
    have d_require_states := df_require_states (P := lawK.prog) (w := w) (base := base) T F_require_states d_is_number
    have d_row_step := df_row_step (P := lawK.prog) (w := w) (base := base) T F_row_step
    have d_step := df_step (P := lawK.prog) (w := w) (base := base) T F_step d_require_letters d_require_states d_row_step
    have d_run := df_run (P := lawK.prog) (w := w) (base := base) T F_run d_row_step
    have d_least_pasts := df_least_pasts (P := lawK.prog) (w := w) (base := base) T F_least_pasts
    have d_reached_states := df_reached_states (P := lawK.prog) (w := w) (base := base) T F_reached_states d_least_pasts
    have d_past_to := df_past_to (P := lawK.prog) (w := w) (base := base) T F_past_to d_require_states d_least_pasts
    have d_walked := df_walked (P := lawK.prog) (w := w) (base := base) T F_walked d_least_pasts
    have d_quieted := df_quieted (P := lawK.prog) (w := w) (base := base) T F_quieted
    have d_reading_text := df_reading_text (P := lawK.prog) (w := w) (base := base) T F_reading_text
    have d_pair_word := df_pair_word (P := lawK.prog) (w := w) (base := base) T F_pair_word
    have d_state_line := df_state_line (P := lawK.prog) (w := w) (base := base) T F_state_line d_pair_word
    have d_machine_text := df_machine_text (P := lawK.prog) (w := w) (base := base) T F_machine_text d_reading_text d_state_line
    have d_number_or_none := df_number_or_none (P := lawK.prog) (w := w) (base := base) T F_number_or_none
    have d_said_or_none := df_said_or_none (P := lawK.prog) (w := w) (base := base) T F_said_or_none d_is_name
    have d_letters_or_none := df_letters_or_none (P := lawK.prog) (w := w) (base := base) T F_letters_or_none d_is_letters
    have d_pair_or_none := df_pair_or_none (P := lawK.prog) (w := w) (base := base) T F_pair_or_none d_number_or_none d_said_or_none
    obtain ⟨d_led, k_led⟩ := df_led (P := lawK.prog) (w := w) (base := base) T F_led d_require_letters d_require_states d_run
    obtain ⟨d_said, k_said⟩ := df_said (P := lawK.prog) (w := w) (base := base) T F_said d_require_letters d_require_states d_run
    have g_l := He.glo_ok X G (D.fact 30 (f := .glo "letters_or_none") rfl)
    have g_p := He.glo_ok X G (D.fact 31 (f := .glo "pair_or_none") rfl)
    have d_values_of := df_values_of (P := lawK.prog) (w := w) (base := base) T F_values_of (held_of g_l d_letters_or_none) (held_of g_p d_pair_or_none) (by decide) (by decide)
    have d_machine_read := df_machine_read (P := lawK.prog) (w := w) (base := base) T F_machine_read g_l g_p d_values_of
    have d_require_boxes := df_require1 (P := lawK.prog) (w := w) (base := base) T F_require_boxes
    have fi_Box := fn_init (P := lawK.prog) (w := w) (base := base) M___init__ T d_lets_machine d_walked
    have pmB : Pr lawK.prog w K mg base (He.ga K "Box") "machine" (SpGetM K (He.ga K "Box")) := let ⟨fd, h1, h2⟩ := fo_machine (P := lawK.prog) (w := w) (mg := mg) (base := base) hc_Box M_machine; ⟨⟨_, _, fd, prop_of b2, h1, h2⟩⟩
    have plB : Pr lawK.prog w K mg base (He.ga K "Box") "letters" (SpGetL K (He.ga K "Box")) := let ⟨fd, h1, h2⟩ := fo_letters (P := lawK.prog) (w := w) (mg := mg) (base := base) hc_Box M_letters; ⟨⟨_, _, fd, prop_of b3, h1, h2⟩⟩
    have pmR : Pr lawK.prog w K mg base (He.ga K "Renamed") "machine" (SpGetM K (He.ga K "Renamed")) := let ⟨fd, h1, h2⟩ := fo_machine (P := lawK.prog) (w := w) (mg := mg) (base := base) hc_Renamed M_machine; ⟨⟨_, _, fd, prop_of b4, h1, h2⟩⟩
    have plR : Pr lawK.prog w K mg base (He.ga K "Renamed") "letters" (SpGetL K (He.ga K "Renamed")) := let ⟨fd, h1, h2⟩ := fo_letters (P := lawK.prog) (w := w) (mg := mg) (base := base) hc_Renamed M_letters; ⟨⟨_, _, fd, prop_of b5, h1, h2⟩⟩
    have fn_eqB := fn_eq (P := lawK.prog) (w := w) (base := base) hc_Box ic T g_Box M___eq__
    have fn_callB := fn_call (P := lawK.prog) (w := w) (mg := mg) (base := base) hc_Box T M___call__ d_require_letters d_run
    have fcB := fn_contains (P := lawK.prog) (w := w) (base := base) hc_Box T M___contains__ plB
    have fcR := fn_contains (P := lawK.prog) (w := w) (base := base) hc_Renamed T M___contains__ plR
    have fi_Quiet := fn_quiet (P := lawK.prog) (w := w) (base := base) hc_Box hc_Quiet T mdQ fi_Box pmB d_is_name d_require_boxes d_quieted
    have fr : ∀ ks : List Str, ks ∈ ([["a", "b"], ["b", "a"], ["a"], ["zz"]] : List (List Str)) → FnRK lawK.prog w K mg base 8 (He.ma K (He.ga K "Renamed") "__init__") 2 ks (SpRenK K [((He.cT K renAt).2, ("Renamed.__init__" : Str) ++ ".<locals>." ++ "<lambda>")] (He.ga K "Renamed") (fun C => C = He.ga K "Box" ∨ C = He.ga K "Renamed") ks) := fun ks hks =>
      fn_ren (P := lawK.prog) (w := w) (base := base) (CB := He.ga K "Box") (BC := fun C => C = He.ga K "Box" ∨ C = He.ga K "Renamed") ((show ∀ ks ∈ ([["a", "b"], ["b", "a"], ["a"], ["zz"]] : List (List Str)), ks.Nodup by decide +kernel) ks hks) ((show ∀ ks ∈ ([["a", "b"], ["b", "a"], ["a"], ["zz"]] : List (List Str)), ks.length ≤ 1000 by decide +kernel) ks hks) T TBR (List.mem_singleton.mpr rfl) (fun p hp _ => by rw [List.mem_singleton.mp hp]) mdR fi_Box hc_Renamed
        (fun C hC => hC.elim (fun z => by subst z; exact hc_Box) fun z => by subst z; exact hc_Renamed) (g := He.ma K (He.ga K "Box") "__contains__") (fun C hC => hC.elim (fun z => by subst z; exact cB) fun z => by subst z; exact cRn) (fun C hC => hC.elim (fun z => by subst z; exact fcB) fun z => by subst z; exact fcR) b17 (fun C hC => hC.elim (fun z => by subst z; exact pmB) fun z => by subst z; exact pmR) (fun C hC => hC.elim (fun z => by subst z; exact plB) fun z => by subst z; exact plR) d_is_name d_require_boxes
        (fun cc kV doc pm an ct us ws l1 l2 => ren_binds hks cc cR kV doc pm an ct us ws l1 l2)
    have d__law_reader := df_reader (P := lawK.prog) (w := w) (base := base) T F__law_reader
    have d__law_draw := df_draw (P := lawK.prog) (w := w) (base := base) T F__law_draw
    have d__law_random_letters := df_random_letters (P := lawK.prog) (w := w) (base := base) T F__law_random_letters d__law_draw
    have d__law_random_machine := df_random_machine (P := lawK.prog) (w := w) (base := base) T F__law_random_machine d__law_draw
    have d__law_fixed_machines := df_fixed (P := lawK.prog) (w := w) (base := base) T F__law_fixed_machines
    have d__law_put := df_put (P := lawK.prog) (w := w) (base := base) T F__law_put
    have d__law_other_words := df_other_words (P := lawK.prog) (w := w) (base := base) T F__law_other_words
    have d__law_other_letters := df_other_letters (P := lawK.prog) (w := w) (base := base) T F__law_other_letters
    have d__law_readings := df_readings (P := lawK.prog) (w := w) (base := base) T F__law_readings
    have d__law_check_letters := df_check_letters (P := lawK.prog) (w := w) (base := base) T F__law_check_letters hc_Box g_Box mk_Box fi_Box cO fn_callB d__law_other_letters d__law_readings d__law_put d_lets_machine d_reached_states k_led k_said d_step d_reading_text d_past_to d_walked d_machine_text d_machine_read
    have d__law_check_words := df_check_words (P := lawK.prog) (w := w) (base := base) T F__law_check_words hc_Box hc_Quiet g_Box mk_Box fi_Box g_Quiet mk_Quiet fi_Quiet fn_eqB nQ nfQ d__law_other_words d__law_readings d_lets_machine d_led d_said d_walked d_quieted d_machine_text
    exact ok_law (P := lawK.prog) (w := w) (base := base) T FL hc_Box hc_Renamed g_Box mk_Box fi_Box g_Renamed mk_Renamed fr fn_eqB nR nfR d__law_reader d__law_draw d__law_random_letters d__law_random_machine d__law_fixed_machines d__law_other_letters d__law_check_letters d__law_check_words
end K15
open PySem PySem.W PySem.Calls PyProof.Rows
set_option maxHeartbeats 0 in
theorem PySem.Challenge.cw_alwaysnew_k15_whole_other_names_holds : PySem.Challenge.rw_alwaysnew_k15_whole_other_names.Holds := by
  w_on; o_law
  refine HandSHeadRun.head_any (r := K15.RowK) (q := view K15.RowK.prog [80]) (H := K15.hookK) (ob := K15.obK) (M := 6000) (loose := K15.loose) (d := HandSHeadRun.topDef K15.RowK.prog 80) (kwd := []) K15.obK_eq
    (by kernel_rfl) (fun s => by kernel_rfl) K15.runK (by kernel_rfl) (by kernel_rfl) (by kernel_rfl) (by rfl) (by first | assumption | decide +kernel) (by decide +kernel) ⟨rfl, rfl, rfl, rfl, rfl, by decide +kernel⟩ ?hw ?hc
  case hw => w_witness2
  case hc =>
    refine LamX.walk_ofTsE (l := K15.lawK) (n := 63) (k := 12) (x := "_law_script") (CX := fun _ => L2.CX0) rfl (by decide) (by kernel_rfl) ⟨rfl, by decide, by decide⟩ ?F (fun _ _ _ _ _ z => z)
    intro w mg fa h Y G hmg0
    obtain ⟨K, c⟩ := Y
    have hmg : mg ("law" : PySem.Str) = some (.ref fa) := by
      have e : (HandSHeadRun.topDef K15.RowK.prog 80).name = ("law" : PySem.Str) := by kernel_rfl
      rw [← e]
      exact hmg0
    exact ⟨K, c.kin, K15.law_at c G hmg⟩
