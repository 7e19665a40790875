import PyProof.Rows.All
import Wide.All
import OpenK.AllK
import Wide.FinOn
import HandS.ForMost
import HandS.ForExc
import HandS.Evl
import HandS.DictComp
import HandS.SetKeys
import HandS.SetBool
import HandS.Strs
import HandS.TupSets
import HandS.Conv
import HandS.Deep
import HandS.TupAny
import HandS.CallLocal
import HandS.Lambda
import HandS.IsInst
import HandS.NoneIn
import HandS.ExcInit
import HandS.TryMany
import HandS.DictTup
import HandS.RaiseMore
import KE.KUnpackStar
import HandS.More
import KE.KeyNested
import HandS.TupLen
import KE.SortData
import KE.GoesEnum
import HandS.Style
import HandS.SetFor
import HandS.ExcField
import HandS.ClsMeth
import KE.KExcInit
import KE.KExcIs
import PyProof.ExcBaseAll.LookupError
import HandS.ExcIs
import HandS.EndBits
import KE.RegKTryMore
import KE.RegKIsAll
import PySem.Challenge.RW_mustmays_k33_whole_parted_by_sayings
set_option autoImplicit false
set_option Elab.async false
set_option linter.all false
set_option maxRecDepth 100000
set_option maxHeartbeats 4000000
/-! A layer for data: what a reading evaluates to, told as plain data (tuples of tuples), the heap growing. -/
namespace K33
open PySem PySem.Spec PyProof.Rows L2 Evl

/-! ### tuples stay -/
def Kt (H H' : Hp) : Prop := ∀ a xs, Rd H a (.tup xs) → Rd H' a (.tup xs)
theorem Kt.refl (H : Hp) : Kt H H := fun _ _ h => h
theorem Kt.trans {H H1 H2 : Hp} (a : Kt H H1) (b : Kt H1 H2) : Kt H H2 := fun x o h => b x o (a x o h)
theorem Kt.ex {H H' : Hp} (e : Ex H H') : Kt H H' := fun a xs h => ex_rd e h
def loose : HO → Bool
  | .tup _ => false
  | .frz _ _ => false
  | _ => true
theorem Kt.upd {H : Hp} {l : Addr} {o o' : HO} (h : H l = some o) (hl : loose o = true) : Kt H (upd H l o') := fun a xs r => by
  have ne : ∀ u, H a = some u → loose u = false → a ≠ l := fun u e k z => by
    subst z
    rw [h] at e
    cases e
    rw [hl] at k
    cases k
  rcases r with r | ⟨ob, r⟩
  · exact .inl (by rw [upd_ne (ne _ r rfl)]; exact r)
  · exact .inr ⟨ob, by rw [upd_ne (ne _ r rfl)]; exact r⟩
theorem Kt.new {H : Hp} {l : Addr} {o' : HO} (h : H l = none) : Kt H (L2.upd H l o') := Kt.ex (Ex.new h)
theorem kt_t {K : PySem.W.Frag} {H H' : Hp} {a : Addr} {xs : List V} (e : Kt H H') (h : SqT K H a xs) : SqT K H' a xs := by
  rcases h with h | h
  · exact .inl (e _ _ h)
  · exact .inr h

/-! ### plain data -/
mutual
inductive TD (K : PySem.W.Frag) (H : Hp) : V → PyData → Prop
  | non : TD K H .non .none
  | bl (b : Bool) : TD K H (.bl b) (.bool b)
  | int (i : Int) : TD K H (.int i) (.int i)
  | str (x : Str) : TD K H (.str x) (.str x)
  | tup {a : Addr} {xs : List V} {ds : List PyData} : SqT K H a xs → TDs K H xs ds → TD K H (.ref a) (.tuple ds)
inductive TDs (K : PySem.W.Frag) (H : Hp) : List V → List PyData → Prop
  | nil : TDs K H [] []
  | cons {v : V} {vs : List V} {d : PyData} {ds : List PyData} : TD K H v d → TDs K H vs ds → TDs K H (v :: vs) (d :: ds)
end
section
variable {K : PySem.W.Frag} {H H' : Hp}
mutual
theorem TD.kt (e : Kt H H') : ∀ (d : PyData) (v : V), TD K H v d → TD K H' v d
  | .none, _, .non => .non
  | .bool _, _, .bl b => .bl b
  | .int _, _, .int i => .int i
  | .str _, _, .str x => .str x
  | .tuple ds, _, .tup h hs => .tup (kt_t e h) (TDs.kt e ds _ hs)
theorem TDs.kt (e : Kt H H') : ∀ (ds : List PyData) (vs : List V), TDs K H vs ds → TDs K H' vs ds
  | [], _, .nil => .nil
  | d :: ds, _, .cons h hs => .cons (TD.kt e d _ h) (TDs.kt e ds _ hs)
end
mutual
theorem TD.dp : ∀ (d : PyData) (v : V), TD K H v d → Dp K H v d
  | .none, _, .non => .non
  | .bool _, _, .bl b => .bl b
  | .int _, _, .int i => .int i
  | .str _, _, .str x => .str x
  | .tuple ds, _, .tup h hs => .tup h (TDs.dp ds _ hs)
theorem TDs.dp : ∀ (ds : List PyData) (vs : List V), TDs K H vs ds → DpAll K H vs ds
  | [], _, .nil => .nil
  | d :: ds, _, .cons h hs => .cons (TD.dp d _ h) (TDs.dp ds _ hs)
end
theorem TD.mono {v : V} {d : PyData} (h : TD K H v d) (e : Kt H H') : TD K H' v d := TD.kt e d v h
theorem TD.ex {v : V} {d : PyData} (h : TD K H v d) (e : Ex H H') : TD K H' v d := TD.kt (Kt.ex e) d v h
theorem TDs.mono {vs : List V} {ds : List PyData} (h : TDs K H vs ds) (e : Kt H H') : TDs K H' vs ds := TDs.kt e ds vs h
theorem TDs.ex {vs : List V} {ds : List PyData} (h : TDs K H vs ds) (e : Ex H H') : TDs K H' vs ds := TDs.kt (Kt.ex e) ds vs h
theorem TD.toDp {v : V} {d : PyData} (h : TD K H v d) : Dp K H v d := TD.dp d v h
theorem TD.tupI {v : V} {ds : List PyData} (h : TD K H v (.tuple ds)) : ∃ a xs, v = .ref a ∧ SqT K H a xs ∧ TDs K H xs ds := by
  cases h with
  | tup h hs => exact ⟨_, _, rfl, h, hs⟩
theorem TD.intI {v : V} {i : Int} (h : TD K H v (.int i)) : v = .int i := by cases h; rfl
theorem TD.strI {v : V} {x : Str} (h : TD K H v (.str x)) : v = .str x := by cases h; rfl
theorem TD.blI {v : V} {b : Bool} (h : TD K H v (.bool b)) : v = .bl b := by cases h; rfl
theorem TD.nonI {v : V} (h : TD K H v .none) : v = .non := by cases h; rfl
theorem TDs.len {vs : List V} {ds : List PyData} (h : TDs K H vs ds) : vs.length = ds.length := by
  induction ds generalizing vs with
  | nil => cases h; rfl
  | cons d r ih =>
    cases h with
    | cons h hs => simp [ih hs]
theorem TDs.get {vs : List V} {ds : List PyData} (h : TDs K H vs ds) {i : Nat} {d : PyData} (hd : ds[i]? = some d) : ∃ v, vs[i]? = some v ∧ TD K H v d := by
  induction ds generalizing vs i with
  | nil => simp at hd
  | cons e r ih =>
    cases h with
    | cons h hs =>
      cases i with
      | zero =>
        simp at hd
        subst hd
        exact ⟨_, rfl, h⟩
      | succ i =>
        simp at hd
        obtain ⟨v, h1, h2⟩ := ih hs hd
        exact ⟨v, by simpa using h1, h2⟩
theorem TDs.got {vs : List V} {ds : List PyData} (h : TDs K H vs ds) {i : Nat} {v : V} (hv : vs[i]? = some v) : ∃ d, ds[i]? = some d ∧ TD K H v d := by
  have hi : i < ds.length := by
    rw [← h.len]
    exact (List.getElem?_eq_some_iff.mp hv).1
  obtain ⟨u, h1, h2⟩ := h.get (i := i) (d := ds[i]) (by simp [hi])
  rw [hv] at h1
  cases h1
  exact ⟨_, by simp [hi], h2⟩
theorem TDs.app {vs ws : List V} {ds es : List PyData} (h : TDs K H vs ds) (h' : TDs K H ws es) : TDs K H (vs ++ ws) (ds ++ es) := by
  induction ds generalizing vs with
  | nil => cases h; exact h'
  | cons d r ih =>
    cases h with
    | cons h hs => exact .cons h (ih hs)
theorem TDs.snoc {vs : List V} {ds : List PyData} {v : V} {d : PyData} (h : TDs K H vs ds) (h' : TD K H v d) : TDs K H (vs ++ [v]) (ds ++ [d]) := h.app (.cons h' .nil)
theorem TDs.consI {vs : List V} {d : PyData} {ds : List PyData} (h : TDs K H vs (d :: ds)) : ∃ v ws, vs = v :: ws ∧ TD K H v d ∧ TDs K H ws ds := by
  cases h with
  | cons h hs => exact ⟨_, _, rfl, h, hs⟩
theorem TDs.nilI {vs : List V} (h : TDs K H vs []) : vs = [] := by cases h; rfl
theorem TDs.ints {vs : List V} {ns : List Int} (h : TDs K H vs (ns.map PyData.int)) : vs = ns.map V.int := by
  induction ns generalizing vs with
  | nil => cases h; rfl
  | cons n r ih =>
    obtain ⟨v, ws, rfl, h1, h2⟩ := TDs.consI h
    rw [h1.intI, ih h2]
    rfl
theorem TDs.strs {vs : List V} {ns : List Str} (h : TDs K H vs (ns.map PyData.str)) : vs = ns.map V.str := by
  induction ns generalizing vs with
  | nil => cases h; rfl
  | cons n r ih =>
    obtain ⟨v, ws, rfl, h1, h2⟩ := TDs.consI h
    rw [h1.strI, ih h2]
    rfl
theorem TDs.ofInts (ns : List Int) : TDs K H (ns.map V.int) (ns.map PyData.int) := by
  induction ns with
  | nil => exact .nil
  | cons n r ih => exact .cons (.int n) ih
theorem TDs.ofStrs (ns : List Str) : TDs K H (ns.map V.str) (ns.map PyData.str) := by
  induction ns with
  | nil => exact .nil
  | cons n r ih => exact .cons (.str n) ih
theorem TDs.ofBls (ns : List Bool) : TDs K H (ns.map V.bl) (ns.map PyData.bool) := by
  induction ns with
  | nil => exact .nil
  | cons n r ih => exact .cons (.bl n) ih
theorem TDs.bls {vs : List V} {ns : List Bool} (h : TDs K H vs (ns.map PyData.bool)) : vs = ns.map V.bl := by
  induction ns generalizing vs with
  | nil => cases h; rfl
  | cons n r ih =>
    obtain ⟨v, ws, rfl, h1, h2⟩ := TDs.consI h
    rw [h1.blI, ih h2]
    rfl
end

/-! ### what a reading evaluates to -/
/-- data such that P -/
def ED (K : PySem.W.Frag) (te : TE) (σ : L2.St) (H : Hp) (P : PyData → Prop) : Prop := ∀ H1, Ex H H1 → ∀ Q : VK, (∀ v H2 d, Ex H1 H2 → TD K H2 v d → P d → Q v H2) → te σ H1 Q
def EDs (K : PySem.W.Frag) (ta : TA) (σ : L2.St) (H : Hp) (P : List PyData → Prop) : Prop := ∀ H1, Ex H H1 → ∀ Q : List V → Hp → Prop, (∀ vs H2 ds, Ex H1 H2 → TDs K H2 vs ds → P ds → Q vs H2) → ta σ H1 Q
/-- a new list of data such that P -/
def ELd (K : PySem.W.Frag) (te : TE) (σ : L2.St) (H : Hp) (P : List PyData → Prop) : Prop := ∀ H1, Ex H H1 → ∀ Q : VK, (∀ p xs H2 ds, H1 p = none → Ex H1 H2 → H2 p = some (.lst xs) → TDs K H2 xs ds → P ds → Q (.ref p) H2) → te σ H1 Q
section
variable {K : PySem.W.Frag} {σ : L2.St} {H H' : Hp} {ta tb te tx : TE} {tl tr : TA} {t u : TT} {x y z v : V} {d e : PyData} {P P' : PyData → Prop} {R R' : List PyData → Prop}
theorem ED.mono (e : Ex H H') (h : ED K te σ H P) : ED K te σ H' P := fun H1 a Q q => h H1 (e.trans a) Q q
theorem ELd.mono (e : Ex H H') (h : ELd K te σ H R) : ELd K te σ H' R := fun H1 a Q q => h H1 (e.trans a) Q q
theorem ED.imp (h : ED K te σ H P) (i : ∀ d, P d → P' d) : ED K te σ H P' := fun H1 a Q q => h H1 a Q fun v H2 d e t p => q v H2 d e t (i d p)
theorem ELd.imp (h : ELd K te σ H R) (i : ∀ d, R d → R' d) : ELd K te σ H R' := fun H1 a Q q => h H1 a Q fun p xs H2 ds n e l t r => q p xs H2 ds n e l t (i ds r)
theorem ed_of (h : Ev te σ H v) (t : TD K H v d) : ED K te σ H (· = d) := fun H1 a Q q => h H1 a Q fun H2 e => q v H2 d e (t.ex (a.trans e)) rfl
theorem ed_var {i : Nat} (h : σ[i]? = some (some v)) (t : TD K H v d) : ED K (tVar i) σ H (· = d) := ed_of (ev_var h) t
theorem ed_str {x : Str} : ED K (tC (.str x)) σ H (· = .str x) := ed_of ev_c (.str x)
theorem ed_int {i : Int} : ED K (tC (.int i)) σ H (· = .int i) := ed_of ev_c (.int i)
theorem ed_bl {b : Bool} : ED K (tC (.bl b)) σ H (· = .bool b) := ed_of ev_c (.bl b)
theorem ed_non : ED K (tC .non) σ H (· = .none) := ed_of ev_c .non
theorem ed_i {i : Int} (h : Ev te σ H (.int i)) : ED K te σ H (· = .int i) := ed_of h (.int i)
theorem ed_b {b : Bool} (h : Ev te σ H (.bl b)) : ED K te σ H (· = .bool b) := ed_of h (.bl b)
theorem ed_s {b : Str} (h : Ev te σ H (.str b)) : ED K te σ H (· = .str b) := ed_of h (.str b)
theorem ev_int {i : Int} (h : ED K te σ H (· = .int i)) : Ev te σ H (.int i) := fun H1 a Q q => h H1 a Q fun v H2 d e t p => by subst p; rw [t.intI]; exact q H2 e
theorem ev_bl {i : Bool} (h : ED K te σ H (· = .bool i)) : Ev te σ H (.bl i) := fun H1 a Q q => h H1 a Q fun v H2 d e t p => by subst p; rw [t.blI]; exact q H2 e
theorem ev_str {i : Str} (h : ED K te σ H (· = .str i)) : Ev te σ H (.str i) := fun H1 a Q q => h H1 a Q fun v H2 d e t p => by subst p; rw [t.strI]; exact q H2 e
theorem eds_nil : EDs K tNil σ H (· = []) := fun H1 _ _ q => q [] H1 [] (Ex.refl H1) .nil rfl
theorem eds_cons (h : ED K te σ H P) (hr : EDs K tl σ H R) : EDs K (tCons te tl) σ H (fun l => ∃ d r, l = d :: r ∧ P d ∧ R r) := fun H1 a Q q =>
  h H1 a _ fun v H2 d e t p => hr H2 (a.trans e) _ fun vs H3 ds e' ts r => q (v :: vs) H3 (d :: ds) (e.trans e') (.cons (t.ex e') ts) ⟨d, ds, rfl, p, r⟩
theorem eds_c {ds : List PyData} (h : ED K te σ H (· = d)) (hr : EDs K tl σ H (· = ds)) : EDs K (tCons te tl) σ H (· = d :: ds) := fun H1 a Q q =>
  h H1 a _ fun v H2 d' e t p => hr H2 (a.trans e) _ fun vs H3 ds' e' ts r => q (v :: vs) H3 _ (e.trans e') (.cons (t.ex e') ts) (by rw [p, r])
theorem ed_tupP (h : EDs K tl σ H R) (hl : ∀ l, R l → l.length ≤ 100000) : ED K (tTup tl) σ H (fun d => ∃ l, d = .tuple l ∧ R l) := fun H1 a Q q =>
  h H1 a _ fun vs H2 ds e ts r => ⟨sz_of (by rw [ts.len]; exact hl _ r), fun p hp => q (.ref p) _ (.tuple ds) (e.trans (Ex.new hp)) (.tup (st_of upd_same) (ts.ex (Ex.new hp))) ⟨ds, rfl, r⟩⟩
theorem ed_tup {ds : List PyData} (h : EDs K tl σ H (· = ds)) (hl : ds.length ≤ 100000) : ED K (tTup tl) σ H (· = .tuple ds) :=
  (ed_tupP h (fun l e => by rw [e]; exact hl)).imp fun d ⟨l, e, r⟩ => by rw [e, r]
theorem eld_lst {ds : List PyData} (h : EDs K tl σ H R) (hl : ∀ l, R l → l.length ≤ 100000) : ELd K (tLst tl) σ H R := fun H1 a Q q =>
  h H1 a _ fun vs H2 ds e ts r => ⟨sz_of (by rw [ts.len]; exact hl _ r), fun p hp => q p vs _ ds (fresh_back e hp) (e.trans (Ex.new hp)) upd_same (ts.ex (Ex.new hp)) r⟩
/-- t[i] -/
theorem ed_ix {ds : List PyData} {i : Nat} (h : ED K ta σ H (· = .tuple ds)) (hi : Ev tb σ H (.int (i : Int))) (hd : ds[i]? = some d) : ED K (tOp (rIxT K) ta tb) σ H (· = d) := fun H1 a Q q =>
  h H1 a _ fun v H2 d' e t p => by
    subst p
    obtain ⟨p, xs, rfl, hs, ts⟩ := t.tupI
    refine hi H2 (a.trans e) _ fun H3 e3 => ?_
    obtain ⟨w, hw, tw⟩ := ts.get hd
    exact ⟨p, xs, (i : Int), w, rfl, rfl, ex_t e3 hs, atI_nat hw, q w H3 d (e.trans e3) (tw.ex e3) rfl⟩
/-- the tuple of a new list -/
def rTuple (K : PySem.W.Frag) : List V → Hp → VK → Prop := fun xs H Q => ∃ p ys, xs = [.ref p] ∧ ((SqL K H p ys ∧ ∀ l, H l = none → Q (.ref l) (upd H l (.tup ys))) ∨ (SqT K H p ys ∧ Q (.ref p) H))
theorem call_tuple {X : Cx} : CallR X (.type "tuple") (rTuple X.K) := call_tuple_of
theorem ed_tupleP (h : ELd K te σ H R) : ED K (tCB (rTuple K) (tCons te tNil)) σ H (fun d => ∃ l, d = .tuple l ∧ R l) := fun H1 a Q q =>
  h H1 a _ fun p xs H2 ds n e hl ts r => ⟨p, xs, rfl, .inl ⟨sq_of hl, fun l nl => q (.ref l) _ (.tuple ds) (e.trans (Ex.new nl)) (.tup (st_of upd_same) (ts.ex (Ex.new nl))) ⟨ds, rfl, r⟩⟩⟩
theorem ed_tuple {ds : List PyData} (h : ELd K te σ H (· = ds)) : ED K (tCB (rTuple K) (tCons te tNil)) σ H (· = .tuple ds) := (ed_tupleP h).imp fun d ⟨l, e, r⟩ => by rw [e, r]
/-- a tuple is itself -/
theorem ed_tupleT {ds : List PyData} (h : ED K te σ H (· = .tuple ds)) : ED K (tCB (rTuple K) (tCons te tNil)) σ H (· = .tuple ds) := fun H1 a Q q =>
  h H1 a _ fun v H2 d e t p => by
    subst p
    obtain ⟨p, xs, rfl, hs, ts⟩ := t.tupI
    exact ⟨p, xs, rfl, .inr ⟨hs, q _ H2 _ e (.tup hs ts) rfl⟩⟩
/-- a list at a known place, its tuple -/
theorem ed_tupleL {p : Addr} {xs : List V} {ds : List PyData} (h : Ev te σ H (.ref p)) (hl : SqL K H p xs) (ts : TDs K H xs ds) : ED K (tCB (rTuple K) (tCons te tNil)) σ H (· = .tuple ds) := fun H1 a Q q =>
  h H1 a _ fun H2 e => ⟨p, xs, rfl, .inl ⟨ex_l (a.trans e) hl, fun l nl => q (.ref l) _ (.tuple ds) (e.trans (Ex.new nl)) (.tup (st_of upd_same) (ts.ex ((a.trans e).trans (Ex.new nl)))) rfl⟩⟩

/-! ### statements -/
variable {D : Ends} {tz tu tw : TS}
theorem q_asgD {i : Nat} (h : ED K te σ H P) (k : ∀ v d H1, Ex H H1 → TD K H1 v d → P d → tz D (σ.set i (some v)) H1) : tSeq (tAsg te (gName i)) tz D σ H := h H (Ex.refl H) _ fun v H1 d e t p => k v d H1 e t p
theorem s_asgD {i : Nat} (h : ED K te σ H P) (k : ∀ v d H1, Ex H H1 → TD K H1 v d → P d → D.nx (σ.set i (some v)) H1) : tAsg te (gName i) D σ H := h H (Ex.refl H) _ fun v H1 d e t p => k v d H1 e t p
theorem q_asgLd {i : Nat} (h : ELd K te σ H R) (k : ∀ p xs ds H1, H p = none → Ex H H1 → H1 p = some (.lst xs) → TDs K H1 xs ds → R ds → tz D (σ.set i (some (.ref p))) H1) : tSeq (tAsg te (gName i)) tz D σ H :=
  h H (Ex.refl H) _ fun p xs H1 ds n e l t r => k p xs ds H1 n e l t r
theorem s_retD (h : ED K te σ H P) (k : ∀ v d H1, Ex H H1 → TD K H1 v d → P d → D.rt v H1) : tRet te D σ H := h H (Ex.refl H) _ fun v H1 d e t p => k v d H1 e t p
theorem s_retLd (h : ELd K te σ H R) (k : ∀ p xs ds H1, H p = none → Ex H H1 → H1 p = some (.lst xs) → TDs K H1 xs ds → R ds → D.rt (.ref p) H1) : tRet te D σ H := h H (Ex.refl H) _ fun p xs H1 ds n e l t r => k p xs ds H1 n e l t r

/-! ### promises over data -/
/-- n arguments, data such that ok; what comes is data such that R -/
def spD (K : PySem.W.Frag) (n : Nat) (ok : List PyData → Prop) (R : List PyData → PyData → Prop) : Sp := fun vs H Q _ => ∃ ds, TDs K H vs ds ∧ ds.length = n ∧ ok ds ∧ ∀ v H' d, Ex H H' → TD K H' v d → R ds d → Q v H'
theorem spD_len {n : Nat} {ok : List PyData → Prop} {Rr : List PyData → PyData → Prop} {vs : List V} {Q : VK} {E : XK} (h : spD K n ok Rr vs H Q E) : vs.length = n := by
  obtain ⟨ds, t, hl, _⟩ := h
  rw [t.len, hl]
theorem ed_call {n : Nat} {ok : List PyData → Prop} {Rr : List PyData → PyData → Prop} {E : XK} (h : EDs K tl σ H R) (hk : ∀ ds, R ds → ds.length = n ∧ ok ds) : ED K (tCall (spD K n ok Rr) [] E tl) σ H (fun d => ∃ ds, R ds ∧ Rr ds d) := fun H1 a Q q =>
  h H1 a _ fun vs H2 ds e ts r => by
    show spD K n ok Rr (vs ++ []) H2 Q E
    rw [List.append_nil]
    obtain ⟨h1, h2⟩ := hk ds r
    exact ⟨ds, ts, h1, h2, fun v H3 d e3 t3 r3 => q v H3 d (e.trans e3) t3 ⟨ds, r, r3⟩⟩
end

/-! ### a def by its name -/
/-- the def x of the module keeps the promise sp -/
def Has (P : Program) (w : World) (K : PySem.W.Frag) (mg : Str → Option Value) (base : Heap) (CX : CXT) (k : Nat) (x : Str) (ps : List Str) (sp : Sp) : Prop :=
  ∃ f fd, FnOk P w K mg base CX k f fd ps sp ∧ mg x = some (.ref f) ∧ PySem.W.keepIn K (.ref f) = true ∧ Binds K fd ps []
/-- the def x stands in the module -/
def DefAt (K : PySem.W.Frag) (mg : Str → Option Value) (x : Str) (st : Stmt) (ps : List Str) : Prop := ∃ f fd, Fun K x x st f fd ∧ mg x = some (.ref f) ∧ Binds K fd ps []
theorem Has.mono {P : Program} {w : World} {K : PySem.W.Frag} {mg : Str → Option Value} {base : Heap} {CX : CXT} {j k : Nat} {x : Str} {ps : List Str} {sp : Sp} (h : Has P w K mg base CX j x ps sp) (l : j ≤ k) : Has P w K mg base CX k x ps sp := by
  obtain ⟨f, fd, F, a, b, c⟩ := h
  exact ⟨f, fd, F.mono l, a, b, c⟩
theorem Has.imp {P : Program} {w : World} {K : PySem.W.Frag} {mg : Str → Option Value} {base : Heap} {CX : CXT} {k : Nat} {x : Str} {ps : List Str} {sp sp' : Sp} (h : Has P w K mg base CX k x ps sp) (i : ∀ vs H Q E, sp' vs H Q E → sp vs H Q E) : Has P w K mg base CX k x ps sp' := by
  obtain ⟨f, fd, F, a, b, c⟩ := h
  exact ⟨f, fd, F.imp i, a, b, c⟩
section
variable {X : Cx} {CX : CXT} {k : Nat} {ps : List Str} {sp : Sp} {E : XK} {x : Str} {p pos : Pos} {e : Expr} {es : List Expr} {t : TA}
theorem pe_has (h : Has X.prog X.w X.K X.mg X.base CX k x ps sp) (hr : Room k X.A) (hg : Gl X x) (hx : Passes CX X E) (ha : PA X (e :: es) t) (hdb : (x == ("__debug__" : Str)) = false := by decide)
    (he : starEach (e :: es) X.env = (false, eval e X.env) :: starEach es X.env := by rfl) (hpl : (backTo pos (starEach es X.env)).any (·.1) = false := by rfl) : PE X (.Call (.Name x p) (e :: es) [] pos) (tCall sp [] E t) := by
  obtain ⟨f, fd, F, hm, hk, hb⟩ := h
  exact pe_call F hr hg hm hk hb .nil hx ha hdb he hpl
end
section
variable {P : Program} {w : World} {K : PySem.W.Frag} {mg : Str → Option Value} {base : Heap}
theorem DefAt.ok {x : Str} {st : Stmt} {N ps : List Str} {k : Nat} {sp : Sp} (D : DefAt K mg x st ps) (S : FnScope N ps (defScope st)) (len : ∀ vs H Q E, sp vs H Q E → vs.length = ps.length)
    (hbody : ∀ (f : Addr) (cdv : Value) (A : Around) (outer : List Env) (s : Shared) (H : Hp) (vs : List V) (Q : VK) (E : XK), Room k (A.deeper (envOfC x (defScope st) s.heap.objs.size f cdv)) → sp vs H Q E →
      ∃ t, PSs (cxOf CX0 P w K mg base N x (defScope st) f cdv A outer s H E).nox (defBody st) t ∧ t { nx := fun _ H' => Q .non H', rt := Q } (start N vs) H) : Has P w K mg base CX0 (k + 1) x ps sp := by
  obtain ⟨f, fd, F, hm, hb⟩ := D
  exact ⟨f, fd, F.ok S len (fun cdv A outer s H vs Q E hr h => hbody f cdv A outer s H vs Q E hr h), hm, F.kp, hb⟩
theorem DefAt.okX {x : Str} {st : Stmt} {N ps : List Str} {k : Nat} {sp : Sp} (D : DefAt K mg x st ps) (S : FnScope N ps (defScope st)) (len : ∀ vs H Q E, sp vs H Q E → vs.length = ps.length)
    (hbody : ∀ (f : Addr) (cdv : Value) (A : Around) (outer : List Env) (s : Shared) (H : Hp) (vs : List V) (Q : VK) (E : XK), Room k (A.deeper (envOfC x (defScope st) s.heap.objs.size f cdv)) → sp vs H Q E →
      ∃ t, PSs (cxOf (L2.CX P w) P w K mg base N x (defScope st) f cdv A outer s H E) (defBody st) t ∧ t { nx := fun _ H' => Q .non H', rt := Q } (start N vs) H) : Has P w K mg base (L2.CX P w) (k + 1) x ps sp := by
  obtain ⟨f, fd, F, hm, hb⟩ := D
  exact ⟨f, fd, F.okX S len (fun cdv A outer s H vs Q E hr h => hbody f cdv A outer s H vs Q E hr h), hm, F.kp, hb⟩
end
end K33
set_option autoImplicit false
set_option Elab.async false
set_option linter.all false
set_option maxRecDepth 100000
set_option maxHeartbeats 4000000
/-! Loops and comprehensions over data. -/
namespace K33
open PySem PySem.Spec PyProof.Rows L2 Evl
/-- the walk J goes through ds, where G is so -/
structure Wk (K : PySem.W.Frag) (J : It) (G : Hp → Prop) (ds : List PyData) : Prop where
  go : ∀ (i : Nat) H, G H → i < ds.length → J.go i H
  stop : ∀ H, G H → J.stop ds.length H
  yld : ∀ (i : Nat) H x H' d, G H → ds[i]? = some d → J.yld i H x H' → Ex H H' ∧ TD K H' x d
theorem Wk.imp {K : PySem.W.Frag} {J : It} {G G' : Hp → Prop} {ds : List PyData} (w : Wk K J G ds) (h : ∀ H, G' H → G H) : Wk K J G' ds :=
  ⟨fun i H g l => w.go i H (h H g) l, fun H g => w.stop H (h H g), fun i H x H' d g e y => w.yld i H x H' d (h H g) e y⟩
/-- a source of ds: S tells what must stay of the heap -/
def Src (S : Hp → Hp → Prop) (K : PySem.W.Frag) (wi : TI) (σ : L2.St) (H : Hp) (ds : List PyData) : Prop := ∀ H1, Ex H H1 → ∀ R : It → Hp → Prop, (∀ J H2, Ex H1 H2 → Wk K J (S H2) ds → R J H2) → wi σ H1 R
section
variable {K : PySem.W.Frag} {σ : L2.St} {H H' : Hp} {ta tb te tx : TE} {tl tr : TA} {t u : TT} {x y z v : V} {d e : PyData} {wi : TI} {g : TG} {ds : List PyData}
theorem Src.ex (h : Src Kt K wi σ H ds) : Src Ex K wi σ H ds := fun H1 e R q => h H1 e R fun J H2 e2 w => q J H2 e2 (w.imp fun _ => Kt.ex)
theorem Src.mono {S : Hp → Hp → Prop} (e : Ex H H') (h : Src S K wi σ H ds) : Src S K wi σ H' ds := fun H1 a Q q => h H1 (e.trans a) Q q
theorem wk_tup {a : Addr} {xs : List V} (h : SqT K H a xs) (ts : TDs K H xs ds) : Wk K (Itt K a) (Kt H) ds where
  go := fun i H1 g l => by
    obtain ⟨v, hv, _⟩ := ts.get (i := i) (d := ds[i]) (by simp [l])
    exact ⟨xs, v, kt_t g h, hv⟩
  stop := fun H1 g => ⟨xs, kt_t g h, Nat.le_of_eq ts.len⟩
  yld := fun i H1 x H2 d g e y => by
    obtain ⟨rfl, y⟩ := y
    obtain ⟨v, hv, tv⟩ := ts.get e
    have := y xs (kt_t g h)
    rw [hv] at this
    cases this
    exact ⟨Ex.refl _, tv.mono g⟩
theorem src_tup (h : ED K te σ H (· = .tuple ds)) : Src Kt K (iTup K te) σ H ds := fun H1 a R q =>
  h H1 a _ fun v H2 d e t p => by
    subst p
    obtain ⟨a, xs, rfl, hs, ts⟩ := t.tupI
    exact ⟨a, rfl, ⟨xs, hs⟩, q _ H2 e (wk_tup hs ts)⟩
theorem wk_lst {a : Addr} {xs : List V} (h : SqL K H a xs) (ts : TDs K H xs ds) : Wk K (Itl K a) (Ex H) ds where
  go := fun i H1 g l => by
    obtain ⟨v, hv, _⟩ := ts.get (i := i) (d := ds[i]) (by simp [l])
    exact ⟨xs, v, ex_l g h, hv⟩
  stop := fun H1 g => ⟨xs, ex_l g h, Nat.le_of_eq ts.len⟩
  yld := fun i H1 x H2 d g e y => by
    obtain ⟨rfl, y⟩ := y
    obtain ⟨v, hv, tv⟩ := ts.get e
    have := y xs (ex_l g h)
    rw [hv] at this
    cases this
    exact ⟨Ex.refl _, tv.ex g⟩
theorem src_lst {a : Addr} {xs : List V} (h : Ev te σ H (.ref a)) (hl : SqL K H a xs) (ts : TDs K H xs ds) : Src Ex K (iList K te) σ H ds := fun H1 e1 R q =>
  h H1 e1 _ fun H2 e2 => ⟨a, rfl, ⟨xs, ex_l (e1.trans e2) hl⟩, q _ H2 e2 (wk_lst (ex_l (e1.trans e2) hl) (ts.ex (e1.trans e2)))⟩
theorem src_new (h : ELd K te σ H (· = ds)) : Src Ex K (iList K te) σ H ds := fun H1 e1 R q =>
  h H1 e1 _ fun p xs H2 ds' n e2 hl ts r => by
    subst r
    exact ⟨p, rfl, ⟨xs, sq_of hl⟩, q _ H2 e2 (wk_lst (sq_of hl) ts)⟩
theorem wk_rng {n : Nat} : Wk K (Itr 0 n) (Kt H) ((List.range n).map fun (i : Nat) => PyData.int (i : Int)) where
  go := fun i H1 g l => by
    have l : i < n := by simpa using l
    exact l
  stop := fun H1 g => by
    show n ≤ _
    simp
  yld := fun i H1 x H2 d g e y => by
    obtain ⟨rfl, rfl⟩ := y
    have : d = .int (i : Int) := by
      rw [List.getElem?_map] at e
      cases q : (List.range n)[i]? with
      | none => rw [q] at e; cases e
      | some j =>
        rw [q] at e
        have hj := List.getElem?_eq_some_iff.mp q
        obtain ⟨_, hj⟩ := hj
        rw [List.getElem_range] at hj
        subst hj
        simpa using e.symm
    subst this
    rw [Int.zero_add]
    exact ⟨Ex.refl _, .int _⟩
theorem src_rng {n : Nat} (h : Ev te σ H (.int (n : Int))) (hn : n ≤ 100000) : Src Kt K (iRng1 (tCons te tNil)) σ H ((List.range n).map fun (i : Nat) => PyData.int (i : Int)) := fun H1 e1 R q =>
  h H1 e1 _ fun H2 e2 => ⟨(n : Int), rfl, by omega, by omega, q _ H2 e2 wk_rng⟩
theorem wk_enum {a : Addr} {xs : List V} (h : SqL K H a xs) (ts : TDs K H xs ds) : Wk K (Ite K a) (Ex H) (ds.zipIdx.map fun p => PyData.tuple [.int (p.2 : Int), p.1]) where
  go := fun i H1 g l => by
    have l : i < ds.length := by simpa using l
    obtain ⟨v, hv, _⟩ := ts.get (i := i) (d := ds[i]) (by simp [l])
    exact ⟨xs, v, ex_l g h, hv⟩
  stop := fun H1 g => ⟨xs, ex_l g h, by rw [ts.len]; simp⟩
  yld := fun i H1 x H2 d g e y => by
    obtain ⟨T, w, rfl, hT, rfl, y⟩ := y
    rw [List.getElem?_map] at e
    have hw := y xs (ex_l g h)
    obtain ⟨c, hc, tc⟩ := ts.got hw
    have e1 : ds.zipIdx[i]? = some (c, i) := by
      rw [List.getElem?_zipIdx, hc]
      simp
    rw [e1] at e
    cases e
    exact ⟨Ex.new hT, .tup (st_of upd_same) (.cons (.int _) (.cons ((tc.ex g).ex (Ex.new hT)) .nil))⟩
theorem src_enum {a : Addr} {xs : List V} (h : Ev te σ H (.ref a)) (hl : SqL K H a xs) (ts : TDs K H xs ds) : Src Ex K (iEnum K (tCons te tNil)) σ H (ds.zipIdx.map fun p => PyData.tuple [.int (p.2 : Int), p.1]) := fun H1 e1 R q =>
  h H1 e1 _ fun H2 e2 => ⟨a, xs, rfl, ex_l (e1.trans e2) hl, q _ H2 e2 (wk_enum (ex_l (e1.trans e2) hl) (ts.ex (e1.trans e2)))⟩

/-! ### a walk's loop -/
theorem for_wk {J : It} {G : Hp → Prop} {tb : TS} {D : Ends} (w : Wk K J G ds) (Pv : Nat → L2.St → Hp → Prop) (h0 : Pv 0 σ H) (hG : ∀ i σ H, Pv i σ H → G H)
    (hs : ∀ i d x σ H H', ds[i]? = some d → Pv i σ H → Ex H H' → TD K H' x d → g x σ H' fun σ2 H2 => tb { D with nx := Pv (i + 1), ct := Pv (i + 1), bk := D.nx } σ2 H2) (hd : ∀ σ H, Pv ds.length σ H → D.nx σ H) :
    ∃ W : Nat → Nat → L2.St → Hp → Prop, (∃ m, W 0 m σ H) ∧ ∀ i m σ H, W i m σ H →
      (J.stop i H ∧ D.nx σ H) ∨ (J.go i H ∧ ∃ N : L2.St → Hp → Prop, (∀ σ' H', N σ' H' → ∃ m', m' < m ∧ W (i + 1) m' σ' H') ∧ ∀ x H', J.yld i H x H' → g x σ H' fun σ2 H2 => tb { D with nx := N, ct := N, bk := D.nx } σ2 H2) := by
  refine ⟨fun i m σ H => m = ds.length - i ∧ i ≤ ds.length ∧ Pv i σ H, ⟨ds.length, by simp, Nat.zero_le _, h0⟩, ?_⟩
  rintro i m σ H ⟨rfl, hi, p⟩
  have q := hG i σ H p
  by_cases hlt : i < ds.length
  · refine .inr ⟨w.go i H q hlt, Pv (i + 1), fun σ' H' p' => ⟨ds.length - (i + 1), by omega, rfl, hlt, p'⟩, fun x H' y => ?_⟩
    obtain ⟨e, t⟩ := w.yld i H x H' ds[i] q (by simp [hlt]) y
    exact hs i ds[i] x σ H H' (by simp [hlt]) p e t
  · have e : i = ds.length := by omega
    subst e
    exact .inl ⟨w.stop H q, hd σ H p⟩
/-- for: S tells what the turns must keep -/
theorem s_for {S : Hp → Hp → Prop} {tb : TS} {D : Ends} (h : Src S K wi σ H ds) (Pv : Hp → Nat → L2.St → Hp → Prop) (h0 : ∀ H1, Ex H H1 → Pv H1 0 σ H1) (hG : ∀ H1 i σ H', Pv H1 i σ H' → S H1 H')
    (hs : ∀ H1 i d x σ' H' H2, Ex H H1 → ds[i]? = some d → Pv H1 i σ' H' → Ex H' H2 → TD K H2 x d → g x σ' H2 fun σ2 H3 => tb { D with nx := Pv H1 (i + 1), ct := Pv H1 (i + 1), bk := D.nx } σ2 H3) (hd : ∀ H1 σ' H', Ex H H1 → Pv H1 ds.length σ' H' → D.nx σ' H') : tFor wi g tb D σ H :=
  h H (Ex.refl H) _ fun J H1 e w => for_wk w (Pv H1) (h0 H1 e) (hG H1) (fun i d x σ' H' H2 a b c t => hs H1 i d x σ' H' H2 e a b c t) (fun σ' H' p => hd H1 σ' H' e p)
theorem q_for {S : Hp → Hp → Prop} {tb tz : TS} {D : Ends} (h : Src S K wi σ H ds) (Pv : Hp → Nat → L2.St → Hp → Prop) (h0 : ∀ H1, Ex H H1 → Pv H1 0 σ H1) (hG : ∀ H1 i σ H', Pv H1 i σ H' → S H1 H')
    (hs : ∀ H1 i d x σ' H' H2, Ex H H1 → ds[i]? = some d → Pv H1 i σ' H' → Ex H' H2 → TD K H2 x d → g x σ' H2 fun σ2 H3 => tb { D with nx := Pv H1 (i + 1), ct := Pv H1 (i + 1), bk := tz D } σ2 H3) (hd : ∀ H1 σ' H', Ex H H1 → Pv H1 ds.length σ' H' → tz D σ' H') : tSeq (tFor wi g tb) tz D σ H :=
  s_for (D := { D with nx := tz D }) h Pv h0 hG hs hd

/-! ### list comprehensions -/
theorem filter_take {α : Type} {l : List α} {f : α → Bool} {i : Nat} {d : α} (h : l[i]? = some d) : (l.take (i + 1)).filter f = (l.take i).filter f ++ if f d = true then [d] else [] := by
  rw [List.take_add_one, h, List.filter_append]
  congr 1
  show List.filter f [d] = _
  rw [List.filter_cons]
  rfl
/-- [elt for tg in .. if ..]: Pv, a word of the new list's place, the turn and the heap -/
theorem lc_wk {S : Hp → Hp → Prop} {vs : List Nat} {Q : VK} (h : Src S K wi σ H ds) (Pv : Hp → Addr → Nat → Hp → Prop)
    (h0 : ∀ H1 D, Ex H H1 → H1 D = none → Pv H1 D 0 (upd H1 D (.lst []))) (hG : ∀ H1 D i H', H1 D = none → Pv H1 D i H' → S H1 H')
    (hs : ∀ H1 D i d x H' H2, Ex H H1 → H1 D = none → ds[i]? = some d → Pv H1 D i H' → Ex H' H2 → TD K H2 x d → g x (wipe σ vs) H2 fun σ2 H3 => wipe σ2 vs = wipe σ vs ∧ t σ2 H3 fun b H4 =>
      if b = true then te σ2 H4 fun y H5 => ∃ acc, H5 D = some (.lst acc) ∧ acc.length < sizeLine ∧ Pv H1 D (i + 1) (upd H5 D (.lst (acc ++ [y]))) else Pv H1 D (i + 1) H4)
    (hd : ∀ H1 D H', Ex H H1 → H1 D = none → Pv H1 D ds.length H' → Q (.ref D) H') : tLc wi g t te vs σ H Q :=
  h H (Ex.refl H) _ fun J H1 e w D hD => by
    refine ⟨fun i m H' => m = ds.length - i ∧ i ≤ ds.length ∧ Pv H1 D i H', ⟨ds.length, by simp, Nat.zero_le _, h0 H1 D e hD⟩, ?_⟩
    rintro i m H' ⟨rfl, hi, p⟩
    have q := hG H1 D i H' hD p
    by_cases hlt : i < ds.length
    · refine .inr ⟨w.go i H' q hlt, Pv H1 D (i + 1), fun H'' p' => ⟨ds.length - (i + 1), by omega, rfl, hlt, p'⟩, fun x H2 y => ?_⟩
      obtain ⟨e2, tx⟩ := w.yld i H' x H2 ds[i] q (by simp [hlt]) y
      exact hs H1 D i ds[i] x H' H2 e hD (by simp [hlt]) p e2 tx
    · have e' : i = ds.length := by omega
      subst e'
      exact .inl ⟨w.stop H' q, hd H1 D H' e hD p⟩
/-- pure: the list of e a for each a in l for which f is so -/
theorem eld_lc {α : Type} {vs : List Nat} {l : List α} {enc : α → PyData} (f : α → Bool) (e : α → PyData) (h : Src Ex K wi σ H (l.map enc)) (hz : l.length ≤ 100000)
    (hs : ∀ d, d ∈ l → ∀ x H1 (Q : L2.St → Hp → Prop), Ex H H1 → TD K H1 x (enc d) → (∀ σ2, wipe σ2 vs = wipe σ vs → EvT t σ2 H1 (f d) → (f d = true → ED K te σ2 H1 (· = e d)) → Q σ2 H1) → g x (wipe σ vs) H1 Q) :
    ELd K (tLc wi g t te vs) σ H (· = (l.filter f).map e) := fun H1 e1 Q q => by
  refine lc_wk (h.mono e1) (fun H2 D i H' => H2 D = none ∧ Ex H2 H' ∧ ∃ k, H' D = some (.lst k) ∧ k.length ≤ i ∧ TDs K H' k (((l.take i).filter f).map e)) (fun H2 D a n => ⟨n, Ex.new n, [], upd_same, Nat.le_refl _, .nil⟩) (fun H2 D i H' n p => p.2.1) ?_ ?_
  · intro H2 D i d' x H' H3 a n hd p e3 tx
    obtain ⟨_, p2, k, pl, pz, pt⟩ := p
    rw [List.getElem?_map] at hd
    cases hl : l[i]? with
    | none => rw [hl] at hd; cases hd
    | some d =>
      rw [hl] at hd
      cases hd
      have hi : i < l.length := (List.getElem?_eq_some_iff.mp hl).1
      have nD : ∀ {H4 : Hp}, Ex H' H4 → H4 D = some (.lst k) := fun e4 => e4 _ _ pl
      refine hs d (List.mem_of_getElem? hl) x H3 _ ((e1.trans a).trans (p2.trans e3)) tx fun σ2 w2 ht he => ⟨w2, ?_⟩
      refine ht H3 (Ex.refl _) _ fun H4 e4 => ?_
      have fl : (((l.take (i + 1)).filter f).map e) = (((l.take i).filter f).map e) ++ if f d = true then [e d] else [] := by
        rw [filter_take hl, List.map_append]
        congr 1
        split <;> rfl
      cases hf : f d with
      | true =>
        rw [if_pos rfl]
        rw [hf, if_pos rfl] at fl
        refine he hf H4 e4 _ fun y H5 d' e5 ty ey => ⟨k, nD ((e3.trans e4).trans e5), sz_lt (by omega), n, Ex.mut (((p2.trans e3).trans e4).trans e5) n, k ++ [y], upd_same, by simp; exact pz, ?_⟩
        rw [fl]
        subst ey
        have kt : Kt H5 (upd H5 D (.lst (k ++ [y]))) := Kt.upd (nD ((e3.trans e4).trans e5)) rfl
        exact ((pt.ex ((e3.trans e4).trans e5)).mono kt).snoc (ty.mono kt)
      | false =>
        rw [if_neg Bool.false_ne_true]
        rw [hf, if_neg Bool.false_ne_true, List.append_nil] at fl
        exact ⟨n, (p2.trans e3).trans e4, k, nD (e3.trans e4), Nat.le_succ_of_le pz, by rw [fl]; exact pt.ex (e3.trans e4)⟩
  · intro H2 D H' a n p
    obtain ⟨_, p2, k, pl, pz, pt⟩ := p
    rw [List.length_map, List.take_length] at pt
    exact q D k H' _ (fresh_back a n) (a.trans p2) pl pt rfl
/-- .. no test -/
theorem eld_lcA {α : Type} {vs : List Nat} {l : List α} {enc : α → PyData} (e : α → PyData) (h : Src Ex K wi σ H (l.map enc)) (hz : l.length ≤ 100000)
    (hs : ∀ d, d ∈ l → ∀ x H1 (Q : L2.St → Hp → Prop), Ex H H1 → TD K H1 x (enc d) → (∀ σ2, wipe σ2 vs = wipe σ vs → ED K te σ2 H1 (· = e d) → Q σ2 H1) → g x (wipe σ vs) H1 Q) :
    ELd K (tLc wi g tYes te vs) σ H (· = l.map e) :=
  (eld_lc (fun _ => true) e h hz fun d hd x H1 Q a tx k => hs d hd x H1 Q a tx fun σ2 w2 he => k σ2 w2 (fun H2 _ _ q => q H2 (Ex.refl _)) fun _ => he).imp fun ds hq => by rw [hq, List.filter_eq_self.mpr fun _ _ => rfl]
/-- one name -/
theorem tg_name {j : Nat} {vs : List Nat} {x : V} {H : Hp} {Q : L2.St → Hp → Prop} (h : Q ((wipe σ vs).set j (some x)) H) : gName j x (wipe σ vs) H Q := h
/-- two names -/
theorem tg_pair {j k : Nat} {x : V} {H : Hp} {d e : PyData} {Q : L2.St → Hp → Prop} (tx : TD K H x (.tuple [d, e])) (h : ∀ v w, TD K H v d → TD K H w e → Q ((σ.set j (some v)).set k (some w)) H) : gTup K 2 (gCons (gName j) (gCons (gName k) gNil)) x σ H Q := by
  obtain ⟨a, xs, rfl, hs, ts⟩ := tx.tupI
  obtain ⟨v, r1, rfl, t1, ts⟩ := ts.consI
  obtain ⟨w, r2, rfl, t2, ts⟩ := ts.consI
  cases ts.nilI
  exact ⟨a, [v, w], rfl, hs, rfl, v, [w], rfl, w, [], rfl, rfl, h v w t1 t2⟩
theorem tg_triple {j k m : Nat} {x : V} {H : Hp} {d e f : PyData} {Q : L2.St → Hp → Prop} (tx : TD K H x (.tuple [d, e, f])) (h : ∀ v w u, TD K H v d → TD K H w e → TD K H u f → Q (((σ.set j (some v)).set k (some w)).set m (some u)) H) : gTup K 3 (gCons (gName j) (gCons (gName k) (gCons (gName m) gNil))) x σ H Q := by
  obtain ⟨a, xs, rfl, hs, ts⟩ := tx.tupI
  obtain ⟨v, r1, rfl, t1, ts⟩ := ts.consI
  obtain ⟨w, r2, rfl, t2, ts⟩ := ts.consI
  obtain ⟨u, r3, rfl, t3, ts⟩ := ts.consI
  cases ts.nilI
  exact ⟨a, [v, w, u], rfl, hs, rfl, v, [w, u], rfl, w, [u], rfl, u, [], rfl, rfl, h v w u t1 t2 t3⟩
end
end K33
set_option autoImplicit false
set_option linter.all false
/-! The mathematics: webs, sayings, where they hold; rounds of classes; two webs beside one another; closed parts of a web. No program in sight. -/
namespace K33
structure Web (ω : Type) where
  many : Nat
  steps : List (ω × List (Nat × Nat))
  marks : List (ω × List Nat)

inductive Say (ω : Type) where
  | letter (w : ω)
  | neg (s : Say ω)
  | conj (l : List (Say ω))
  | disj (l : List (Say ω))
  | must (h : ω) (s : Say ω)
  | may (h : ω) (s : Say ω)

/-- an induction over sayings -/
theorem Say.ind {ω : Type} {P : Say ω → Prop} (h1 : ∀ w, P (.letter w)) (h2 : ∀ s, P s → P (.neg s)) (h3 : ∀ l, (∀ s ∈ l, P s) → P (.conj l)) (h4 : ∀ l, (∀ s ∈ l, P s) → P (.disj l))
    (h5 : ∀ h s, P s → P (.must h s)) (h6 : ∀ h s, P s → P (.may h s)) : ∀ s, P s := fun s =>
  Say.rec (motive_1 := P) (motive_2 := fun l => ∀ s ∈ l, P s) h1 h2 h3 h4 h5 h6 (fun s hs => nomatch hs) (fun a r ha hr s hs => (List.mem_cons.mp hs).elim (fun e => e ▸ ha) (hr s)) s

section
variable {ω : Type} [DecidableEq ω] {β : Type}

def getL : List (ω × List β) → ω → List β
  | [], _ => []
  | (k, v) :: r, h => if k = h then v else getL r h

theorem getL_nil (h : ω) : getL ([] : List (ω × List β)) h = [] := rfl
theorem getL_none {l : List (ω × List β)} {h : ω} (n : h ∉ l.map (·.1)) : getL l h = [] := by
  induction l with
  | nil => rfl
  | cons p r ih =>
    obtain ⟨k, v⟩ := p
    simp only [List.map_cons, List.mem_cons, not_or] at n
    simp only [getL]
    rw [if_neg (fun e => n.1 e.symm)]
    exact ih n.2
theorem getL_mem {l : List (ω × List β)} {h : ω} {v : List β} (nd : (l.map (·.1)).Nodup) (hm : (h, v) ∈ l) : getL l h = v := by
  induction l with
  | nil => cases hm
  | cons p r ih =>
    obtain ⟨k, u⟩ := p
    simp only [List.map_cons, List.nodup_cons] at nd
    simp only [getL]
    rcases List.mem_cons.mp hm with e | hm
    · cases e
      rw [if_pos rfl]
    · rw [if_neg, ih nd.2 hm]
      rintro rfl
      exact nd.1 (List.mem_map.mpr ⟨(k, v), hm, rfl⟩)
theorem mem_getL {l : List (ω × List β)} {h : ω} {x : β} (hx : x ∈ getL l h) : (h, getL l h) ∈ l := by
  induction l with
  | nil => cases hx
  | cons p r ih =>
    obtain ⟨k, u⟩ := p
    simp only [getL] at hx ⊢
    split at hx
    · rename_i e
      subst e
      simp
    · rename_i e
      rw [if_neg e]
      exact List.mem_cons_of_mem _ (ih hx)

/-- the worlds to which steps of a hand lead from one -/
def ends (W : Web ω) (h : ω) (x : Nat) : List Nat := ((getL W.steps h).filter fun p => decide (p.1 = x)).map (·.2)
theorem mem_ends {W : Web ω} {h : ω} {x y : Nat} : y ∈ ends W h x ↔ (x, y) ∈ getL W.steps h := by
  simp only [ends, List.mem_map, List.mem_filter, decide_eq_true_eq]
  constructor
  · rintro ⟨⟨a, b⟩, ⟨hm, rfl⟩, rfl⟩
    exact hm
  · intro hm
    exact ⟨(x, y), ⟨hm, rfl⟩, rfl⟩

structure Wf (W : Web ω) : Prop where
  nds : (W.steps.map (·.1)).Nodup
  ndm : (W.marks.map (·.1)).Nodup
  inS : ∀ p ∈ W.steps, ∀ q ∈ p.2, q.1 < W.many ∧ q.2 < W.many
  inM : ∀ p ∈ W.marks, ∀ y ∈ p.2, y < W.many

theorem Wf.steps {W : Web ω} (wf : Wf W) {h : ω} {x y : Nat} (hm : (x, y) ∈ getL W.steps h) : x < W.many ∧ y < W.many := wf.inS _ (mem_getL hm) _ hm
theorem Wf.ends {W : Web ω} (wf : Wf W) {h : ω} {x y : Nat} (hm : y ∈ ends W h x) : y < W.many := (wf.steps (mem_ends.mp hm)).2
theorem Wf.marks {W : Web ω} (wf : Wf W) {w : ω} {y : Nat} (hm : y ∈ getL W.marks w) : y < W.many := wf.inM _ (mem_getL hm) _ hm

mutual
def Holds (W : Web ω) : Say ω → Nat → Bool
  | .letter w, x => decide (x ∈ getL W.marks w)
  | .neg s, x => !Holds W s x
  | .conj l, x => AllH W l x
  | .disj l, x => AnyH W l x
  | .must h s, x => (ends W h x).all fun y => Holds W s y
  | .may h s, x => (ends W h x).any fun y => Holds W s y
def AllH (W : Web ω) : List (Say ω) → Nat → Bool
  | [], _ => true
  | s :: r, x => Holds W s x && AllH W r x
def AnyH (W : Web ω) : List (Say ω) → Nat → Bool
  | [], _ => false
  | s :: r, x => Holds W s x || AnyH W r x
end
theorem allH_eq (W : Web ω) (l : List (Say ω)) (x : Nat) : AllH W l x = l.all fun s => Holds W s x := by
  induction l with
  | nil => simp [AllH]
  | cons s r ih => simp [AllH, ih]
theorem anyH_eq (W : Web ω) (l : List (Say ω)) (x : Nat) : AnyH W l x = l.any fun s => Holds W s x := by
  induction l with
  | nil => simp [AnyH]
  | cons s r ih => simp [AnyH, ih]
theorem holds_letter (W : Web ω) (w : ω) (x : Nat) : Holds W (.letter w) x = decide (x ∈ getL W.marks w) := by simp [Holds]
theorem holds_neg (W : Web ω) (s : Say ω) (x : Nat) : Holds W (.neg s) x = !Holds W s x := by simp [Holds]
theorem holds_conj (W : Web ω) (l : List (Say ω)) (x : Nat) : Holds W (.conj l) x = l.all fun s => Holds W s x := by simp [Holds, allH_eq]
theorem holds_disj (W : Web ω) (l : List (Say ω)) (x : Nat) : Holds W (.disj l) x = l.any fun s => Holds W s x := by simp [Holds, anyH_eq]
theorem holds_must (W : Web ω) (h : ω) (s : Say ω) (x : Nat) : Holds W (.must h s) x = (ends W h x).all fun y => Holds W s y := by simp [Holds]
theorem holds_may (W : Web ω) (h : ω) (s : Say ω) (x : Nat) : Holds W (.may h s) x = (ends W h x).any fun y => Holds W s y := by simp [Holds]

/-! ### a map that keeps what holds: R x y, the same letters, steps to and fro -/
theorem holds_sim {W V : Web ω} (R : Nat → Nat → Prop) (hl : ∀ x y, R x y → ∀ w, (x ∈ getL W.marks w ↔ y ∈ getL V.marks w))
    (hf : ∀ x y, R x y → ∀ h, ∀ x' ∈ ends W h x, ∃ y' ∈ ends V h y, R x' y') (hb : ∀ x y, R x y → ∀ h, ∀ y' ∈ ends V h y, ∃ x' ∈ ends W h x, R x' y') :
    ∀ s x y, R x y → Holds W s x = Holds V s y := by
  intro s
  induction s using Say.ind with
  | h1 w =>
    intro x y r
    rw [holds_letter, holds_letter]
    exact decide_eq_decide.mpr (hl x y r w)
  | h2 s ih =>
    intro x y r
    rw [holds_neg, holds_neg, ih x y r]
  | h3 l ih =>
    intro x y r
    rw [holds_conj, holds_conj]
    rw [Bool.eq_iff_iff]
    simp only [List.all_eq_true]
    exact ⟨fun q s hs => (ih s hs x y r) ▸ q s hs, fun q s hs => (ih s hs x y r).symm ▸ q s hs⟩
  | h4 l ih =>
    intro x y r
    rw [holds_disj, holds_disj]
    rw [Bool.eq_iff_iff]
    simp only [List.any_eq_true]
    exact ⟨fun ⟨s, hs, q⟩ => ⟨s, hs, (ih s hs x y r) ▸ q⟩, fun ⟨s, hs, q⟩ => ⟨s, hs, (ih s hs x y r).symm ▸ q⟩⟩
  | h5 h s ih =>
    intro x y r
    rw [holds_must, holds_must]
    rw [Bool.eq_iff_iff]
    simp only [List.all_eq_true]
    constructor
    · intro q y' hy
      obtain ⟨x', hx, r'⟩ := hb x y r h y' hy
      rw [← ih x' y' r']
      exact q x' hx
    · intro q x' hx
      obtain ⟨y', hy, r'⟩ := hf x y r h x' hx
      rw [ih x' y' r']
      exact q y' hy
  | h6 h s ih =>
    intro x y r
    rw [holds_may, holds_may]
    rw [Bool.eq_iff_iff]
    simp only [List.any_eq_true]
    constructor
    · rintro ⟨x', hx, q⟩
      obtain ⟨y', hy, r'⟩ := hf x y r h x' hx
      exact ⟨y', hy, by rw [← ih x' y' r']; exact q⟩
    · rintro ⟨y', hy, q⟩
      obtain ⟨x', hx, r'⟩ := hb x y r h y' hy
      exact ⟨x', hx, by rw [ih x' y' r']; exact q⟩

/-! ### two webs beside one another -/
structure IsBoth (W V B : Web ω) : Prop where
  many : B.many = W.many + V.many
  nds : (B.steps.map (·.1)).Nodup
  ndm : (B.marks.map (·.1)).Nodup
  steps : ∀ h, getL B.steps h = getL W.steps h ++ (getL V.steps h).map fun p => (p.1 + W.many, p.2 + W.many)
  marks : ∀ w, getL B.marks w = getL W.marks w ++ (getL V.marks w).map fun y => y + W.many

theorem IsBoth.wf {W V B : Web ω} (b : IsBoth W V B) (wW : Wf W) (wV : Wf V) : Wf B := by
  refine ⟨b.nds, b.ndm, fun p hp q hq => ?_, fun p hp y hy => ?_⟩
  · obtain ⟨h, ps⟩ := p
    have e := getL_mem b.nds hp
    rw [b.steps] at e
    rw [← e] at hq
    rw [b.many]
    rcases List.mem_append.mp hq with hq | hq
    · have := wW.steps (h := h) (x := q.1) (y := q.2) hq
      omega
    · obtain ⟨⟨u, v⟩, hr, rfl⟩ := List.mem_map.mp hq
      have := wV.steps hr
      dsimp only
      omega
  · obtain ⟨w, ys⟩ := p
    have e := getL_mem b.ndm hp
    rw [b.marks] at e
    rw [← e] at hy
    rw [b.many]
    rcases List.mem_append.mp hy with hq | hq
    · have := wW.marks hq
      omega
    · obtain ⟨u, hr, rfl⟩ := List.mem_map.mp hq
      have := wV.marks hr
      omega
theorem IsBoth.left {W V B : Web ω} (b : IsBoth W V B) (wW : Wf W) (s : Say ω) {x : Nat} (hx : x < W.many) : Holds W s x = Holds B s x := by
  have key : ∀ h x, x < W.many → ∀ y, y ∈ ends B h x ↔ y ∈ ends W h x := fun h x hx y => by
    rw [mem_ends, mem_ends, b.steps, List.mem_append]
    constructor
    · rintro (q | q)
      · exact q
      · obtain ⟨⟨u, v⟩, _, e⟩ := List.mem_map.mp q
        simp only [Prod.mk.injEq] at e
        omega
    · exact .inl
  refine holds_sim (fun x y => x = y ∧ x < W.many) ?_ ?_ ?_ s x x ⟨rfl, hx⟩
  · rintro x _ ⟨rfl, hx⟩ w
    rw [b.marks, List.mem_append]
    constructor
    · exact .inl
    · rintro (q | q)
      · exact q
      · obtain ⟨u, _, e⟩ := List.mem_map.mp q
        omega
  · rintro x _ ⟨rfl, hx⟩ h x' hm
    exact ⟨x', (key h x hx x').mpr hm, rfl, wW.ends hm⟩
  · rintro x _ ⟨rfl, hx⟩ h x' hm
    have := (key h x hx x').mp hm
    exact ⟨x', this, rfl, wW.ends this⟩
theorem IsBoth.right {W V B : Web ω} (b : IsBoth W V B) (wW : Wf W) (wV : Wf V) (s : Say ω) {y : Nat} (hy : y < V.many) : Holds V s y = Holds B s (W.many + y) := by
  have key : ∀ h y z, z ∈ ends B h (W.many + y) ↔ ∃ z', z = W.many + z' ∧ z' ∈ ends V h y := fun h y z => by
    rw [mem_ends, b.steps, List.mem_append]
    constructor
    · rintro (q | q)
      · have := wW.steps q
        omega
      · obtain ⟨⟨u, v⟩, hm, e⟩ := List.mem_map.mp q
        simp only [Prod.mk.injEq] at e
        refine ⟨v, by omega, mem_ends.mpr ?_⟩
        have : u = y := by omega
        subst this
        exact hm
    · rintro ⟨z', rfl, hm⟩
      exact .inr (List.mem_map.mpr ⟨(y, z'), mem_ends.mp hm, by simp [Nat.add_comm]⟩)
  refine holds_sim (fun x y => y = W.many + x) ?_ ?_ ?_ s y _ rfl
  · rintro x _ rfl w
    rw [b.marks, List.mem_append]
    constructor
    · intro q
      exact .inr (List.mem_map.mpr ⟨x, q, by omega⟩)
    · rintro (q | q)
      · have := wW.marks q
        omega
      · obtain ⟨u, hm, e⟩ := List.mem_map.mp q
        have : u = x := by omega
        subst this
        exact hm
  · rintro x _ rfl h x' hm
    exact ⟨W.many + x', (key h x _).mpr ⟨x', rfl, hm⟩, rfl⟩
  · rintro x _ rfl h x' hm
    obtain ⟨z', rfl, q⟩ := (key h x _).mp hm
    exact ⟨z', q, rfl⟩

/-! ### a closed part of a web, called anew -/
def ownS (kept : List Nat) (ps : List (Nat × Nat)) : List (Nat × Nat) :=
  (ps.filter fun p => decide (p.1 ∈ kept) && decide (p.2 ∈ kept)).map fun p => (kept.idxOf p.1, kept.idxOf p.2)
def ownM (kept : List Nat) (ys : List Nat) : List Nat := (ys.filter fun y => decide (y ∈ kept)).map fun y => kept.idxOf y
def thin {β γ : Type} [DecidableEq γ] (f : List β → List γ) (l : List (ω × List β)) : List (ω × List γ) := (l.map fun p => (p.1, f p.2)).filter fun p => decide (p.2 ≠ [])
def anew (W : Web ω) (kept : List Nat) : Web ω where
  many := kept.length
  steps := thin (ownS kept) W.steps
  marks := thin (ownM kept) W.marks
theorem thin_keys {β γ : Type} [DecidableEq γ] (f : List β → List γ) (l : List (ω × List β)) : ((thin f l).map (·.1)).Sublist (l.map (·.1)) := by
  have h1 : (l.map (·.1)) = ((l.map fun p => (p.1, f p.2)).map (·.1)) := by simp [List.map_map, Function.comp_def]
  rw [h1]
  exact List.Sublist.map _ List.filter_sublist
theorem thin_get {β γ : Type} [DecidableEq γ] (f : List β → List γ) (hf : f [] = []) {l : List (ω × List β)} (nd : (l.map (·.1)).Nodup) (h : ω) : getL (thin f l) h = f (getL l h) := by
  induction l with
  | nil => simp [thin, getL, hf]
  | cons p r ih =>
    obtain ⟨k, v⟩ := p
    simp only [List.map_cons, List.nodup_cons] at nd
    have e : thin f ((k, v) :: r) = if f v ≠ [] then (k, f v) :: thin f r else thin f r := by
      simp only [thin, List.map_cons, List.filter_cons, decide_eq_true_eq]
    rw [e]
    by_cases hv : f v = []
    · rw [if_neg (by simp [hv]), ih nd.2]
      simp only [getL]
      split
      · rename_i ek
        subst ek
        rw [getL_none nd.1, hf, hv]
      · rfl
    · rw [if_pos hv]
      simp only [getL]
      split
      · rfl
      · exact ih nd.2
theorem ownS_mem {kept : List Nat} {ps : List (Nat × Nat)} {i j : Nat} : (i, j) ∈ ownS kept ps ↔ ∃ x y, (x, y) ∈ ps ∧ x ∈ kept ∧ y ∈ kept ∧ kept.idxOf x = i ∧ kept.idxOf y = j := by
  simp only [ownS, List.mem_map, List.mem_filter, Bool.and_eq_true, decide_eq_true_eq, Prod.mk.injEq]
  constructor
  · rintro ⟨⟨x, y⟩, ⟨hm, hx, hy⟩, e1, e2⟩
    exact ⟨x, y, hm, hx, hy, e1, e2⟩
  · rintro ⟨x, y, hm, hx, hy, e1, e2⟩
    exact ⟨(x, y), ⟨hm, hx, hy⟩, e1, e2⟩
theorem ownM_mem {kept : List Nat} {ys : List Nat} {i : Nat} : i ∈ ownM kept ys ↔ ∃ y, y ∈ ys ∧ y ∈ kept ∧ kept.idxOf y = i := by
  simp only [ownM, List.mem_map, List.mem_filter, decide_eq_true_eq]
  exact ⟨fun ⟨y, ⟨a, b⟩, c⟩ => ⟨y, a, b, c⟩, fun ⟨y, a, b, c⟩ => ⟨y, ⟨a, b⟩, c⟩⟩
theorem idxOf_inj {kept : List Nat} {x y : Nat} (hx : x ∈ kept) (hy : y ∈ kept) (e : kept.idxOf x = kept.idxOf y) : x = y := by
  have h1 := List.getElem_idxOf (List.idxOf_lt_length_of_mem hx)
  have h2 := List.getElem_idxOf (List.idxOf_lt_length_of_mem hy)
  rw [← h1, ← h2]
  congr 1
theorem anew_wf {W : Web ω} (wf : Wf W) (kept : List Nat) : Wf (anew W kept) := by
  refine ⟨List.Nodup.sublist (thin_keys _ _) wf.nds, List.Nodup.sublist (thin_keys _ _) wf.ndm, fun p hp q hq => ?_, fun p hp y hy => ?_⟩
  · obtain ⟨p', _, e⟩ := List.mem_map.mp (List.mem_filter.mp hp).1
    subst e
    obtain ⟨i, j⟩ := q
    obtain ⟨x, y, _, hx, hy, rfl, rfl⟩ := ownS_mem.mp hq
    exact ⟨List.idxOf_lt_length_of_mem hx, List.idxOf_lt_length_of_mem hy⟩
  · obtain ⟨p', _, e⟩ := List.mem_map.mp (List.mem_filter.mp hp).1
    subst e
    obtain ⟨x, _, hx, rfl⟩ := ownM_mem.mp hy
    exact List.idxOf_lt_length_of_mem hx
def Closed (W : Web ω) (kept : List Nat) : Prop := ∀ x ∈ kept, ∀ h, ∀ y ∈ ends W h x, y ∈ kept
theorem anew_holds {W : Web ω} (wf : Wf W) {kept : List Nat} (cl : Closed W kept) (s : Say ω) {x : Nat} (hx : x ∈ kept) : Holds W s x = Holds (anew W kept) s (kept.idxOf x) := by
  have es : ∀ h, getL (anew W kept).steps h = ownS kept (getL W.steps h) := fun h => thin_get _ rfl wf.nds h
  have em : ∀ w, getL (anew W kept).marks w = ownM kept (getL W.marks w) := fun h => thin_get _ rfl wf.ndm h
  refine holds_sim (fun x i => x ∈ kept ∧ i = kept.idxOf x) ?_ ?_ ?_ s x _ ⟨hx, rfl⟩
  · rintro x _ ⟨hx, rfl⟩ w
    rw [em, ownM_mem]
    constructor
    · intro q
      exact ⟨x, q, hx, rfl⟩
    · rintro ⟨y, q, hy, e⟩
      rw [idxOf_inj hx hy e.symm]
      exact q
  · rintro x _ ⟨hx, rfl⟩ h y hy
    have yk := cl x hx h y hy
    refine ⟨_, ?_, yk, rfl⟩
    rw [mem_ends, es, ownS_mem]
    exact ⟨x, y, mem_ends.mp hy, hx, yk, rfl, rfl⟩
  · rintro x _ ⟨hx, rfl⟩ h i hi
    rw [mem_ends, es, ownS_mem] at hi
    obtain ⟨x', y, hm, hx', hy, e1, rfl⟩ := hi
    have := idxOf_inj hx' hx e1
    subst this
    exact ⟨y, mem_ends.mpr hm, hy, rfl⟩

/-! ### negations pushed in, few words -/
mutual
def push : Say ω → Bool → Say ω
  | .letter w, b => if b then .letter w else .neg (.letter w)
  | .neg s, b => push s (!b)
  | .conj l, b => if b then .conj (pushL l b) else .disj (pushL l b)
  | .disj l, b => if b then .disj (pushL l b) else .conj (pushL l b)
  | .must h s, b => if b then .must h (push s b) else .may h (push s b)
  | .may h s, b => if b then .may h (push s b) else .must h (push s b)
def pushL : List (Say ω) → Bool → List (Say ω)
  | [], _ => []
  | s :: r, b => push s b :: pushL r b
end
theorem pushL_eq (l : List (Say ω)) (b : Bool) : pushL l b = l.map fun s => push s b := by
  induction l with
  | nil => simp [pushL]
  | cons s r ih => simp [pushL, ih]
theorem holds_push (W : Web ω) : ∀ (s : Say ω) (b : Bool) (x : Nat), Holds W (push s b) x = (Holds W s x == b) := by
  intro s
  induction s using Say.ind with
  | h1 w =>
    intro b x
    cases b <;> simp [push, holds_neg, holds_letter]
  | h2 s ih =>
    intro b x
    rw [push, ih, holds_neg]
    cases b <;> cases Holds W s x <;> rfl
  | h3 l ih =>
    intro b x
    cases b
    · simp only [push, pushL_eq, holds_disj, holds_conj, Bool.false_eq_true, if_false]
      rw [Bool.eq_iff_iff]
      simp only [List.any_eq_true, List.mem_map, beq_false, Bool.not_eq_true', List.all_eq_false]
      constructor
      · rintro ⟨_, ⟨s, hs, rfl⟩, q⟩
        rw [ih s hs] at q
        exact ⟨s, hs, by cases e : Holds W s x <;> simp_all⟩
      · rintro ⟨s, hs, q⟩
        exact ⟨_, ⟨s, hs, rfl⟩, by rw [ih s hs]; cases e : Holds W s x <;> simp_all⟩
    · simp only [push, pushL_eq, holds_conj, if_true]
      rw [Bool.eq_iff_iff]
      simp only [List.all_eq_true, List.mem_map, beq_true]
      constructor
      · intro q s hs
        have := q _ ⟨s, hs, rfl⟩
        rw [ih s hs] at this
        simpa using this
      · rintro q _ ⟨s, hs, rfl⟩
        rw [ih s hs, q s hs]
        rfl
  | h4 l ih =>
    intro b x
    cases b
    · simp only [push, pushL_eq, holds_disj, holds_conj, Bool.false_eq_true, if_false]
      rw [Bool.eq_iff_iff]
      simp only [List.all_eq_true, List.mem_map, beq_false, Bool.not_eq_true', List.any_eq_false]
      constructor
      · intro q s hs
        have := q _ ⟨s, hs, rfl⟩
        rw [ih s hs] at this
        cases e : Holds W s x <;> simp_all
      · rintro q _ ⟨s, hs, rfl⟩
        have := q s hs
        rw [ih s hs]
        cases e : Holds W s x <;> simp_all
    · simp only [push, pushL_eq, holds_disj, if_true]
      rw [Bool.eq_iff_iff]
      simp only [List.any_eq_true, List.mem_map, beq_true]
      constructor
      · rintro ⟨_, ⟨s, hs, rfl⟩, q⟩
        rw [ih s hs] at q
        exact ⟨s, hs, by simpa using q⟩
      · rintro ⟨s, hs, q⟩
        exact ⟨_, ⟨s, hs, rfl⟩, by rw [ih s hs, q]; rfl⟩
  | h5 h s ih =>
    intro b x
    cases b
    · simp only [push, Bool.false_eq_true, if_false, holds_may, holds_must, ih]
      induction ends W h x with
      | nil => rfl
      | cons a r ihr =>
        simp only [List.any_cons, List.all_cons, ihr]
        cases Holds W s a <;> simp
    · simp only [push, if_true, holds_must, ih]
      simp
  | h6 h s ih =>
    intro b x
    cases b
    · simp only [push, Bool.false_eq_true, if_false, holds_may, holds_must, ih]
      induction ends W h x with
      | nil => rfl
      | cons a r ihr =>
        simp only [List.any_cons, List.all_cons, ihr]
        cases Holds W s a <;> simp
    · simp only [push, if_true, holds_may, ih]
      simp
mutual
def few : Say ω → Say ω
  | .letter w => .letter w
  | .neg s => .neg (few s)
  | .conj l => .conj (fewL l)
  | .disj l => .neg (.conj (fewN l))
  | .must h s => .must h (few s)
  | .may h s => .neg (.must h (.neg (few s)))
def fewL : List (Say ω) → List (Say ω)
  | [] => []
  | s :: r => few s :: fewL r
def fewN : List (Say ω) → List (Say ω)
  | [] => []
  | s :: r => .neg (few s) :: fewN r
end
theorem fewL_eq (l : List (Say ω)) : fewL l = l.map few := by
  induction l with
  | nil => simp [fewL]
  | cons s r ih => simp [fewL, ih]
theorem fewN_eq (l : List (Say ω)) : fewN l = (l.map few).map .neg := by
  induction l with
  | nil => simp [fewN]
  | cons s r ih => simp [fewN, ih]
theorem holds_few (W : Web ω) : ∀ (s : Say ω) (x : Nat), Holds W (few s) x = Holds W s x := by
  intro s
  induction s using Say.ind with
  | h1 w => intro x; rw [few]
  | h2 s ih => intro x; rw [few, holds_neg, holds_neg, ih]
  | h3 l ih =>
    intro x
    rw [few, holds_conj, holds_conj, fewL_eq, Bool.eq_iff_iff]
    simp only [List.all_eq_true, List.mem_map]
    exact ⟨fun q s hs => (ih s hs x) ▸ q _ ⟨s, hs, rfl⟩, by rintro q _ ⟨s, hs, rfl⟩; rw [ih s hs]; exact q s hs⟩
  | h4 l ih =>
    intro x
    rw [few, holds_neg, holds_conj, holds_disj, fewN_eq, Bool.eq_iff_iff]
    simp only [Bool.not_eq_true', List.all_eq_false, List.any_eq_true, List.mem_map]
    constructor
    · rintro ⟨_, ⟨_, ⟨s, hs, rfl⟩, rfl⟩, q⟩
      rw [holds_neg, ih s hs] at q
      exact ⟨s, hs, by simpa using q⟩
    · rintro ⟨s, hs, q⟩
      exact ⟨_, ⟨_, ⟨s, hs, rfl⟩, rfl⟩, by rw [holds_neg, ih s hs, q]; simp⟩
  | h5 h s ih => intro x; simp only [few, holds_must, ih]
  | h6 h s ih =>
    intro x
    simp only [few, holds_neg, holds_must, holds_may, ih]
    induction ends W h x with
    | nil => rfl
    | cons a r ihr =>
      simp only [List.any_cons, List.all_cons, Bool.not_and, ihr]
      cases Holds W s a <;> simp

/-! ### classes -/
/-- unlike keys, as they come -/
def dd {κ : Type} [DecidableEq κ] (l : List κ) : List κ := l.foldl (fun acc k => if k ∈ acc then acc else acc ++ [k]) []
/-- a number for each key, alike for like ones, as they come -/
def num {κ : Type} [DecidableEq κ] (keys : List κ) : List Nat := keys.map fun k => (dd keys).idxOf k
section
variable {κ : Type} [DecidableEq κ]
theorem dd_snoc (l : List κ) (k : κ) : dd (l ++ [k]) = if k ∈ dd l then dd l else dd l ++ [k] := by
  unfold dd
  rw [List.foldl_append]
  rfl
end
/-- one of its class has it alone: the least of each class -/
def least (n : Nat) (c : Nat → Nat) : List Nat := (List.range n).filter fun x => (List.range x).all fun y => decide (c y ≠ c x)
theorem mem_least {n : Nat} {c : Nat → Nat} {x : Nat} : x ∈ least n c ↔ x < n ∧ ∀ y, y < x → c y ≠ c x := by
  simp only [least, List.mem_filter, List.mem_range, List.all_eq_true, decide_eq_true_eq]
theorem filter_le {α : Type} {p q : α → Bool} : ∀ {l : List α}, (∀ x ∈ l, p x = true → q x = true) → (l.filter p).length ≤ (l.filter q).length
  | [], _ => Nat.le_refl _
  | a :: r, h => by
    have ih := filter_le (l := r) fun x hx => h x (List.mem_cons_of_mem _ hx)
    have ha := h a List.mem_cons_self
    simp only [List.filter_cons]
    cases hp : p a with
    | true =>
      rw [ha hp]
      simp
      exact ih
    | false =>
      cases hq : q a with
      | true =>
        simp
        omega
      | false =>
        simp
        exact ih
theorem filter_lt {α : Type} {p q : α → Bool} : ∀ {l : List α}, (∀ x ∈ l, p x = true → q x = true) → (∃ x ∈ l, p x = false ∧ q x = true) → (l.filter p).length < (l.filter q).length
  | [], _, ⟨_, h, _⟩ => nomatch h
  | a :: r, h, ⟨x, hx, h1, h2⟩ => by
    have hr : ∀ x ∈ r, p x = true → q x = true := fun x hx => h x (List.mem_cons_of_mem _ hx)
    have ha := h a List.mem_cons_self
    rcases List.mem_cons.mp hx with e | hx
    · subst e
      have := filter_le hr
      simp only [List.filter_cons, h1, h2]
      simp
      omega
    · have ih := filter_lt hr ⟨x, hx, h1, h2⟩
      simp only [List.filter_cons]
      cases hp : p a with
      | true =>
        rw [ha hp]
        simp
        exact ih
      | false =>
        cases hq : q a with
        | true =>
          simp
          omega
        | false =>
          simp
          exact ih
theorem least_le (n : Nat) (c : Nat → Nat) : (least n c).length ≤ n := by
  have := List.length_filter_le (fun x => (List.range x).all fun y => decide (c y ≠ c x)) (List.range n)
  rw [List.length_range] at this
  exact this
theorem least_pos {n : Nat} (c : Nat → Nat) (h : 0 < n) : 1 ≤ (least n c).length := by
  have : 0 ∈ least n c := mem_least.mpr ⟨h, fun y hy => absurd hy (Nat.not_lt_zero _)⟩
  exact List.length_pos_of_mem this
theorem least_lt {n : Nat} {c d : Nat → Nat} (hr : ∀ x y, x < n → y < n → d x = d y → c x = c y) (hx : ∃ x y, x < n ∧ y < n ∧ c x = c y ∧ d x ≠ d y) : (least n c).length < (least n d).length := by
  have sub : ∀ x ∈ List.range n, ((List.range x).all fun y => decide (c y ≠ c x)) = true → ((List.range x).all fun y => decide (d y ≠ d x)) = true := by
    intro x hx
    simp only [List.all_eq_true, List.mem_range, decide_eq_true_eq]
    intro h y hy e
    exact h y hy (hr y x (Nat.lt_trans hy (List.mem_range.mp hx)) (List.mem_range.mp hx) e)
  have ex : ∃ x, x < n ∧ ∃ y, y < x ∧ c y = c x ∧ d y ≠ d x := by
    obtain ⟨x, y, h1, h2, h3, h4⟩ := hx
    rcases Nat.lt_trichotomy x y with l | l | l
    · exact ⟨y, h2, x, l, h3, h4⟩
    · subst l
      exact absurd rfl h4
    · exact ⟨x, h1, y, l, h3.symm, fun e => h4 e.symm⟩
  have mn : ∀ m x, x < m → x < n → (∃ y, y < x ∧ c y = c x ∧ d y ≠ d x) → ∃ x, x < n ∧ (∃ y, y < x ∧ c y = c x ∧ d y ≠ d x) ∧ ∀ z, z < x → d z ≠ d x := by
    intro m
    induction m with
    | zero => intro x h; exact absurd h (Nat.not_lt_zero _)
    | succ m ih =>
      intro x hm hx ⟨y, hy, e1, e2⟩
      by_cases hz : ∀ z, z < x → d z ≠ d x
      · exact ⟨x, hx, ⟨y, hy, e1, e2⟩, hz⟩
      · have ⟨z, hz⟩ := Classical.not_forall.mp hz
        have ⟨zx, hz⟩ := Classical.not_imp.mp hz
        have hz : d z = d x := Classical.not_not.mp hz
        have cz : c z = c x := hr z x (by omega) hx hz
        rcases Nat.lt_trichotomy z y with l | l | l
        · exact ih y (by omega) (by omega) ⟨z, l, by rw [cz, e1], by rw [hz]; exact fun e => e2 e.symm⟩
        · subst l
          exact absurd hz e2
        · exact ih z (by omega) (by omega) ⟨y, l, by rw [cz, e1], by rw [hz]; exact e2⟩
  obtain ⟨x0, h0, hy0⟩ := ex
  obtain ⟨x, hx, ⟨y, hy, e1, e2⟩, hz⟩ := mn (x0 + 1) x0 (Nat.lt_succ_self _) h0 hy0
  refine filter_lt sub ⟨x, List.mem_range.mpr hx, ?_, ?_⟩
  · rw [List.all_eq_false]
    exact ⟨y, List.mem_range.mpr hy, by simp [e1]⟩
  · simp only [List.all_eq_true, List.mem_range, decide_eq_true_eq]
    exact hz

section
variable {κ : Type} [DecidableEq κ]
theorem snoc_ind {P : List κ → Prop} (h0 : P []) (h1 : ∀ l k, P l → P (l ++ [k])) (l : List κ) : P l := by
  have : ∀ n (l : List κ), l.length = n → P l := by
    intro n
    induction n with
    | zero =>
      intro l h
      have : l = [] := List.length_eq_zero_iff.mp h
      subst this
      exact h0
    | succ n ih =>
      intro l h
      have ne : l ≠ [] := by
        rintro rfl
        simp at h
      rw [← List.dropLast_concat_getLast ne]
      exact h1 _ _ (ih _ (by rw [List.length_dropLast, h]; rfl))
  exact this _ l rfl
theorem mem_dd {l : List κ} {k : κ} : k ∈ dd l ↔ k ∈ l := by
  induction l using snoc_ind with
  | h0 => exact Iff.rfl
  | h1 l a ih =>
    rw [dd_snoc]
    split
    · rename_i h
      rw [ih, List.mem_append]
      constructor
      · exact .inl
      · rintro (q | q)
        · exact q
        · have : k = a := by simpa using q
          subst this
          exact ih.mp h
    · rw [List.mem_append, List.mem_append, ih]
theorem dd_idx {l : List κ} {a k : κ} (h : k ∈ l) : (dd (l ++ [a])).idxOf k = (dd l).idxOf k := by
  rw [dd_snoc]
  split
  · rfl
  · rw [List.idxOf_append, if_pos (mem_dd.mpr h)]
theorem num_len (l : List κ) : (num l).length = l.length := by simp [num]
theorem num_snoc (l : List κ) (k : κ) : num (l ++ [k]) = num l ++ [(dd (l ++ [k])).idxOf k] := by
  unfold num
  rw [List.map_append]
  congr 1
  exact List.map_congr_left fun a ha => dd_idx ha
theorem num_get {l : List κ} {i : Nat} (h : i < l.length) : (num l).getD i 0 = (dd l).idxOf l[i] := by
  simp [num, List.getD_eq_getElem?_getD, h]
theorem num_eq {l : List κ} {i j : Nat} (hi : i < l.length) (hj : j < l.length) : (num l).getD i 0 = (num l).getD j 0 ↔ l[i] = l[j] := by
  rw [num_get hi, num_get hj]
  constructor
  · intro e
    have h1 := List.getElem_idxOf (List.idxOf_lt_length_of_mem (mem_dd.mpr (List.getElem_mem hi)))
    have h2 := List.getElem_idxOf (List.idxOf_lt_length_of_mem (mem_dd.mpr (List.getElem_mem hj)))
    rw [← h1, ← h2]
    congr 1
  · intro e
    rw [e]
end
/-- classes are counted as their least ones rise -/
def Canon (c : List Nat) : Prop := ∀ i, i < c.length → (∀ y, y < i → c.getD y 0 ≠ c.getD i 0) → c.getD i 0 = (least i fun x => c.getD x 0).length
theorem least_congr {n : Nat} {c d : Nat → Nat} (h : ∀ x y, x < n → y < n → (c x = c y ↔ d x = d y)) : least n c = least n d := by
  unfold least
  refine List.filter_congr fun x hx => ?_
  have hx := List.mem_range.mp hx
  rw [Bool.eq_iff_iff]
  simp only [List.all_eq_true, List.mem_range, decide_eq_true_eq]
  exact ⟨fun q y hy e => q y hy ((h y x (by omega) hx).mpr e), fun q y hy e => q y hy ((h y x (by omega) hx).mp e)⟩
theorem least_succ (n : Nat) (c : Nat → Nat) : least (n + 1) c = least n c ++ if (List.range n).all (fun y => decide (c y ≠ c n)) = true then [n] else [] := by
  unfold least
  rw [List.range_succ, List.filter_append, List.filter_cons]
  rfl
theorem canon_eq {c d : List Nat} (hc : Canon c) (hd : Canon d) (hl : c.length = d.length) (h : ∀ x y, x < c.length → y < c.length → (c.getD x 0 = c.getD y 0 ↔ d.getD x 0 = d.getD y 0)) : c = d := by
  have key : ∀ i, i < c.length → c.getD i 0 = d.getD i 0 := by
    intro i
    induction i using Nat.strongRecOn with
    | _ i ih =>
      intro hi
      by_cases hq : ∀ y, y < i → c.getD y 0 ≠ c.getD i 0
      · rw [hc i hi hq, hd i (by omega) fun y hy e => hq y hy ((h y i (by omega) hi).mpr e)]
        rw [least_congr fun x y hx hy => h x y (by omega) (by omega)]
      · have ⟨y, hy⟩ := Classical.not_forall.mp hq
        have ⟨yi, hy⟩ := Classical.not_imp.mp hy
        have hy := Classical.not_not.mp hy
        rw [← hy, ih y yi (by omega)]
        exact (h y i (by omega) hi).mp hy
  refine List.ext_getElem hl fun i h1 h2 => ?_
  have := key i h1
  simpa [List.getD_eq_getElem?_getD, h1, h2] using this
theorem getD_snoc_lt {c : List Nat} {a : Nat} {i : Nat} (h : i < c.length) : (c ++ [a]).getD i 0 = c.getD i 0 := by
  simp [List.getD_eq_getElem?_getD, List.getElem?_append, h]
theorem getD_snoc_eq {c : List Nat} {a : Nat} : (c ++ [a]).getD c.length 0 = a := by
  simp [List.getD_eq_getElem?_getD]
theorem num_canon {κ : Type} [DecidableEq κ] (l : List κ) : Canon (num l) ∧ (dd l).length = (least l.length fun x => (num l).getD x 0).length := by
  induction l using snoc_ind with
  | h0 => exact ⟨fun i h => absurd h (Nat.not_lt_zero _), rfl⟩
  | h1 l k ih =>
    obtain ⟨ih1, ih2⟩ := ih
    have nl := num_len l
    have lst : ∀ m, m ≤ l.length → least m (fun x => (num (l ++ [k])).getD x 0) = least m fun x => (num l).getD x 0 := fun m hm => least_congr fun x y hx hy => by
      rw [num_snoc, getD_snoc_lt (by omega), getD_snoc_lt (by omega)]
    have all_iff : ((List.range l.length).all fun y => decide ((num (l ++ [k])).getD y 0 ≠ (num (l ++ [k])).getD l.length 0)) = true ↔ k ∉ l := by
      simp only [List.all_eq_true, List.mem_range, decide_eq_true_eq]
      have hk : l.length < (l ++ [k]).length := by simp
      constructor
      · intro q hm
        obtain ⟨i, hi, e⟩ := List.getElem_of_mem hm
        refine q i hi ((num_eq (by simp; omega) hk).mpr ?_)
        rw [List.getElem_append_left hi, e]
        simp
      · intro q y hy e
        have := (num_eq (by simp; omega) hk).mp e
        rw [List.getElem_append_left hy] at this
        refine q ?_
        have e2 : (l ++ [k])[l.length] = k := by simp
        rw [e2] at this
        rw [← this]
        exact List.getElem_mem hy
    constructor
    · intro i hi hq
      rw [num_len, List.length_append] at hi
      have hi : i < l.length + 1 := hi
      by_cases hl : i < l.length
      · have e : ∀ y, y ≤ i → (num (l ++ [k])).getD y 0 = (num l).getD y 0 := fun y hy => by rw [num_snoc, getD_snoc_lt (by omega)]
        rw [lst i (by omega), e i (Nat.le_refl _)]
        refine ih1 i (by omega) fun y hy q => hq y hy ?_
        rw [e y (by omega), e i (Nat.le_refl _)]
        exact q
      · have : i = l.length := by omega
        subst this
        have hk : k ∉ l := by
          refine all_iff.mp ?_
          simp only [List.all_eq_true, List.mem_range, decide_eq_true_eq]
          exact hq
        rw [lst _ (Nat.le_refl _), ← ih2, num_snoc, ← nl, getD_snoc_eq, dd_snoc, if_neg (fun q => hk (mem_dd.mp q))]
        rw [List.idxOf_append]
        rw [if_neg (fun q => hk (mem_dd.mp q))]
        simp
    · rw [List.length_append]
      show _ = (least (l.length + 1) _).length
      rw [least_succ, lst _ (Nat.le_refl _), List.length_append, ← ih2, dd_snoc]
      by_cases hk : k ∈ l
      · rw [if_pos (mem_dd.mpr hk), if_neg (fun q => all_iff.mp q hk)]
        rfl
      · rw [if_neg (fun q => hk (mem_dd.mp q)), if_pos (all_iff.mpr hk), List.length_append]
        rfl

/-! ### rounds -/
def hands (W : Web ω) : List ω := W.steps.map (·.1)
theorem ends_no {W : Web ω} {h : ω} (n : h ∉ hands W) (x : Nat) : ends W h x = [] := by
  simp [ends, getL_none n]
structure Fst (W : Web ω) (c : List Nat) : Prop where
  len : c.length = W.many
  can : Canon c
  eq : ∀ x y, x < W.many → y < W.many → (c.getD x 0 = c.getD y 0 ↔ ∀ w, (x ∈ getL W.marks w ↔ y ∈ getL W.marks w))
def SameC (W : Web ω) (c : List Nat) (x y : Nat) : Prop := ∀ h ∈ hands W, ∀ a, a ∈ (ends W h x).map (fun z => c.getD z 0) ↔ a ∈ (ends W h y).map fun z => c.getD z 0
structure Nxt (W : Web ω) (c d : List Nat) : Prop where
  len : d.length = W.many
  can : Canon d
  eq : ∀ x y, x < W.many → y < W.many → (d.getD x 0 = d.getD y 0 ↔ c.getD x 0 = c.getD y 0 ∧ SameC W c x y)
/-- rounds so far -/
structure Rows (W : Web ω) (rs : List (List Nat)) : Prop where
  pos : 0 < rs.length
  fst : Fst W (rs.getD 0 [])
  nxt : ∀ i, i + 1 < rs.length → Nxt W (rs.getD i []) (rs.getD (i + 1) []) ∧ rs.getD (i + 1) [] ≠ rs.getD i []
structure Rounds (W : Web ω) (rs : List (List Nat)) : Prop extends Rows W rs where
  last : Nxt W (rs.getD (rs.length - 1) []) (rs.getD (rs.length - 1) [])
section
variable {W : Web ω} {rs : List (List Nat)}
theorem Rows.row (R : Rows W rs) {i : Nat} (h : i < rs.length) : (rs.getD i []).length = W.many ∧ Canon (rs.getD i []) := by
  cases i with
  | zero => exact ⟨R.fst.len, R.fst.can⟩
  | succ i => exact ⟨(R.nxt i h).1.len, (R.nxt i h).1.can⟩
theorem Rows.back (R : Rows W rs) {i j : Nat} (hij : i ≤ j) (hj : j < rs.length) {x y : Nat} (hx : x < W.many) (hy : y < W.many) (e : (rs.getD j []).getD x 0 = (rs.getD j []).getD y 0) : (rs.getD i []).getD x 0 = (rs.getD i []).getD y 0 := by
  induction j with
  | zero =>
    have : i = 0 := by omega
    subst this
    exact e
  | succ j ih =>
    by_cases h : i = j + 1
    · subst h
      exact e
    · exact ih (by omega) (by omega) (((R.nxt j hj).1.eq x y hx hy).mp e).1
theorem Rows.count (R : Rows W rs) (hm : 0 < W.many) : ∀ i, i < rs.length → i + 1 ≤ (least W.many fun x => (rs.getD i []).getD x 0).length := by
  intro i
  induction i with
  | zero => exact fun _ => least_pos _ hm
  | succ i ih =>
    intro hi
    have ih := ih (by omega)
    have ⟨n, ne⟩ := R.nxt i hi
    have hr := R.row (i := i) (by omega)
    refine Nat.lt_of_le_of_lt ih (least_lt (fun x y hx hy e => ((n.eq x y hx hy).mp e).1) ?_)
    refine Classical.byContradiction fun no => ne (canon_eq n.can hr.2 (by rw [n.len, hr.1]) fun x y hx hy => ?_)
    rw [n.len] at hx hy
    constructor
    · exact fun e => ((n.eq x y hx hy).mp e).1
    · intro e
      exact Classical.byContradiction fun q => no ⟨x, y, hx, hy, e, q⟩
theorem Rows.len (R : Rows W rs) (hm : 0 < W.many) : rs.length ≤ W.many := by
  have := R.count hm (rs.length - 1) (by have := R.pos; omega)
  have := least_le W.many fun x => (rs.getD (rs.length - 1) []).getD x 0
  have := R.pos
  omega
/-- like ones at last: what holds is alike -/
theorem Rounds.same (R : Rounds W rs) (wf : Wf W) {x y : Nat} (hx : x < W.many) (hy : y < W.many) (e : (rs.getD (rs.length - 1) []).getD x 0 = (rs.getD (rs.length - 1) []).getD y 0) (s : Say ω) : Holds W s x = Holds W s y := by
  have pos := R.pos
  have go : ∀ x y, x < W.many → y < W.many → (rs.getD (rs.length - 1) []).getD x 0 = (rs.getD (rs.length - 1) []).getD y 0 → ∀ h, ∀ x' ∈ ends W h x, ∃ y' ∈ ends W h y, (rs.getD (rs.length - 1) []).getD x' 0 = (rs.getD (rs.length - 1) []).getD y' 0 := by
    intro x y hx hy e h x' hm
    by_cases hh : h ∈ hands W
    · obtain ⟨_, q⟩ := (R.last.eq x y hx hy).mp e
      obtain ⟨y', hy', e'⟩ := List.mem_map.mp ((q h hh _).mp (List.mem_map.mpr ⟨x', hm, rfl⟩))
      exact ⟨y', hy', e'.symm⟩
    · rw [ends_no hh] at hm
      cases hm
  refine holds_sim (fun x y => x < W.many ∧ y < W.many ∧ (rs.getD (rs.length - 1) []).getD x 0 = (rs.getD (rs.length - 1) []).getD y 0) ?_ ?_ ?_ s x y ⟨hx, hy, e⟩
  · rintro x y ⟨hx, hy, e⟩
    exact (R.fst.eq x y hx hy).mp (R.toRows.back (Nat.zero_le _) (by omega) hx hy e)
  · rintro x y ⟨hx, hy, e⟩ h x' hm
    obtain ⟨y', hy', e'⟩ := go x y hx hy e h x' hm
    exact ⟨y', hy', wf.ends hm, wf.ends hy', e'⟩
  · rintro x y ⟨hx, hy, e⟩ h y' hm
    obtain ⟨x', hx', e'⟩ := go y x hy hx e.symm h y' hm
    exact ⟨x', hx', wf.ends hx', wf.ends hm, e'.symm⟩
/-- a saying parts two worlds -/
def Parts (W : Web ω) (s : Say ω) (x y : Nat) : Prop := Holds W s x = true ∧ Holds W s y = false
/-- a step to a world apart from all others -/
theorem parts_may {h : ω} {l : List (Say ω)} {x y z : Nat} (hz : z ∈ ends W h x) (h1 : ∀ s ∈ l, Holds W s z = true) (h2 : ∀ o ∈ ends W h y, ∃ s ∈ l, Holds W s o = false) : Parts W (.may h (.conj l)) x y := by
  constructor
  · rw [holds_may, List.any_eq_true]
    exact ⟨z, hz, by rw [holds_conj, List.all_eq_true]; exact h1⟩
  · rw [holds_may, List.any_eq_false]
    intro o ho
    obtain ⟨s, hs, q⟩ := h2 o ho
    rw [holds_conj, Bool.not_eq_true, List.all_eq_false]
    exact ⟨s, hs, by simp [q]⟩
theorem Parts.neg {s : Say ω} {x y : Nat} (p : Parts W s x y) : Parts W (.neg s) y x := by
  constructor
  · rw [holds_neg, p.2]
    rfl
  · rw [holds_neg, p.1]
    rfl
/-- apart in a round, not in the one ahead: a step that the other has not -/
theorem Nxt.step {c d : List Nat} (n : Nxt W c d) {x y : Nat} (hx : x < W.many) (hy : y < W.many) (e : c.getD x 0 = c.getD y 0) (ne : d.getD x 0 ≠ d.getD y 0) :
    (∃ h ∈ hands W, ∃ z ∈ ends W h x, ∀ o ∈ ends W h y, c.getD z 0 ≠ c.getD o 0) ∨ (∃ h ∈ hands W, ∃ z ∈ ends W h y, ∀ o ∈ ends W h x, c.getD z 0 ≠ c.getD o 0) := by
  refine Classical.byContradiction fun no => ne ((n.eq x y hx hy).mpr ⟨e, fun h hh a => ?_⟩)
  have ⟨n1, n2⟩ := not_or.mp no
  constructor
  · intro hm
    obtain ⟨z, hz, rfl⟩ := List.mem_map.mp hm
    refine Classical.byContradiction fun q => n1 ⟨h, hh, z, hz, fun o ho e => q (List.mem_map.mpr ⟨o, ho, e.symm⟩)⟩
  · intro hm
    obtain ⟨z, hz, rfl⟩ := List.mem_map.mp hm
    refine Classical.byContradiction fun q => n2 ⟨h, hh, z, hz, fun o ho e => q (List.mem_map.mpr ⟨o, ho, e.symm⟩)⟩
theorem Rows.part (R : Rows W rs) (wf : Wf W) : ∀ n, n < rs.length → ∀ x y, x < W.many → y < W.many → (rs.getD n []).getD x 0 ≠ (rs.getD n []).getD y 0 → ∃ s, Parts W s x y := by
  intro n
  induction n with
  | zero =>
    intro hn x y hx hy ne
    refine Classical.byContradiction fun no => ne ((R.fst.eq x y hx hy).mpr fun w => ?_)
    constructor
    · intro q
      refine Classical.byContradiction fun q' => no ⟨.letter w, ?_, ?_⟩
      · rw [holds_letter, decide_eq_true q]
      · rw [holds_letter, decide_eq_false q']
    · intro q
      refine Classical.byContradiction fun q' => no ⟨.neg (.letter w), ?_, ?_⟩
      · rw [holds_neg, holds_letter, decide_eq_false q']
        rfl
      · rw [holds_neg, holds_letter, decide_eq_true q]
        rfl
  | succ n ih =>
    intro hn x y hx hy ne
    by_cases e : (rs.getD n []).getD x 0 = (rs.getD n []).getD y 0
    · have step : ∀ x y, x < W.many → y < W.many → (∃ h ∈ hands W, ∃ z ∈ ends W h x, ∀ o ∈ ends W h y, (rs.getD n []).getD z 0 ≠ (rs.getD n []).getD o 0) → ∃ s, Parts W s x y := by
        rintro x y hx hy ⟨h, hh, z, hz, q⟩
        have f : ∀ o, ∃ s, o ∈ ends W h y → Parts W s z o := fun o => by
          by_cases ho : o ∈ ends W h y
          · obtain ⟨s, p⟩ := ih (by omega) z o (wf.ends hz) (wf.ends ho) (q o ho)
            exact ⟨s, fun _ => p⟩
          · exact ⟨.conj [], fun k => absurd k ho⟩
        have ⟨g, hg⟩ := Classical.axiomOfChoice f
        refine ⟨_, parts_may (l := (ends W h y).map g) hz (fun s hs => ?_) fun o ho => ?_⟩
        · obtain ⟨o, ho, rfl⟩ := List.mem_map.mp hs
          exact (hg o ho).1
        · exact ⟨g o, List.mem_map.mpr ⟨o, ho, rfl⟩, (hg o ho).2⟩
      rcases (R.nxt n hn).1.step hx hy e ne with q | q
      · exact step x y hx hy q
      · obtain ⟨s, p⟩ := step y x hy hx q
        exact ⟨_, p.neg⟩
    · exact ih (by omega) x y hx hy e
/-- alike at last just where no saying parts -/
theorem Rounds.iff (R : Rounds W rs) (wf : Wf W) {x y : Nat} (hx : x < W.many) (hy : y < W.many) : (rs.getD (rs.length - 1) []).getD x 0 = (rs.getD (rs.length - 1) []).getD y 0 ↔ ∀ s, Holds W s x = Holds W s y := by
  constructor
  · exact fun e s => R.same wf hx hy e s
  · intro q
    refine Classical.byContradiction fun ne => ?_
    obtain ⟨s, p1, p2⟩ := R.toRows.part wf (rs.length - 1) (by have := R.pos; omega) x y hx hy ne
    have := q s
    rw [p1, p2] at this
    cases this
end
end
end K33
set_option autoImplicit false
set_option Elab.async false
set_option linter.all false
set_option maxRecDepth 100000
set_option maxHeartbeats 4000000
/-! The layer's rules with the written part told by its letter (a comprehension's block has its own context). -/
namespace K33
open PySem PySem.Spec PyProof.Rows L2 Evl
section
variable (K : PySem.W.Frag) {X : Cx} {e : Expr} {te : TE} {pos : Pos}
theorem k_in (h : X.K = K := by rfl) : OpR X (compareOp .In) (rIn K false) := h ▸ op_in_seq
theorem k_notIn (h : X.K = K := by rfl) : OpR X (compareOp .NotIn) (rIn K true) := h ▸ op_notIn_seq
theorem k_ixT (h : X.K = K := by rfl) : IxR X (rIxT K) := h ▸ ix_tup
theorem k_ixL (h : X.K = K := by rfl) : IxR X (rIxL K) := h ▸ ix_list
theorem k_eqD (hu : X.A.units + 64 < cLine) (h : X.K = K := by rfl) : OpR X (compareOp .Eq) (rEqD K) := h ▸ op_eqD hu
theorem k_neD (hu : X.A.units + 64 < cLine) (h : X.K = K := by rfl) : OpR X (compareOp .NotEq) (rNeD K) := h ▸ op_neD hu
theorem k_tuple (h : X.K = K := by rfl) : CallR X (.type "tuple") (rTuple K) := h ▸ call_tuple
def rLenS' (K : PySem.W.Frag) : List V → Hp → VK → Prop := fun xs H Q => ∃ p ys, xs = [.ref p] ∧ (SqL K H p ys ∨ SqT K H p ys) ∧ Q (.int ys.length) H
theorem k_len (h : X.K = K := by rfl) : CallR X (.builtin "len") (rLenS' K) := h ▸ call_len_seq
theorem k_tup (n : Nat) {es : List Expr} {k : Nat} {t : TGs} (hc : X.calm = true) (h : PGs X es t) (hk : X.K = K := by rfl) (hn : (assignEach es X.env).length = n := by rfl) (hst : (assignEach es X.env).findIdx? (·.1) = none := by rfl) : PG X (.Tuple es k pos) (gTup K n t) := by
  subst hk
  exact pg_tup hc h hn hst
theorem k_pit {tg : Expr} (hl : PE X e te) (h : X.K = K := by rfl) : PI X tg e (iTup K te) := h ▸ pi_tup hl
theorem k_pil {tg : Expr} (hl : PE X e te) (h : X.K = K := by rfl) : PI X tg e (iList K te) := h ▸ pi_list hl
theorem k_fld {f : Str} (he : PE X e te) (hb : attributeBase e f X.env (eval e X.env) = eval e X.env := by rfl) (h : X.K = K := by rfl) : PE X (.Attribute e f pos) (tFld K te f) := h ▸ pe_fld he hb
end
/-- names of a block -/
theorem blk {X : Cx} {N : List Str} {sc scope : Scope} {own : List (Str × Nat)} (h : blkC N sc scope own = true) (hN : X.N = N := by rfl) (hs : X.env.scope = sc := by rfl) : BlkOk X.N X.env.scope scope own := by
  subst hN hs
  exact blkOk_by h
section
variable {K : PySem.W.Frag} {σ : L2.St} {H H' : Hp} {ta tb te tx : TE} {tl tr : TA} {t u : TT} {x y z v : V} {d e : PyData} {P P' : PyData → Prop}
/-- n in (.., ..) -/
theorem inV_ints (i : Int) (ns : List Int) : inV (.int i) (ns.map V.int) = decide (i ∈ ns) := by
  induction ns with
  | nil => rfl
  | cons a r ih =>
    show (eqV (V.int a) (V.int i) || inV (.int i) (r.map V.int)) = _
    rw [ih]
    have : eqV (V.int a) (V.int i) = decide (a = i) := by
      show (a == i) = _
      rw [Bool.beq_eq_decide_eq]
    rw [this, Bool.eq_iff_iff]
    simp only [Bool.or_eq_true, decide_eq_true_eq, List.mem_cons]
    exact ⟨fun h => h.imp Eq.symm id, fun h => h.imp Eq.symm id⟩
theorem flat_ints (ns : List Int) : (ns.map V.int).all flatV = true := by
  rw [List.all_eq_true]
  intro v hv
  obtain ⟨i, _, rfl⟩ := List.mem_map.mp hv
  rfl
theorem flat_strs' (ns : List Str) : (ns.map V.str).all flatV = true := by
  rw [List.all_eq_true]
  intro v hv
  obtain ⟨i, _, rfl⟩ := List.mem_map.mp hv
  rfl
theorem inV_strs (i : Str) (ns : List Str) : inV (.str i) (ns.map V.str) = decide (i ∈ ns) := by
  induction ns with
  | nil => rfl
  | cons a r ih =>
    show (eqV (V.str a) (V.str i) || inV (.str i) (r.map V.str)) = _
    rw [ih]
    have : eqV (V.str a) (V.str i) = decide (a = i) := by
      show (a == i) = _
      rw [Bool.beq_eq_decide_eq]
    rw [this, Bool.eq_iff_iff]
    simp only [Bool.or_eq_true, decide_eq_true_eq, List.mem_cons]
    exact ⟨fun h => h.imp Eq.symm id, fun h => h.imp Eq.symm id⟩
theorem ev_inTI {ns : List Int} {i : Int} (ha : Ev ta σ H (.int i)) (hb : ED K tb σ H (· = .tuple (ns.map PyData.int))) : Ev (tOp (rIn K false) ta tb) σ H (.bl (decide (i ∈ ns))) := fun H1 a Q q =>
  ha H1 a _ fun H2 e2 => hb H2 (a.trans e2) _ fun v H3 d e3 t p => by
    subst p
    obtain ⟨p, xs, rfl, hs, ts⟩ := t.tupI
    obtain rfl := ts.ints
    refine ⟨p, _, rfl, .inr hs, rfl, flat_ints ns, ?_⟩
    show Q (.bl (if false = true then _ else _)) H3
    rw [if_neg Bool.false_ne_true, inV_ints]
    exact q H3 (e2.trans e3)
theorem ev_inTS {neg : Bool} {ns : List Str} {i : Str} (ha : Ev ta σ H (.str i)) (hb : ED K tb σ H (· = .tuple (ns.map PyData.str))) : Ev (tOp (rIn K neg) ta tb) σ H (.bl (if neg then !decide (i ∈ ns) else decide (i ∈ ns))) := fun H1 a Q q =>
  ha H1 a _ fun H2 e2 => hb H2 (a.trans e2) _ fun v H3 d e3 t p => by
    subst p
    obtain ⟨p, xs, rfl, hs, ts⟩ := t.tupI
    obtain rfl := ts.strs
    refine ⟨p, _, rfl, .inr hs, rfl, flat_strs' ns, ?_⟩
    rw [inV_strs]
    exact q H3 (e2.trans e3)
end
/-! ### webs as data -/
def dPair (p : Nat × Nat) : PyData := .tuple [.int (p.1 : Int), .int (p.2 : Int)]
def dPairs (ps : List (Nat × Nat)) : PyData := .tuple (ps.map dPair)
def nats (ys : List Nat) : List Int := ys.map fun (y : Nat) => (y : Int)
def dNats (ys : List Nat) : PyData := .tuple ((nats ys).map PyData.int)
def dStep (p : Str × List (Nat × Nat)) : PyData := .tuple [.str p.1, dPairs p.2]
def dMark (p : Str × List Nat) : PyData := .tuple [.str p.1, dNats p.2]
def dSteps (l : List (Str × List (Nat × Nat))) : PyData := .tuple (l.map dStep)
def dMarks (l : List (Str × List Nat)) : PyData := .tuple (l.map dMark)
def dWeb (W : Web Str) : PyData := .tuple [.int (W.many : Int), dSteps W.steps, dMarks W.marks]
theorem mem_nats {x : Nat} {ys : List Nat} : (x : Int) ∈ nats ys ↔ x ∈ ys := by
  unfold nats
  rw [List.mem_map]
  exact ⟨fun ⟨y, hy, e⟩ => by rwa [← Int.ofNat.inj e], fun h => ⟨x, h, rfl⟩⟩
section
variable {K : PySem.W.Frag} {σ : L2.St} {H H' : Hp} {ta tb te tx : TE}
theorem ev_inN {ys : List Nat} {x : Nat} (ha : Ev ta σ H (.int (x : Int))) (hb : ED K tb σ H (· = dNats ys)) : Ev (tOp (rIn K false) ta tb) σ H (.bl (decide (x ∈ ys))) := by
  have e := ev_inTI ha hb
  simp only [mem_nats] at e
  exact e
end
end K33
set_option autoImplicit false
set_option Elab.async false
set_option linter.all false
set_option maxRecDepth 100000
set_option maxHeartbeats 4000000
/-! a, *rest = a tuple, a list. -/
namespace K33
open PySem PySem.Spec PyProof.Rows L2 Evl
section
variable {prog : Program} {w : World} {A : Around} {E : Value → Shared → Prop} {s : Shared}
/-- what an unpacking asks of the thing at l, in the order in which it asks: may it be walked, its iterator, the first i things, the others -/
structure Gives (prog : Program) (w : World) (A : Around) (E : Value → Shared → Prop) (s : Shared) (l : Addr) (i : Nat) (xs : List Value) : Prop where
  may : ∀ R : Bool → Shared → Prop, R false s → wpAny (model prog w) A (notIterableAtAll (.ref l)) R E s
  go : ∃ (it : Addr) (s₁ : Shared) (Mid : Shared → Prop), (∀ R : Value → Shared → Prop, R (.ref it) s₁ → wpAny (model prog w) A (pyIter (.ref l)) R E s) ∧
    (∀ R : List Value → Shared → Prop, (∀ s₂, Mid s₂ → R (xs.take i) s₂) → wpAny (model prog w) A (draw (.ref it) i) R E s₁) ∧
    ∀ (s₂ : Shared) (R : List Value → Shared → Prop), Mid s₂ → (∀ h tk, (∀ b o, s.heap.get? b = some o → h.get? b = some o) → R (xs.drop i) { s with heap := h, toks := tk }) → wpAny (model prog w) A (collect (.ref it)) R E s₂
theorem Gives.star {l : Addr} {xs : List Value} {n i : Nat} {Q : List Value → Shared → Prop} (G : Gives prog w A E s l i xs) (hi : i < n) (hn : n ≤ xs.length + 1)
    (h : ∀ h' tk, (∀ b o, s.heap.get? b = some o → h'.get? b = some o) → wpAny (model prog w) A (newList ((xs.drop i).take (xs.length + 1 - n))) (fun d s' => Q (xs.take i ++ [d] ++ (xs.drop i).drop (xs.length + 1 - n)) s') E { s with heap := h', toks := tk }) :
    wpAny (model prog w) A (unpackItems (.ref l) n (some i)) Q E s := by
  obtain ⟨it, s₁, Mid, g1, g2, g3⟩ := G.go
  have few : ¬ (xs.take i).length < i := by simp; omega
  have many : ¬ (xs.drop i).length < n - 1 - i := by simp; omega
  have cut : (xs.drop i).length - (n - 1 - i) = xs.length + 1 - n := by simp; omega
  delta unpackItems
  apply wpAny_bind
  apply G.may
  rw [if_neg Bool.false_ne_true]
  apply wpAny_bind
  apply wpAny_holding
  apply g1
  apply wpAny_bind
  apply wpAny_holding
  apply g2
  intro s₂ m
  rw [if_neg few]
  apply wpAny_bind
  apply wpAny_holding
  apply g3 s₂ _ m
  intro h' tk kp
  dsimp only
  rw [if_neg many, cut]
  exact wpAny_bind (wpAny_mono (h h' tk kp) (fun _ _ z => wpAny_pure z) fun _ _ z => z)
/-- what holds of the heap once an iterator that was made last has moved -/
theorem moved_kept {h h₁ h₂ : Heap} {ob : Obj} (m : Heap.SameBut h.objs.size (h.push ob) h₁) (k : ∀ b o, b ≠ h.objs.size → h₁.get? b = some o → h₂.get? b = some o) :
    ∀ b o, h.get? b = some o → h₂.get? b = some o := by
  intro b o e
  have ne : b ≠ h.objs.size := Nat.ne_of_lt (Heap.lt_size e)
  exact k b o ne ((m.2 b ne).trans (Heap.get?_push_of_some _ e))
theorem Gives.tup {l : Addr} {items : Array Value} {i : Nat} (hl : IsTup s.heap l items) (hh : A.handled = none) (hi : i ≤ items.size) (hz : items.size ≤ 16384) : Gives prog w A E s l i items.toList := by
  have ll : l < s.heap.objs.size := hl.elim fun _ z => Heap.lt_size z.1
  refine ⟨fun R q => ?_, s.heap.objs.size, { s with heap := s.heap.push { cls := .type "tuple_iterator", data := .fields #[.ref l, .int 0 0] } }, fun s₂ => ∃ h₁, s₂ = { s with heap := h₁ } ∧ IsTupIter h₁ s.heap.objs.size l i ∧ IsTup h₁ l items ∧ Heap.SameBut s.heap.objs.size (s.heap.push { cls := .type "tuple_iterator", data := .fields #[.ref l, .int 0 0] }) h₁, fun R q => iter_tuple hl q, fun R q => ?_, ?_⟩
  · delta notIterableAtAll
    exact wpAny_bind (wpAny_specialOf hl.typeIs slot_tuple_iter.lookup (wpAny_pure q))
  · refine draw_tuple (items := items) (Nat.ne_of_lt ll) i 0 _ _ ⟨_, Heap.get?_push_size _ rfl, rfl, rfl⟩ (hl.push _) (by omega) fun h₁ at₁ m => q _ ⟨h₁, rfl, by simpa using at₁, ?_, m⟩
    exact (hl.push _).extBut m.extBut (Nat.ne_of_lt ll)
  · rintro _ R ⟨h₁, rfl, at₁, hl₁, m⟩ q
    have li : s.heap.objs.size < h₁.objs.size := at₁.elim fun _ z => Heap.lt_size z.1
    have la : l < h₁.objs.size := Nat.lt_trans ll li
    exact PySem.W.kun_collect (T := "tuple_iterator") (.inr (.inr (.inr rfl))) (Walks.tuple (A := A.in1) hh _ l (Nat.ne_of_lt ll) items) (fun _ _ st => st.1.typeIs) hi ⟨at₁, hl₁⟩ li la (fun h₂ tk k => q h₂ tk (moved_kept m k)) (by rw [sizeLine_eq]; omega)
theorem Gives.lst {l : Addr} {items : Array Value} {i : Nat} (hl : s.heap.IsList l items) (hh : A.handled = none) (hi : i ≤ items.size) (hz : items.size ≤ 16384) : Gives prog w A E s l i items.toList := by
  have ll : l < s.heap.objs.size := hl.elim fun _ z => Heap.lt_size z.1
  refine ⟨fun R q => ?_, s.heap.objs.size, { s with heap := s.heap.push { cls := .type "list_iterator", data := .fields #[.ref l, .int 0 0] } }, fun s₂ => ∃ h₁, s₂ = { s with heap := h₁ } ∧ h₁.IsListIter s.heap.objs.size l i ∧ h₁.IsList l items ∧ Heap.SameBut s.heap.objs.size (s.heap.push { cls := .type "list_iterator", data := .fields #[.ref l, .int 0 0] }) h₁, fun R q => wpAny_pyIter_list hl q, fun R q => ?_, ?_⟩
  · delta notIterableAtAll
    exact wpAny_bind (wpAny_specialOf hl.typeIs slot_list_iter.lookup (wpAny_pure q))
  · refine PySem.W.kun_draw (items := items) (Nat.ne_of_lt ll) i 0 _ _ ⟨_, Heap.get?_push_size _ rfl, rfl, rfl⟩ (hl.push _) (by omega) fun h₁ at₁ m => q _ ⟨h₁, rfl, by simpa using at₁, ?_, m⟩
    exact (hl.push _).extBut m.extBut (Nat.ne_of_lt ll)
  · rintro _ R ⟨h₁, rfl, at₁, hl₁, m⟩ q
    have li : s.heap.objs.size < h₁.objs.size := at₁.elim fun _ z => Heap.lt_size z.1
    have la : l < h₁.objs.size := Nat.lt_trans ll li
    exact PySem.W.kun_collect (T := "list_iterator") (.inr (.inr (.inl rfl))) (Walks.list (A := A.in1) hh _ l (Nat.ne_of_lt ll) items) (fun _ _ st => st.1.typeIs) hi ⟨at₁, hl₁⟩ li la (fun h₂ tk k => q h₂ tk (moved_kept m k)) (by rw [sizeLine_eq]; omega)
end
/-- n targets, the i-th starred -/
def gStar (K : PySem.W.Frag) (n i : Nat) (t : TGs) : TG := fun v σ H Q => ∃ a xs, v = .ref a ∧ (SqT K H a xs ∨ SqL K H a xs) ∧ n ≤ xs.length + 1 ∧ xs.length ≤ 16384 ∧
  ∀ D, H D = none → t (xs.take i ++ [.ref D] ++ (xs.drop i).drop (xs.length + 1 - n)) σ (upd H D (.lst ((xs.drop i).take (xs.length + 1 - n)))) Q
section
variable {X : Cx}
theorem pgs_star {e : Expr} {es : List Expr} {t : TG} {u : TGs} {p : Pos} (h1 : PG X e t) (h2 : PGs X es u)
    (hs : (assignEach (.Starred e p :: es) X.env).map (·.2) = assign e X.env :: (assignEach es X.env).map (·.2) := by rfl) : PGs X (.Starred e p :: es) (gCons t u) := by
  constructor
  rintro pins s σ H _ us Q I r ⟨v, vr, rfl, go⟩
  rw [hs]
  match us, r with
  | u :: us, .cons r rr =>
    apply assignInOrder_cons
    refine thn (h1.run pins s σ H v u _ I r go) ?_
    rintro _ s₁ ⟨σ₁, H₁, I₁, q⟩
    exact h2.run pins s₁ σ₁ H₁ vr us Q I₁ rr q
theorem k_star (K : PySem.W.Frag) (n i : Nat) {es : List Expr} {k : Nat} {t : TGs} {pos : Pos} (hc : X.calm = true) (h : PGs X es t) (hi : i < n) (hk : X.K = K := by rfl)
    (hn : (assignEach es X.env).length = n := by rfl) (hst : (assignEach es X.env).findIdx? (·.1) = some i := by rfl) : PG X (.Tuple es k pos) (gStar K n i t) := by
  subst hk
  refine ⟨fun pins s σ H v u Q I r hw => ?_⟩
  obtain ⟨a, xs, e1, hq, hl, hz, hw⟩ := hw
  subst e1
  cases r
  rw [PyProof.Rows.assign_Tuple]
  refine wpAny_bind (wpAny_standAt ?_)
  unfold unpack
  rw [hn, hst]
  have lay : ∀ (its : List Value), Vals xs its → (∀ {E' : Value → Shared → Prop}, Gives X.prog X.w X.A E' s a i its) → wpAny (model X.prog X.w) X.A (unpackItems (.ref a) n (some i))
      (fun vs s' => wpAny (model X.prog X.w) X.A (assignInOrder ((assignEach es X.env).map (·.2)) vs) (fun _ s' => ∃ σ' H', Inv X pins σ' H' s' ∧ Q σ' H') X.xe s') X.xe s := by
    intro its rv G
    have sz := rv.length
    refine G.star hi (by omega) fun h' tk kp => ?_
    rw [← sz]
    have fr : H h'.objs.size = none := (I.kept (t' := tk) kp).hok.fresh (Nat.le_refl h'.objs.size)
    have rm : Vals ((xs.drop i).take (xs.length + 1 - n)) ((its.drop i).take (xs.length + 1 - n)) := (rv.drop i).take (xs.length + 1 - n)
    have fit : ((xs.drop i).take (xs.length + 1 - n)).length ≤ sizeLine := by simp only [List.length_take, List.length_drop, sizeLine_eq]; omega
    have J := (I.kept (t' := tk) kp).laid (t' := tk) (o := .lst ((xs.drop i).take (xs.length + 1 - n))) (fun b o e => Heap.get?_push_of_some { cls := .type "list", data := .seq ((its.drop i).take (xs.length + 1 - n)).toArray } e) (Nat.le_refl _) ⟨fit, _, 0, rm, Heap.get?_push_size _ rfl⟩
    refine wpAny_newObj_type (h.run pins _ σ _ (xs.take i ++ [.ref h'.objs.size] ++ (xs.drop i).drop (xs.length + 1 - n)) _ Q J ?_ (hw _ fr)) (show ((its.drop i).take (xs.length + 1 - n)).length ≤ sizeLine from rm.length ▸ fit)
    exact ((rv.take i).append (.cons (show L2.RelV (V.ref h'.objs.size) (Value.ref h'.objs.size) from rfl) .nil)).append ((rv.drop i).drop _)
  rcases hq with hq | hq
  · obtain ⟨its, rv, ht, _⟩ := I.tuple hq
    have sz := rv.length
    exact wpAny_bind (wpAny_holding (lay its rv (Gives.tup (i := i) (items := its.toArray) ht (I.ok.hd hc) (by simp; omega) (by simp; omega))))
  · obtain ⟨its, rv, pl, _⟩ := I.list hq
    have sz := rv.length
    exact wpAny_bind (wpAny_holding (lay its rv (Gives.lst (i := i) (items := its.toArray) pl.isList (I.ok.hd hc) (by simp; omega) (by simp; omega))))
end
section
variable {K : PySem.W.Frag} {σ : L2.St} {H : Hp}
/-- word, *rest = a tuple of data -/
theorem g_star1 {j k : Nat} {x : V} {d : PyData} {ds : List PyData} {Q : L2.St → Hp → Prop} (tx : TD K H x (.tuple (d :: ds))) (hz : ds.length ≤ 10000)
    (h : ∀ v p xs, H p = none → TD K H v d → TDs K H xs ds → Q ((σ.set j (some v)).set k (some (.ref p))) (upd H p (.lst xs))) : gStar K 2 1 (gCons (gName j) (gCons (gName k) gNil)) x σ H Q := by
  obtain ⟨a, xs, rfl, hs, ts⟩ := tx.tupI
  obtain ⟨v, r1, rfl, t1, ts⟩ := ts.consI
  have hl := ts.len
  refine ⟨a, v :: r1, rfl, .inl hs, by simp, by simp; omega, fun D hD => ?_⟩
  refine ⟨v, [.ref D], ?_, .ref D, [], rfl, rfl, ?_⟩
  · simp
  · have e : ((v :: r1).drop 1).take ((v :: r1).length + 1 - 2) = r1 := by simp
    rw [e]
    exact h v D r1 hD t1 ts
/-- word, first, *rest = a tuple of data -/
theorem g_star2 {j k m : Nat} {x : V} {d e : PyData} {ds : List PyData} {Q : L2.St → Hp → Prop} (tx : TD K H x (.tuple (d :: e :: ds))) (hz : ds.length ≤ 10000)
    (h : ∀ v u p xs, H p = none → TD K H v d → TD K H u e → TDs K H xs ds → Q (((σ.set j (some v)).set k (some u)).set m (some (.ref p))) (upd H p (.lst xs))) : gStar K 3 2 (gCons (gName j) (gCons (gName k) (gCons (gName m) gNil))) x σ H Q := by
  obtain ⟨a, xs, rfl, hs, ts⟩ := tx.tupI
  obtain ⟨v, r1, rfl, t1, ts⟩ := ts.consI
  obtain ⟨u, r2, rfl, t2, ts⟩ := ts.consI
  have hl := ts.len
  refine ⟨a, v :: u :: r2, rfl, .inl hs, by simp, by simp; omega, fun D hD => ?_⟩
  refine ⟨v, [u, .ref D], ?_, u, [.ref D], rfl, .ref D, [], rfl, rfl, ?_⟩
  · simp
  · have e : ((v :: u :: r2).drop 2).take ((v :: u :: r2).length + 1 - 3) = r2 := by simp
    rw [e]
    exact h v u D r2 hD t1 t2 ts
/-- first, *rest = a list of data -/
theorem g_starL {j k : Nat} {a : Addr} {d : PyData} {xs : List V} {ds : List PyData} {Q : L2.St → Hp → Prop} (hs : SqL K H a xs) (ts : TDs K H xs (d :: ds)) (hz : ds.length ≤ 10000)
    (h : ∀ v p xs, H p = none → TD K H v d → TDs K H xs ds → Q ((σ.set j (some v)).set k (some (.ref p))) (upd H p (.lst xs))) : gStar K 2 1 (gCons (gName j) (gCons (gName k) gNil)) (.ref a) σ H Q := by
  obtain ⟨v, r1, rfl, t1, ts⟩ := ts.consI
  have hl := ts.len
  refine ⟨a, v :: r1, rfl, .inr hs, by simp, by simp; omega, fun D hD => ?_⟩
  refine ⟨v, [.ref D], ?_, .ref D, [], rfl, rfl, ?_⟩
  · simp
  · have e : ((v :: r1).drop 1).take ((v :: r1).length + 1 - 2) = r1 := by simp
    rw [e]
    exact h v D r1 hD t1 ts
end
end K33
set_option autoImplicit false
set_option Elab.async false
set_option linter.all false
set_option maxRecDepth 100000
set_option maxHeartbeats 4000000
/-! Sayings as data; tests on texts. -/
namespace K33
open PySem PySem.Spec PyProof.Rows L2 Evl
mutual
def dSay : Say Str → PyData
  | .letter w => .tuple [.str "letter", .str w]
  | .neg s => .tuple [.str "not", dSay s]
  | .conj l => .tuple [.str "and", .tuple (dSays l)]
  | .disj l => .tuple [.str "or", .tuple (dSays l)]
  | .must h s => .tuple [.str "must", .str h, dSay s]
  | .may h s => .tuple [.str "may", .str h, dSay s]
def dSays : List (Say Str) → List PyData
  | [] => []
  | s :: r => dSay s :: dSays r
end
theorem dSays_eq (l : List (Say Str)) : dSays l = l.map dSay := by
  induction l with
  | nil => simp [dSays]
  | cons s r ih => simp [dSays, ih]
theorem dSay_letter (w : Str) : dSay (.letter w) = .tuple [.str "letter", .str w] := by simp [dSay]
theorem dSay_neg (s : Say Str) : dSay (.neg s) = .tuple [.str "not", dSay s] := by simp [dSay]
theorem dSay_conj (l : List (Say Str)) : dSay (.conj l) = .tuple [.str "and", .tuple (l.map dSay)] := by simp [dSay, dSays_eq]
theorem dSay_disj (l : List (Say Str)) : dSay (.disj l) = .tuple [.str "or", .tuple (l.map dSay)] := by simp [dSay, dSays_eq]
theorem dSay_must (h : Str) (s : Say Str) : dSay (.must h s) = .tuple [.str "must", .str h, dSay s] := by simp [dSay]
theorem dSay_may (h : Str) (s : Say Str) : dSay (.may h s) = .tuple [.str "may", .str h, dSay s] := by simp [dSay]

/-- a saying at most n deep, its words such that W, its lists not long -/
inductive Good (W : Str → Prop) : Nat → Say Str → Prop
  | letter {n : Nat} {w : Str} : W w → Good W (n + 1) (.letter w)
  | neg {n : Nat} {s : Say Str} : Good W n s → Good W (n + 1) (.neg s)
  | conj {n : Nat} {l : List (Say Str)} : l.length ≤ 1000 → (∀ s ∈ l, Good W n s) → Good W (n + 1) (.conj l)
  | disj {n : Nat} {l : List (Say Str)} : l.length ≤ 1000 → (∀ s ∈ l, Good W n s) → Good W (n + 1) (.disj l)
  | must {n : Nat} {h : Str} {s : Say Str} : W h → Good W n s → Good W (n + 1) (.must h s)
  | may {n : Nat} {h : Str} {s : Say Str} : W h → Good W n s → Good W (n + 1) (.may h s)
theorem good_no {W : Str → Prop} {s : Say Str} : ¬ Good W 0 s := fun h => nomatch h
theorem Good.mono {W : Str → Prop} {s : Say Str} : ∀ {n m : Nat}, Good W n s → n ≤ m → Good W m s := by
  induction s using Say.ind with
  | h1 w =>
    intro n m h l
    cases h with
    | letter q =>
      obtain ⟨m, rfl⟩ : ∃ k, m = k + 1 := ⟨m - 1, by omega⟩
      exact .letter q
  | h2 s ih =>
    intro n m h l
    cases h with
    | neg q =>
      obtain ⟨m, rfl⟩ : ∃ k, m = k + 1 := ⟨m - 1, by omega⟩
      exact .neg (ih q (by omega))
  | h3 r ih =>
    intro n m h l
    cases h with
    | conj z q =>
      obtain ⟨m, rfl⟩ : ∃ k, m = k + 1 := ⟨m - 1, by omega⟩
      exact .conj z fun s hs => ih s hs (q s hs) (by omega)
  | h4 r ih =>
    intro n m h l
    cases h with
    | disj z q =>
      obtain ⟨m, rfl⟩ : ∃ k, m = k + 1 := ⟨m - 1, by omega⟩
      exact .disj z fun s hs => ih s hs (q s hs) (by omega)
  | h5 w s ih =>
    intro n m h l
    cases h with
    | must z q =>
      obtain ⟨m, rfl⟩ : ∃ k, m = k + 1 := ⟨m - 1, by omega⟩
      exact .must z (ih q (by omega))
  | h6 w s ih =>
    intro n m h l
    cases h with
    | may z q =>
      obtain ⟨m, rfl⟩ : ∃ k, m = k + 1 := ⟨m - 1, by omega⟩
      exact .may z (ih q (by omega))
theorem Good.push {W : Str → Prop} {s : Say Str} : ∀ {n : Nat} (b : Bool), Good W n s → Good W (n + 1) (push s b) := by
  induction s using Say.ind with
  | h1 w =>
    intro n b h
    cases h with
    | letter q =>
      cases b
      · simp only [K33.push]
        exact .neg (.letter q)
      · simp only [K33.push]
        exact .letter q
  | h2 s ih =>
    intro n b h
    cases h with
    | neg q =>
      simp only [K33.push]
      exact (ih (!b) q).mono (by omega)
  | h3 r ih =>
    intro n b h
    cases h with
    | conj z q =>
      have g : ∀ s ∈ r.map (fun s => K33.push s b), Good W _ s := fun s hs => by
        obtain ⟨t, ht, rfl⟩ := List.mem_map.mp hs
        exact ih t ht b (q t ht)
      cases b
      · simp only [K33.push, pushL_eq, Bool.false_eq_true, if_false]
        exact .disj (by simpa using z) g
      · simp only [K33.push, pushL_eq, if_true]
        exact .conj (by simpa using z) g
  | h4 r ih =>
    intro n b h
    cases h with
    | disj z q =>
      have g : ∀ s ∈ r.map (fun s => K33.push s b), Good W _ s := fun s hs => by
        obtain ⟨t, ht, rfl⟩ := List.mem_map.mp hs
        exact ih t ht b (q t ht)
      cases b
      · simp only [K33.push, pushL_eq, Bool.false_eq_true, if_false]
        exact .conj (by simpa using z) g
      · simp only [K33.push, pushL_eq, if_true]
        exact .disj (by simpa using z) g
  | h5 w s ih =>
    intro n b h
    cases h with
    | must z q =>
      cases b
      · simp only [K33.push, Bool.false_eq_true, if_false]
        exact .may z (ih _ q)
      · simp only [K33.push, if_true]
        exact .must z (ih _ q)
  | h6 w s ih =>
    intro n b h
    cases h with
    | may z q =>
      cases b
      · simp only [K33.push, Bool.false_eq_true, if_false]
        exact .must z (ih _ q)
      · simp only [K33.push, if_true]
        exact .may z (ih _ q)
theorem Good.few {W : Str → Prop} {s : Say Str} : ∀ {n : Nat}, Good W n s → Good W (3 * n) (few s) := by
  induction s using Say.ind with
  | h1 w =>
    intro n h
    cases h with
    | letter q =>
      simp only [K33.few]
      exact (Good.letter (n := 2) q).mono (by omega)
  | h2 s ih =>
    intro n h
    cases h with
    | neg q =>
      simp only [K33.few]
      exact (Good.neg (ih q)).mono (by omega)
  | h3 r ih =>
    intro n h
    cases h with
    | @conj n _ z q =>
      simp only [K33.few, fewL_eq]
      refine (Good.conj (n := 3 * n) (by simpa using z) fun s hs => ?_).mono (by omega)
      obtain ⟨t, ht, rfl⟩ := List.mem_map.mp hs
      exact ih t ht (q t ht)
  | h4 r ih =>
    intro n h
    cases h with
    | @disj n _ z q =>
      simp only [K33.few, fewN_eq]
      refine (Good.neg (Good.conj (n := 3 * n + 1) (by simpa using z) fun s hs => ?_)).mono (by omega)
      obtain ⟨t, ht, rfl⟩ := List.mem_map.mp hs
      obtain ⟨u, hu, rfl⟩ := List.mem_map.mp ht
      exact .neg (ih u hu (q u hu))
  | h5 w s ih =>
    intro n h
    cases h with
    | must z q =>
      simp only [K33.few]
      exact (Good.must z (ih q)).mono (by omega)
  | h6 w s ih =>
    intro n h
    cases h with
    | may z q =>
      simp only [K33.few]
      exact (Good.neg (.must z (.neg (ih q)))).mono (by omega)

section
variable {K : PySem.W.Frag} {σ : L2.St} {H H' : Hp} {ta tb te tx : TE} {tl tr : TA} {t u : TT} {x y z v : V} {d e : PyData} {P P' : PyData → Prop} {D : Ends} {tz tu tw : TS}
/-- a text compared with a text, the answer known -/
theorem et_eqS {a b : Str} {c : Bool} (h1 : Ev ta σ H (.str a)) (h2 : Ev tb σ H (.str b)) (h : decide (a = b) = c) : EvT (tTest (tOp rEq ta tb)) σ H c := by
  refine et_test (ev_is (ev_op h1 h2 (rv_eq (x := .str a) (y := .str b) rfl)) ?_)
  rw [← h]
  congr 1
  by_cases e : a = b
  · rw [e]; simp
  · rw [decide_eq_false e, decide_eq_false fun q => e (V.str.inj q)]
theorem et_inS {a : Str} {l : List Str} {c : Bool} (h1 : Ev ta σ H (.str a)) (h2 : ED K tb σ H (· = .tuple (l.map PyData.str))) (h : decide (a ∈ l) = c) : EvT (tTest (tOp (rIn K false) ta tb)) σ H c := by
  have := ev_inTS (neg := false) h1 h2
  rw [if_neg Bool.false_ne_true, h] at this
  exact et_test this
theorem q_ifT (h : EvT t σ H true) (k : ∀ H1, Ex H H1 → tu { D with nx := tz D } σ H1) : tSeq (tIfS t tu tw) tz D σ H := q_if h (fun _ => k) fun q => nomatch q
theorem q_ifF (h : EvT t σ H false) (k : ∀ H1, Ex H H1 → tz D σ H1) : tSeq (tIfS t tu tNext) tz D σ H := q_when h (fun q => nomatch q) fun _ => k
theorem s_ifT (h : EvT t σ H true) (k : ∀ H1, Ex H H1 → tu D σ H1) : tIfS t tu tw D σ H := s_if h (fun _ => k) fun q => nomatch q
theorem s_ifF (h : EvT t σ H false) (k : ∀ H1, Ex H H1 → tw D σ H1) : tIfS t tu tw D σ H := s_if h (fun q => nomatch q) fun _ => k
/-- a if c else b, the answer known -/
theorem ed_ifT (h : EvT t σ H true) (k : ED K ta σ H P) : ED K (tIf t ta tb) σ H P := fun H1 e Q q => h H1 e _ fun H2 e2 => by
  show ta σ H2 Q
  exact k H2 (e.trans e2) Q fun v H3 d e3 => q v H3 d (e2.trans e3)
theorem ed_ifF (h : EvT t σ H false) (k : ED K tb σ H P) : ED K (tIf t ta tb) σ H P := fun H1 e Q q => h H1 e _ fun H2 e2 => by
  show tb σ H2 Q
  exact k H2 (e.trans e2) Q fun v H3 d e3 => q v H3 d (e2.trans e3)
/-- a list at a known place, an item -/
theorem ed_ixL {p : Addr} {xs : List V} {ds : List PyData} {i : Nat} (h : Ev ta σ H (.ref p)) (hl : SqL K H p xs) (ts : TDs K H xs ds) (hi : Ev tb σ H (.int (i : Int))) (hd : ds[i]? = some d) : ED K (tOp (rIxL K) ta tb) σ H (· = d) := fun H1 a Q q =>
  h H1 a _ fun H2 e2 => hi H2 (a.trans e2) _ fun H3 e3 => by
    obtain ⟨w, hw, tw⟩ := ts.get hd
    exact ⟨p, xs, (i : Int), w, rfl, rfl, ex_l ((a.trans e2).trans e3) hl, atI_nat hw, q w H3 d (e2.trans e3) (tw.ex ((a.trans e2).trans e3)) rfl⟩
/-- (a, ..) + (b, ..) -/
theorem ed_cat {ds es : List PyData} (h1 : ED K ta σ H (· = .tuple ds)) (h2 : ED K tb σ H (· = .tuple es)) (hn : ds ≠ []) (hz : ds.length + es.length ≤ 100000) : ED K (tOp (rCatT K) ta tb) σ H (· = .tuple (ds ++ es)) := fun H1 a Q q =>
  h1 H1 a _ fun v H2 d e2 t2 p2 => h2 H2 (a.trans e2) _ fun w H3 d3 e3 t3 p3 => by
    subst p2 p3
    obtain ⟨p, xs, rfl, hs, ts⟩ := t2.tupI
    obtain ⟨p', ys, rfl, hs', ts'⟩ := t3.tupI
    have l1 := ts.len
    have l2 := ts'.len
    refine ⟨p, p', xs, ys, rfl, rfl, ex_t e3 hs, hs', fun e => hn ?_, sz_of (by omega), ?_⟩
    · subst e
      exact List.length_eq_zero_iff.mp (by simpa using l1.symm)
    · exact ⟨fun e => by
        subst e
        have : es = [] := List.length_eq_zero_iff.mp (by simpa using l2.symm)
        subst this
        exact q (.ref p) H3 _ (e2.trans e3) (.tup (ex_t e3 hs) (ts.ex e3)) (by simp), fun _ l nl => q (.ref l) _ _ ((e2.trans e3).trans (Ex.new nl)) (.tup (st_of upd_same) ((ts.ex (e3.trans (Ex.new nl))).app (ts'.ex (Ex.new nl)))) rfl⟩
end
end K33
set_option autoImplicit false
set_option Elab.async false
set_option linter.all false
set_option maxRecDepth 100000
set_option maxHeartbeats 4000000
/-! More of the layer: calls of promises over data, isinstance, len. -/
namespace K33
open PySem PySem.Spec PyProof.Rows L2 Evl
section
variable {K : PySem.W.Frag} {σ : L2.St} {H H' : Hp} {ta tb te tx : TE} {tl tr : TA} {t u : TT} {x y z v : V} {d e : PyData} {P P' : PyData → Prop} {D : Ends} {tz tu tw : TS} {ds : List PyData}
/-- a call whose promise is told of data -/
theorem ed_callS {sp : Sp} {E : XK} (h : EDs K tl σ H (· = ds)) (hs : ∀ vs H1 (Q : VK), Ex H H1 → TDs K H1 vs ds → (∀ v H' d, Ex H1 H' → TD K H' v d → P d → Q v H') → sp vs H1 Q E) : ED K (tCall sp [] E tl) σ H P := fun H1 a Q q =>
  h H1 a _ fun vs H2 ds' e ts r => by
    subst r
    show sp (vs ++ []) H2 Q E
    rw [List.append_nil]
    exact hs vs H2 Q (a.trans e) ts fun v H' d e' t p => q v H' d (e.trans e') t p
/-- isinstance(x, T) for a built-in T -/
theorem ev_isi {c : String} {tv : Value} {b : Bool} (h : ED K ta σ H (· = d)) (ty : ∀ H1 v, TD K H1 v d → TyX K H1 v tv) (k : PySem.W.kitOne K tv (.type c) = some b) : Ev (tCB (rIsi K) (tCons ta (tCons (tC (.ty c)) tNil))) σ H (.bl b) := fun H1 a Q q =>
  h H1 a _ fun v H2 d' e t p => by
    subst p
    exact ⟨v, .ty c, tv, .type c, b, rfl, .ty c, ty H2 v t, k, q H2 e⟩
theorem tyx_tup {H : Hp} {v : V} (h : TD K H v (.tuple ds)) : TyX K H v (.type "tuple") := by
  obtain ⟨a, xs, rfl, hs, _⟩ := h.tupI
  rcases hs with (h | ⟨o, h⟩) | ⟨o, its, n, h, c, _⟩
  · exact .base (.tup h)
  · exact .fTuple h
  · exact .kTuple h c
theorem tyx_str {H : Hp} {v : V} {z : Str} (h : TD K H v (.str z)) : TyX K H v (.type "str") := by
  rw [h.strI]
  exact .base (.str z)
theorem ev_lenT (h : ED K ta σ H (· = .tuple ds)) : Ev (tCB (rLenS' K) (tCons ta tNil)) σ H (.int (ds.length : Int)) := fun H1 a Q q =>
  h H1 a _ fun v H2 d' e t p => by
    subst p
    obtain ⟨a, xs, rfl, hs, ts⟩ := t.tupI
    refine ⟨a, xs, rfl, .inr hs, ?_⟩
    rw [ts.len]
    exact q H2 e
theorem ev_lenL {p : Addr} {xs : List V} (h : Ev ta σ H (.ref p)) (hl : SqL K H p xs) : Ev (tCB (rLenS' K) (tCons ta tNil)) σ H (.int (xs.length : Int)) := fun H1 a Q q =>
  h H1 a _ fun H2 e => ⟨p, xs, rfl, .inl (ex_l (a.trans e) hl), q H2 e⟩
def rLenX (K : PySem.W.Frag) : List V → Hp → VK → Prop := fun xs H Q => ∃ x n, xs = [x] ∧ LenV K x H n ∧ Q (.int n) H
theorem k_lenX (K : PySem.W.Frag) {X : Cx} (h : X.K = K := by rfl) : CallR X (.builtin "len") (rLenX K) := h ▸ call_len
theorem ev_lenS {z : Str} (h : Ev ta σ H (.str z)) (hz : z.length ≤ 1000) : Ev (tCB (rLenX K) (tCons ta tNil)) σ H (.int (z.length : Int)) := fun H1 a Q q =>
  h H1 a _ fun H2 e => ⟨.str z, z.length, rfl, ⟨sz_of (by omega), rfl⟩, q H2 e⟩
/-- an if-expression by a known Bool -/
theorem ed_ifB {b : Bool} (h : EvT t σ H b) (k1 : b = true → ED K ta σ H P) (k2 : b = false → ED K tb σ H P) : ED K (tIf t ta tb) σ H P := by
  cases b with
  | true => exact ed_ifT h (k1 rfl)
  | false => exact ed_ifF h (k2 rfl)
theorem q_ifB {b : Bool} (h : EvT t σ H b) (k1 : b = true → ∀ H1, Ex H H1 → tu { D with nx := tz D } σ H1) (k2 : b = false → ∀ H1, Ex H H1 → tz D σ H1) : tSeq (tIfS t tu tNext) tz D σ H := q_when h k1 k2
/-- x is true, by itself -/
theorem et_bool {b : Bool} (h : Ev te σ H (.bl b)) : EvT (tB te) σ H b := et_B h
/-- the list of a new list is what it is -/
theorem ev_eqI {i j : Int} {c : Bool} (h1 : Ev ta σ H (.int i)) (h2 : Ev tb σ H (.int j)) (h : decide (i = j) = c) : Ev (tOp rEq ta tb) σ H (.bl c) := by
  refine ev_is (ev_op h1 h2 (rv_eq (x := .int i) (y := .int j) rfl)) ?_
  rw [← h]
  congr 1
  by_cases e : i = j
  · rw [e]; simp
  · rw [decide_eq_false e, decide_eq_false fun q => e (V.int.inj q)]
theorem ev_eqS {a b : Str} {c : Bool} (h1 : Ev ta σ H (.str a)) (h2 : Ev tb σ H (.str b)) (h : decide (a = b) = c) : Ev (tOp rEq ta tb) σ H (.bl c) := by
  refine ev_is (ev_op h1 h2 (rv_eq (x := .str a) (y := .str b) rfl)) ?_
  rw [← h]
  congr 1
  by_cases e : a = b
  · rw [e]; simp
  · rw [decide_eq_false e, decide_eq_false fun q => e (V.str.inj q)]
end
end K33
namespace K33
open PySem PySem.Spec PyProof.Rows L2 Evl
section
variable {K : PySem.W.Frag} {σ : L2.St} {H H' : Hp} {ta tb tc te tx : TE} {tl tr : TA} {t u : TT} {x y z v : V} {d e : PyData} {P P' : PyData → Prop} {D : Ends} {tz tu tw : TS} {ds : List PyData}
theorem k_all (K : PySem.W.Frag) {X : Cx} (hc : X.calm = true) (h : X.K = K := by rfl) : CallR X (.builtin "all") (rAll K) := h ▸ cr_all hc
theorem k_any (K : PySem.W.Frag) {X : Cx} (hc : X.calm = true) (h : X.K = K := by rfl) : CallR X (.builtin "any") (rAny K) := h ▸ cr_any hc
theorem k_isi (K : PySem.W.Frag) {X : Cx} (h : X.K = K := by rfl) : CallR X (.builtin "isinstance") (rIsi K) := h ▸ call_isi
theorem ev_allN {bs : List Bool} (h : ELd K te σ H (· = bs.map PyData.bool)) : Ev (tCB (rAll K) (tCons te tNil)) σ H (.bl (bs.all id)) := fun H1 a Q q =>
  h H1 a _ fun p xs H2 ds n e hl ts r => by
    subst r
    obtain rfl := ts.bls
    exact ⟨p, bs, rfl, sq_of hl, q H2 e⟩
theorem ev_allL {bs : List Bool} {p : Addr} (h : Ev te σ H (.ref p)) (hl : SqL K H p (bs.map V.bl)) : Ev (tCB (rAll K) (tCons te tNil)) σ H (.bl (bs.all id)) := fun H1 a Q q =>
  h H1 a _ fun H2 e => ⟨p, bs, rfl, ex_l (a.trans e) hl, q H2 e⟩
theorem ev_anyL {bs : List Bool} {p : Addr} (h : Ev te σ H (.ref p)) (hl : SqL K H p (bs.map V.bl)) : Ev (tCB (rAny K) (tCons te tNil)) σ H (.bl (bs.any id)) := fun H1 a Q q =>
  h H1 a _ fun H2 e => ⟨p, bs, rfl, ex_l (a.trans e) hl, q H2 e⟩
theorem wk_str {z : Str} : Wk K (Its z) (Kt H) (z.cps.toList.map fun c => PyData.str ⟨#[c]⟩) where
  go := fun i H1 g l => by
    have l : i < z.cps.size := by simpa using l
    exact l
  stop := fun H1 g => by
    show z.cps.size ≤ _
    simp
  yld := fun i H1 x H2 d g e y => by
    obtain ⟨rfl, c, hc, rfl⟩ := y
    rw [List.getElem?_map] at e
    have : z.cps.toList[i]? = some c := by simpa using hc
    rw [this] at e
    cases e
    exact ⟨Ex.refl _, .str _⟩
theorem src_str {z : Str} (h : Ev te σ H (.str z)) : Src Kt K (iStr te) σ H (z.cps.toList.map fun c => PyData.str ⟨#[c]⟩) := fun H1 e1 R q =>
  h H1 e1 _ fun H2 e2 => ⟨z, rfl, q _ H2 e2 wk_str⟩
/-- a <= b <= c, of ints -/
theorem ev_chain {r r' : R2} {a b : Bool} (h1 : Ev ta σ H x) (h2 : Ev tb σ H y) (hr : ∀ H1, Ex H H1 → RV r x y H1 (.bl a)) (h3 : a = true → Ev tc σ H z) (hr' : a = true → ∀ H1, Ex H H1 → RV r' y z H1 (.bl b)) : Ev (tChain r r' ta tb tc) σ H (.bl (a && b)) := fun H1 e Q q =>
  h1 H1 e _ fun H2 e2 => h2 H2 (e.trans e2) _ fun H3 e3 => hr H3 ((e.trans e2).trans e3) H3 (Ex.refl _) _ fun H4 e4 => ⟨a, rfl, by
    cases a with
    | true =>
      rw [if_pos rfl]
      exact h3 rfl H4 (((e.trans e2).trans e3).trans e4) _ fun H5 e5 => hr' rfl H5 ((((e.trans e2).trans e3).trans e4).trans e5) H5 (Ex.refl _) _ fun H6 e6 => q H6 ((((e2).trans e3).trans e4).trans (e5.trans e6))
    | false =>
      rw [if_neg Bool.false_ne_true]
      exact q H4 ((e2.trans e3).trans e4)⟩
end
end K33
set_option autoImplicit false
set_option Elab.async false
set_option linter.all false
set_option maxRecDepth 100000
set_option maxHeartbeats 4000000
/-! The text by places, its names by slots. -/
namespace K33
open PySem PySem.Spec PyProof.Rows L2 Evl
def top (i : Nat) : Stmt := PySem.Challenge.pw_mustmays_k33_whole_parted_by_sayings.main.body.getD i (.Pass ⟨0, 0, 0, 0⟩)
abbrev st_NoPaper___init__ : Stmt := inClass (top 4) 0
theorem sc_NoPaper___init__ : FnScope ["self", "word", "at"] ["self", "word", "at"] (defScope st_NoPaper___init__) := ⟨rfl, rfl, rfl, by decide +kernel, rfl, by decide +kernel, by decide +kernel⟩
abbrev st_NoRules___init__ : Stmt := inClass (top 5) 0
theorem sc_NoRules___init__ : FnScope ["self", "word", "hand"] ["self", "word", "hand"] (defScope st_NoRules___init__) := ⟨rfl, rfl, rfl, by decide +kernel, rfl, by decide +kernel, by decide +kernel⟩
abbrev st_NoMore___init__ : Stmt := inClass (top 6) 0
theorem sc_NoMore___init__ : FnScope ["self", "many"] ["self", "many"] (defScope st_NoMore___init__) := ⟨rfl, rfl, rfl, by decide +kernel, rfl, by decide +kernel, by decide +kernel⟩
abbrev st_NoShowing___init__ : Stmt := inClass (top 7) 0
theorem sc_NoShowing___init__ : FnScope ["self", "row", "word"] ["self", "row", "word"] (defScope st_NoShowing___init__) := ⟨rfl, rfl, rfl, by decide +kernel, rfl, by decide +kernel, by decide +kernel⟩
abbrev st_NoText___init__ : Stmt := inClass (top 8) 0
theorem sc_NoText___init__ : FnScope ["self", "line", "word"] ["self", "line", "word"] (defScope st_NoText___init__) := ⟨rfl, rfl, rfl, by decide +kernel, rfl, by decide +kernel, by decide +kernel⟩
abbrev st_NoRow___init__ : Stmt := inClass (top 9) 0
theorem sc_NoRow___init__ : FnScope ["self", "row"] ["self", "row"] (defScope st_NoRow___init__) := ⟨rfl, rfl, rfl, by decide +kernel, rfl, by decide +kernel, by decide +kernel⟩
abbrev st_NoWorld___init__ : Stmt := inClass (top 10) 0
theorem sc_NoWorld___init__ : FnScope ["self", "world"] ["self", "world"] (defScope st_NoWorld___init__) := ⟨rfl, rfl, rfl, by decide +kernel, rfl, by decide +kernel, by decide +kernel⟩
abbrev st_NoHand___init__ : Stmt := inClass (top 11) 0
theorem sc_NoHand___init__ : FnScope ["self", "hand"] ["self", "hand"] (defScope st_NoHand___init__) := ⟨rfl, rfl, rfl, by decide +kernel, rfl, by decide +kernel, by decide +kernel⟩
abbrev st_NoName___init__ : Stmt := inClass (top 12) 0
theorem sc_NoName___init__ : FnScope ["self", "name"] ["self", "name"] (defScope st_NoName___init__) := ⟨rfl, rfl, rfl, by decide +kernel, rfl, by decide +kernel, by decide +kernel⟩
abbrev st_NoStep___init__ : Stmt := inClass (top 13) 0
theorem sc_NoStep___init__ : FnScope ["self", "number"] ["self", "number"] (defScope st_NoStep___init__) := ⟨rfl, rfl, rfl, by decide +kernel, rfl, by decide +kernel, by decide +kernel⟩
abbrev st_WebView___init__ : Stmt := inClass (top 15) 0
theorem sc_WebView___init__ : FnScope ["self", "web", "steps", "letters", "hand", "pairs", "word", "worlds"] ["self", "web"] (defScope st_WebView___init__) := ⟨rfl, rfl, rfl, by decide +kernel, rfl, by decide +kernel, by decide +kernel⟩
abbrev st_WebView_led_rows : Stmt := inClass (top 15) 1
theorem sc_WebView_led_rows : FnScope ["self", "pairs", "found", "begin", "end"] ["self", "pairs"] (defScope st_WebView_led_rows) := ⟨rfl, rfl, rfl, by decide +kernel, rfl, by decide +kernel, by decide +kernel⟩
abbrev st_WebView_led_from : Stmt := inClass (top 15) 2
theorem sc_WebView_led_from : FnScope ["self", "hand", "world", "rows"] ["self", "hand", "world"] (defScope st_WebView_led_from) := ⟨rfl, rfl, rfl, by decide +kernel, rfl, by decide +kernel, by decide +kernel⟩
abbrev st_WebView_has_letter : Stmt := inClass (top 15) 4
theorem sc_WebView_has_letter : FnScope ["self", "word", "world"] ["self", "word", "world"] (defScope st_WebView_has_letter) := ⟨rfl, rfl, rfl, by decide +kernel, rfl, by decide +kernel, by decide +kernel⟩
abbrev st_called_anew : Stmt := top 16
theorem sc_called_anew : FnScope ["web", "kept", "many", "steps", "letters", "calls", "left", "hand", "pairs", "own", "marks", "word", "worlds", "spots", "number", "world", "x", "y"] ["web", "kept"] (defScope st_called_anew) := ⟨rfl, rfl, rfl, by decide +kernel, rfl, by decide +kernel, by decide +kernel⟩
abbrev st_step_truths : Stmt := top 18
theorem sc_step_truths : FnScope ["web", "word", "hand", "inner", "view", "found", "world", "ends", "end"] ["web", "word", "hand", "inner"] (defScope st_step_truths) := ⟨rfl, rfl, rfl, by decide +kernel, rfl, by decide +kernel, by decide +kernel⟩
abbrev st_joined_truths : Stmt := top 19
theorem sc_joined_truths : FnScope ["web", "word", "some", "rows", "found", "world", "own", "one", "row"] ["web", "word", "some"] (defScope st_joined_truths) := ⟨rfl, rfl, rfl, by decide +kernel, rfl, by decide +kernel, by decide +kernel⟩
abbrev st_truths_in : Stmt := top 20
theorem sc_truths_in : FnScope ["web", "saying", "word", "rest", "view", "first", "second", "own", "later", "world"] ["web", "saying"] (defScope st_truths_in) := ⟨rfl, rfl, rfl, by decide +kernel, rfl, by decide +kernel, by decide +kernel⟩
abbrev st_need_world : Stmt := top 21
theorem sc_need_world : FnScope ["web", "world"] ["web", "world"] (defScope st_need_world) := ⟨rfl, rfl, rfl, by decide +kernel, rfl, by decide +kernel, by decide +kernel⟩
abbrev st_worlds_reached : Stmt := top 22
theorem sc_worlds_reached : FnScope ["web", "world", "view", "found", "left", "here", "hand", "end"] ["web", "world"] (defScope st_worlds_reached) := ⟨rfl, rfl, rfl, by decide +kernel, rfl, by decide +kernel, by decide +kernel⟩
abbrev st_holds_at : Stmt := top 23
theorem sc_holds_at : FnScope ["web", "world", "saying", "kept"] ["web", "world", "saying"] (defScope st_holds_at) := ⟨rfl, rfl, rfl, by decide +kernel, rfl, by decide +kernel, by decide +kernel⟩
abbrev st_numbered : Stmt := top 25
theorem sc_numbered : FnScope ["keys", "calls", "found", "key"] ["keys"] (defScope st_numbered) := ⟨rfl, rfl, rfl, by decide +kernel, rfl, by decide +kernel, by decide +kernel⟩
abbrev st_letters_at : Stmt := top 26
theorem sc_letters_at : FnScope ["web", "world", "word", "worlds"] ["web", "world"] (defScope st_letters_at) := ⟨rfl, rfl, rfl, by decide +kernel, rfl, by decide +kernel, by decide +kernel⟩
abbrev st_classes_led : Stmt := top 27
theorem sc_classes_led : FnScope ["view", "hands", "classes", "world", "hand", "end"] ["view", "hands", "classes", "world"] (defScope st_classes_led) := ⟨rfl, rfl, rfl, by decide +kernel, rfl, by decide +kernel, by decide +kernel⟩
abbrev st_next_round : Stmt := top 28
theorem sc_next_round : FnScope ["web", "classes", "view", "hands", "keys", "hand", "pairs", "world"] ["web", "classes"] (defScope st_next_round) := ⟨rfl, rfl, rfl, by decide +kernel, rfl, by decide +kernel, by decide +kernel⟩
abbrev st_class_rounds : Stmt := top 29
theorem sc_class_rounds : FnScope ["web", "found", "later", "world"] ["web"] (defScope st_class_rounds) := ⟨rfl, rfl, rfl, by decide +kernel, rfl, by decide +kernel, by decide +kernel⟩
abbrev st_moved_pairs : Stmt := top 31
theorem sc_moved_pairs : FnScope ["pairs", "by", "x", "y"] ["pairs", "by"] (defScope st_moved_pairs) := ⟨rfl, rfl, rfl, by decide +kernel, rfl, by decide +kernel, by decide +kernel⟩
abbrev st_joined_named : Stmt := top 32
theorem sc_joined_named : FnScope ["one", "other", "found", "word", "some"] ["one", "other"] (defScope st_joined_named) := ⟨rfl, rfl, rfl, by decide +kernel, rfl, by decide +kernel, by decide +kernel⟩
abbrev st_both_webs : Stmt := top 33
theorem sc_both_webs : FnScope ["web", "other", "by", "steps", "marks", "hand", "pairs", "word", "worlds", "world"] ["web", "other"] (defScope st_both_webs) := ⟨rfl, rfl, rfl, by decide +kernel, rfl, by decide +kernel, by decide +kernel⟩
abbrev st_need_both : Stmt := top 34
theorem sc_need_both : FnScope ["web", "world", "other", "second"] ["web", "world", "other", "second"] (defScope st_need_both) := ⟨rfl, rfl, rfl, by decide +kernel, rfl, by decide +kernel, by decide +kernel⟩
abbrev st_pair_paper : Stmt := top 35
theorem sc_pair_paper : FnScope ["web", "world", "other", "second", "classes", "by", "x", "y"] ["web", "world", "other", "second"] (defScope st_pair_paper) := ⟨rfl, rfl, rfl, by decide +kernel, rfl, by decide +kernel, by decide +kernel⟩
abbrev st_Parter___init__ : Stmt := inClass (top 36) 0
theorem sc_Parter___init__ : FnScope ["self", "web"] ["self", "web"] (defScope st_Parter___init__) := ⟨rfl, rfl, rfl, by decide +kernel, rfl, by decide +kernel, by decide +kernel⟩
abbrev st_Parter_round_of : Stmt := inClass (top 36) 1
theorem sc_Parter_round_of : FnScope ["self", "one", "other", "number", "classes"] ["self", "one", "other"] (defScope st_Parter_round_of) := ⟨rfl, rfl, rfl, by decide +kernel, rfl, by decide +kernel, by decide +kernel⟩
abbrev st_Parter_by_letter : Stmt := inClass (top 36) 2
theorem sc_Parter_by_letter : FnScope ["self", "one", "other", "mine", "theirs", "left", "first", "rest", "word"] ["self", "one", "other"] (defScope st_Parter_by_letter) := ⟨rfl, rfl, rfl, by decide +kernel, rfl, by decide +kernel, by decide +kernel⟩
abbrev st_Parter_unled : Stmt := inClass (top 36) 3
theorem sc_Parter_unled : FnScope ["self", "classes", "one", "other", "hand", "met", "end"] ["self", "classes", "one", "other"] (defScope st_Parter_unled) := ⟨rfl, rfl, rfl, by decide +kernel, rfl, by decide +kernel, by decide +kernel⟩
abbrev st_Parter_may_part : Stmt := inClass (top 36) 4
theorem sc_Parter_may_part : FnScope ["self", "hand", "end", "ends", "some", "other", "one"] ["self", "hand", "end", "ends"] (defScope st_Parter_may_part) := ⟨rfl, rfl, rfl, by decide +kernel, rfl, by decide +kernel, by decide +kernel⟩
abbrev st_Parter_parting : Stmt := inClass (top 36) 5
theorem sc_Parter_parting : FnScope ["self", "one", "other", "number", "classes", "led", "hand", "end"] ["self", "one", "other"] (defScope st_Parter_parting) := ⟨rfl, rfl, rfl, by decide +kernel, rfl, by decide +kernel, by decide +kernel⟩
abbrev st_parting_saying : Stmt := top 37
theorem sc_parting_saying : FnScope ["web", "world", "other", "second", "parter"] ["web", "world", "other", "second"] (defScope st_parting_saying) := ⟨rfl, rfl, rfl, by decide +kernel, rfl, by decide +kernel, by decide +kernel⟩
abbrev st_reached_web : Stmt := top 39
theorem sc_reached_web : FnScope ["web", "world", "kept"] ["web", "world"] (defScope st_reached_web) := ⟨rfl, rfl, rfl, by decide +kernel, rfl, by decide +kernel, by decide +kernel⟩
abbrev st_is_word : Stmt := top 44
theorem sc_is_word : FnScope ["thing", "sign"] ["thing"] (defScope st_is_word) := ⟨rfl, rfl, rfl, by decide +kernel, rfl, by decide +kernel, by decide +kernel⟩
abbrev st_are_sayings : Stmt := top 45
theorem sc_are_sayings : FnScope ["thing", "is_one", "one"] ["thing", "is_one"] (defScope st_are_sayings) := ⟨rfl, rfl, rfl, by decide +kernel, rfl, by decide +kernel, by decide +kernel⟩
abbrev st_is_made : Stmt := top 46
theorem sc_is_made : FnScope ["thing", "is_one", "word", "first", "rest"] ["thing", "is_one"] (defScope st_is_made) := ⟨rfl, rfl, rfl, by decide +kernel, rfl, by decide +kernel, by decide +kernel⟩
abbrev st_is_plain_saying : Stmt := top 47
theorem sc_is_plain_saying : FnScope ["thing"] ["thing"] (defScope st_is_plain_saying) := ⟨rfl, rfl, rfl, by decide +kernel, rfl, by decide +kernel, by decide +kernel⟩
abbrev st_inner_sayings : Stmt := top 49
theorem sc_inner_sayings : FnScope ["saying", "word", "first", "rest"] ["saying"] (defScope st_inner_sayings) := ⟨rfl, rfl, rfl, by decide +kernel, rfl, by decide +kernel, by decide +kernel⟩
abbrev st_made_anew : Stmt := top 50
theorem sc_made_anew : FnScope ["saying", "inner", "word", "first", "rest"] ["saying", "inner"] (defScope st_made_anew) := ⟨rfl, rfl, rfl, by decide +kernel, rfl, by decide +kernel, by decide +kernel⟩
abbrev st_in_few_words : Stmt := top 52
theorem sc_in_few_words : FnScope ["saying", "inner", "one"] ["saying"] (defScope st_in_few_words) := ⟨rfl, rfl, rfl, by decide +kernel, rfl, by decide +kernel, by decide +kernel⟩
abbrev st_pushed : Stmt := top 55
theorem sc_pushed : FnScope ["saying", "is_so", "word", "first", "rest", "both", "turned", "one"] ["saying", "is_so"] (defScope st_pushed) := ⟨rfl, rfl, rfl, by decide +kernel, rfl, by decide +kernel, by decide +kernel⟩
abbrev st_pushed_in : Stmt := top 56
theorem sc_pushed_in : FnScope ["saying"] ["saying"] (defScope st_pushed_in) := ⟨rfl, rfl, rfl, by decide +kernel, rfl, by decide +kernel, by decide +kernel⟩
abbrev st__law_feed : Stmt := top 58
theorem sc__law_feed : FnScope ["_law_script"] ["_law_script"] (defScope st__law_feed) := ⟨rfl, rfl, rfl, by decide +kernel, rfl, by decide +kernel, by decide +kernel⟩
abbrev st__law_draw : Stmt := top 59
theorem sc__law_draw : FnScope ["_law_feed_here", "_law_many", "_law_cell", "_law_figure", "_law_mixed"] ["_law_feed_here", "_law_many"] (defScope st__law_draw) := ⟨rfl, rfl, rfl, by decide +kernel, rfl, by decide +kernel, by decide +kernel⟩
abbrev st__law_net : Stmt := top 60
theorem sc__law_net : FnScope ["_law_many", "_law_by_hand", "_law_by_word", "_law_ways", "_law_marks_of", "_law_who", "_law_word"] ["_law_many", "_law_by_hand", "_law_by_word"] (defScope st__law_net) := ⟨rfl, rfl, rfl, by decide +kernel, rfl, by decide +kernel, by decide +kernel⟩
abbrev st__law_marks : Stmt := top 61
theorem sc__law_marks : FnScope ["_law_feed_here", "_law_many", "_law_found", "_law_word", "_law_x"] ["_law_feed_here", "_law_many"] (defScope st__law_marks) := ⟨rfl, rfl, rfl, by decide +kernel, rfl, by decide +kernel, by decide +kernel⟩
abbrev st__law_any_net : Stmt := top 62
theorem sc__law_any_net : FnScope ["_law_feed_here", "_law_most", "_law_many", "_law_by_hand", "_law_who", "_law_often", "_law_some", "_law_x", "_law_y"] ["_law_feed_here", "_law_most"] (defScope st__law_any_net) := ⟨rfl, rfl, rfl, by decide +kernel, rfl, by decide +kernel, by decide +kernel⟩
abbrev st__law_twin_net : Stmt := top 63
theorem sc__law_twin_net : FnScope ["_law_feed_here", "_law_net_here", "_law_copies", "_law_own", "_law_k", "_law_x", "_law_by_hand", "_law_by_word", "_law_who", "_law_pairs", "_law_y", "_law_first", "_law_some", "_law_word", "_law_places", "_law_z"] ["_law_feed_here", "_law_net_here"] (defScope st__law_twin_net) := ⟨rfl, rfl, rfl, by decide +kernel, rfl, by decide +kernel, by decide +kernel⟩
abbrev st__law_told : Stmt := top 64
theorem sc__law_told : FnScope ["_law_ask", "_law_found", "e", "_law_kinds_of", "_law_others"] ["_law_ask"] (defScope st__law_told) := ⟨rfl, rfl, rfl, by decide +kernel, rfl, by decide +kernel, by decide +kernel⟩
abbrev st__law_parts : Stmt := top 65
theorem sc__law_parts : FnScope ["_law_net_here", "_law_x", "_law_other", "_law_y", "_law_said", "_law_one", "_law_near", "_law_spot", "_law_far", "_law_place"] ["_law_net_here", "_law_x", "_law_other", "_law_y", "_law_said"] (defScope st__law_parts) := ⟨rfl, rfl, rfl, by decide +kernel, rfl, by decide +kernel, by decide +kernel⟩
abbrev st__law_right : Stmt := top 66
theorem sc__law_right : FnScope ["_law_net_here", "_law_other", "_law_x", "_law_y", "_law_said", "_law_told_here", "_law_late"] ["_law_net_here", "_law_other"] (defScope st__law_right) := ⟨rfl, rfl, rfl, by decide +kernel, rfl, by decide +kernel, by decide +kernel⟩
abbrev st__law_refused_right : Stmt := top 67
theorem sc__law_refused_right : FnScope ["_law_net_here", "_law_other", "_law_ask", "_law_x", "_law_y", "_law_due"] ["_law_net_here", "_law_other"] (defScope st__law_refused_right) := ⟨rfl, rfl, rfl, by decide +kernel, rfl, by decide +kernel, by decide +kernel⟩
abbrev st_law : Stmt := top 68
theorem sc_law : FnScope ["_law_script", "_law_feed_here", "_law_turn", "_law_net_here", "_law_twin", "_law_last", "_law_x", "_law_y"] ["_law_script"] (defScope st_law) := ⟨rfl, rfl, rfl, by decide +kernel, rfl, by decide +kernel, by decide +kernel⟩
/-- the built-in names are still the built-ins -/
structure Blt (mg : Str → Option Value) : Prop where
  b_tuple : mg "tuple" = none
  b_list : mg "list" = none
  b_dict : mg "dict" = none
  b_set : mg "set" = none
  b_sorted : mg "sorted" = none
  b_len : mg "len" = none
  b_range : mg "range" = none
  b_enumerate : mg "enumerate" = none
  b_zip : mg "zip" = none
  b_all : mg "all" = none
  b_any : mg "any" = none
  b_isinstance : mg "isinstance" = none
  b_repr : mg "repr" = none
  b_abs : mg "abs" = none
  b_int : mg "int" = none
  b_str : mg "str" = none
  b_LookupError : mg "LookupError" = none
end K33
set_option autoImplicit false
set_option Elab.async false
set_option linter.all false
set_option maxRecDepth 100000
set_option maxHeartbeats 4000000
/-! Own classes by their names; an attribute as a target; dict comprehensions over data. -/
namespace K33
open PySem PySem.Spec PyProof.Rows L2 Evl
/-- o.f = v, a target -/
def gFld (K : PySem.W.Frag) (to : TE) (f : Str) : TG := fun v σ H Q => to σ H fun x H1 => ∃ a C dx fs, x = .ref a ∧ H1 a = some (.ins C dx fs) ∧ Cls K C ∧ NoAttr K C f ∧ fs.length < 1000 ∧ Q σ (upd H1 a (.ins C dx (putF f v fs)))
theorem k_pgf (K : PySem.W.Frag) {X : Cx} {o : Expr} {f : Str} {to : TE} {pos : Pos} (ho : PE X o to) (hk : X.K = K := by rfl) : PG X (.Attribute o f pos) (gFld K to f) := by
  subst hk
  refine ⟨fun pins s σ H v u Q I r h => ?_⟩
  have ha : assign (.Attribute o f pos) X.env u = (do
      let ov ← holding [u] (eval o X.env)
      standAt pos.atName
      holding [u, ov] (setAttr ov f u)
      release [u, ov] []) := rfl
  rw [ha]
  refine wpAny_bind (wpAny_holding (thn (ho.run pins s σ H _ I h) fun ov s1 ⟨x, H1, I1, r1, a, C, dx, fs, ex, ea, c, n, l, q⟩ => ?_))
  subst ex
  obtain rfl : ov = Value.ref a := r1
  refine wpAny_bind (wpAny_standAt (wpAny_bind (wpAny_holding (setattr_ok I1 ea c n l r fun s3 I3 => ?_))))
  exact wpAny_release ⟨σ, _, I3, q⟩
/-- the class at C has the method m, it keeps the promise sp -/
def HasM (P : Program) (w : World) (K : PySem.W.Frag) (mg : Str → Option Value) (base : Heap) (CX : CXT) (k : Nat) (C : Addr) (m : Str) (ps : List Str) (sp : Sp) : Prop :=
  ∃ f fd, FnOk P w K mg base CX k f fd ps sp ∧ Meth K C m f ∧ Binds K fd ps []
def MethAt (K : PySem.W.Frag) (C : Addr) (m qual : Str) (st : Stmt) (ps : List Str) : Prop := ∃ f fd, Fun K m qual st f fd ∧ Meth K C m f ∧ Binds K fd ps []
theorem HasM.mono {P : Program} {w : World} {K : PySem.W.Frag} {mg : Str → Option Value} {base : Heap} {CX : CXT} {j k : Nat} {C : Addr} {x : Str} {ps : List Str} {sp : Sp} (h : HasM P w K mg base CX j C x ps sp) (l : j ≤ k) : HasM P w K mg base CX k C x ps sp := by
  obtain ⟨f, fd, F, a, b⟩ := h
  exact ⟨f, fd, F.mono l, a, b⟩
section
variable {X : Cx} {CX : CXT} {k : Nat} {ps : List Str} {sp : Sp} {E : XK} {m : Str} {C : Addr} {apos pos : Pos} {o e : Expr} {es : List Expr} {ta : TE} {t : TA}
theorem pe_hasM {pl : Sem Bool} (c : Cls X.K C) (h : HasM X.prog X.w X.K X.mg X.base CX k C m ps sp) (hr : Room k X.A) (he : PE X o ta) (hx : Passes CX X E) (ha : PA X (e :: es) t)
    (hst : starEach (e :: es) X.env = (false, eval e X.env) :: starEach es X.env := by rfl) (hpl : (backTo pos (starEach es X.env)).any (·.1) = false := by rfl)
    (ht : eval (.Call (.Attribute o m apos) (e :: es) [] pos) X.env = (do
      let ov ← eval o X.env
      standAt apos.atName
      let (f, first) ← holding [ov] (getMethod ov m pl)
      callWith pos f first (backTo pos (starEach (e :: es) X.env)) (backToKw pos (keywordEach [] X.env))) := by rfl) :
    PE X (.Call (.Attribute o m apos) (e :: es) [] pos) (tMeth C m sp [] E ta t) := by
  obtain ⟨f, fd, F, hm, hb⟩ := h
  exact pe_meth he c hm F hr hb .nil hx ha hst hpl ht
end
section
variable {P : Program} {w : World} {K : PySem.W.Frag} {mg : Str → Option Value} {base : Heap} {C : Addr}
theorem MethAt.ok {x qual : Str} {st : Stmt} {N ps : List Str} {k : Nat} {sp : Sp} (D : MethAt K C x qual st ps) (S : FnScope N ps (defScope st)) (len : ∀ vs H Q E, sp vs H Q E → vs.length = ps.length)
    (hbody : ∀ (f : Addr) (cdv : Value) (A : Around) (outer : List Env) (s : Shared) (H : Hp) (vs : List V) (Q : VK) (E : XK), Room k (A.deeper (envOfC qual (defScope st) s.heap.objs.size f cdv)) → sp vs H Q E →
      ∃ t, PSs (cxOf CX0 P w K mg base N qual (defScope st) f cdv A outer s H E).nox (defBody st) t ∧ t { nx := fun _ H' => Q .non H', rt := Q } (start N vs) H) : HasM P w K mg base CX0 (k + 1) C x ps sp := by
  obtain ⟨f, fd, F, hm, hb⟩ := D
  exact ⟨f, fd, F.ok S len (fun cdv A outer s H vs Q E hr h => hbody f cdv A outer s H vs Q E hr h), hm, hb⟩
theorem MethAt.vac {x qual : Str} {st : Stmt} {ps : List Str} {sp : Sp} {CX : CXT} (D : MethAt K C x qual st ps) (k : Nat) (h : ∀ vs H Q E, ¬ sp vs H Q E) : HasM P w K mg base CX k C x ps sp := by
  obtain ⟨f, fd, F, hm, hb⟩ := D
  exact ⟨f, fd, ⟨fun vs H Q E q => (h _ _ _ _ q).elim, fun A outer s H args us vs Q E _ _ _ _ q => (h _ _ _ _ q).elim⟩, hm, hb⟩
end
/-- C(e, ..): the class of the module's name x -/
def HasC (P : Program) (w : World) (K : PySem.W.Frag) (mg : Str → Option Value) (base : Heap) (CX : CXT) (k : Nat) (x : Str) (C : Addr) (ps : List Str) (sp : Sp) : Prop :=
  ∃ f fd, FnOk P w K mg base CX k f fd ps sp ∧ Mk K C f ∧ mg x = some (.ref C) ∧ Binds K fd ps []
theorem pe_hasC {X : Cx} {CX : CXT} {k : Nat} {ps : List Str} {sp : Sp} {E : XK} {x : Str} {C : Addr} {p pos : Pos} {e : Expr} {es : List Expr} {t : TA} (h : HasC X.prog X.w X.K X.mg X.base CX k x C ps sp) (hr : Room (k + 1) X.A) (hg : Gl X x) (hx : Passes CX X E)
    (ha : PA X (e :: es) t) (hdb : (x == ("__debug__" : Str)) = false := by decide) (he : starEach (e :: es) X.env = (false, eval e X.env) :: starEach es X.env := by rfl) (hpl : (backTo pos (starEach es X.env)).any (·.1) = false := by rfl) :
    PE X (.Call (.Name x p) (e :: es) [] pos) (tMake C sp [] E t) := by
  obtain ⟨f, fd, F, M, hm, hb⟩ := h
  exact pe_make M F hr hg hm hb .nil hx ha hdb he hpl
def InitAt (K : PySem.W.Frag) (mg : Str → Option Value) (x : Str) (C : Addr) (qual : Str) (st : Stmt) (ps : List Str) : Prop := ∃ f fd, Fun K "__init__" qual st f fd ∧ Mk K C f ∧ mg x = some (.ref C) ∧ Binds K fd ps []
theorem InitAt.ok {P : Program} {w : World} {K : PySem.W.Frag} {mg : Str → Option Value} {base : Heap} {C : Addr} {x qual : Str} {st : Stmt} {N ps : List Str} {k : Nat} {sp : Sp} (D : InitAt K mg x C qual st ps) (S : FnScope N ps (defScope st)) (len : ∀ vs H Q E, sp vs H Q E → vs.length = ps.length)
    (hbody : ∀ (f : Addr) (cdv : Value) (A : Around) (outer : List Env) (s : Shared) (H : Hp) (vs : List V) (Q : VK) (E : XK), Room k (A.deeper (envOfC qual (defScope st) s.heap.objs.size f cdv)) → sp vs H Q E →
      ∃ t, PSs (cxOf CX0 P w K mg base N qual (defScope st) f cdv A outer s H E).nox (defBody st) t ∧ t { nx := fun _ H' => Q .non H', rt := Q } (start N vs) H) : HasC P w K mg base CX0 (k + 1) x C ps sp := by
  obtain ⟨f, fd, F, hm, mgx, hb⟩ := D
  exact ⟨f, fd, F.ok S len (fun cdv A outer s H vs Q E hr h => hbody f cdv A outer s H vs Q E hr h), hm, mgx, hb⟩
section
variable {K : PySem.W.Frag} {σ : L2.St} {H H' : Hp} {ta tb te tx tk tv : TE} {tl tr : TA} {t u : TT} {x y z v : V} {d e : PyData} {wi : TI} {g : TG} {ds : List PyData}
/-- {k: v for tg in .. if ..} -/
theorem dc_wk {S : Hp → Hp → Prop} {vs : List Nat} {Q : VK} (h : Src S K wi σ H ds) (Pv : Hp → Addr → Nat → Hp → Prop)
    (h0 : ∀ H1 D, Ex H H1 → H1 D = none → Pv H1 D 0 (upd H1 D (.dK []))) (hG : ∀ H1 D i H', H1 D = none → Pv H1 D i H' → S H1 H')
    (hs : ∀ H1 D i d x H' H2, Ex H H1 → H1 D = none → ds[i]? = some d → Pv H1 D i H' → Ex H' H2 → TD K H2 x d → g x (wipe σ vs) H2 fun σ2 H3 => wipe σ2 vs = wipe σ vs ∧ t σ2 H3 fun b H4 =>
      if b = true then tk σ2 H4 fun y H5 => tv σ2 H5 fun z H6 => ∃ kvs k, y = kV k ∧ H6 D = some (.dK kvs) ∧ kvs.length < sizeLine ∧ Pv H1 D (i + 1) (upd H6 D (.dK (putK kvs k z))) else Pv H1 D (i + 1) H4)
    (hd : ∀ H1 D H', Ex H H1 → H1 D = none → Pv H1 D ds.length H' → Q (.ref D) H') : tDc wi g t tk tv vs σ H Q :=
  h H (Ex.refl H) _ fun J H1 e w D hD => by
    refine ⟨fun i m H' => m = ds.length - i ∧ i ≤ ds.length ∧ Pv H1 D i H', ⟨ds.length, by simp, Nat.zero_le _, h0 H1 D e hD⟩, ?_⟩
    rintro i m H' ⟨rfl, hi, p⟩
    have q := hG H1 D i H' hD p
    by_cases hlt : i < ds.length
    · refine .inr ⟨w.go i H' q hlt, Pv H1 D (i + 1), fun H'' p' => ⟨ds.length - (i + 1), by omega, rfl, hlt, p'⟩, fun x H2 y => ?_⟩
      obtain ⟨e2, tx⟩ := w.yld i H' x H2 ds[i] q (by simp [hlt]) y
      exact hs H1 D i ds[i] x H' H2 e hD (by simp [hlt]) p e2 tx
    · have e' : i = ds.length := by omega
      subst e'
      exact .inl ⟨w.stop H' q, hd H1 D H' e hD p⟩
/-- name = {..}, the name a local -/
theorem ps_setDc {X : Cx} {i : Nat} {y : Str} {py : Pos} {kx vx tg iter : Expr} {ifs : List Expr} {scope : Scope} {own : List (Str × Nat)} {pos spos : Pos} {wi : TI} {g : TG} {tt : TT} {tk tv : TE} (hc : X.calm = true) (hN : X.N.Nodup) (hy : X.N[i]? = some y) (hyl : X.env.scope.names.lookup y = some .local)
    (hsw : swapsWith (.DictComp kx vx [⟨tg, iter, ifs, 0⟩] scope pos) (some (.Name y py)) spos.line X.env = pure true) (hi : PI X tg iter wi) (ok : BlkOk X.N X.env.scope scope own)
    (hg : ∀ (s : Shared) (H : Hp) (C : Addr) (cl : List (Str × Addr)) (fp : List Addr), PG (X.blk s H scope (compEnvC scope cl C X.env) fp) tg g) (ht : ∀ (s : Shared) (H : Hp) (C : Addr) (cl : List (Str × Addr)) (fp : List Addr), PTs (X.blk s H scope (compEnvC scope cl C X.env) fp) ifs tt)
    (hk : ∀ (s : Shared) (H : Hp) (C : Addr) (cl : List (Str × Addr)) (fp : List Addr), PE (X.blk s H scope (compEnvC scope cl C X.env) fp) kx tk)
    (he : ∀ (s : Shared) (H : Hp) (C : Addr) (cl : List (Str × Addr)) (fp : List Addr), PE (X.blk s H scope (compEnvC scope cl C X.env) fp) vx tv) (hs : ∀ x, foldedSetIterable iter X.env x = pure x := by intro _; rfl) :
    PS X (.Assign [.Name y py] (.DictComp kx vx [⟨tg, iter, ifs, 0⟩] scope pos) spos) (tAsg (tDc wi g tt tk tv (own.map (·.2))) (gName i)) := by
  constructor
  intro pins s σ H D I h
  -- what the block's end does with the new dict: it is stored under the name, the block's variables go
  have store (L C : Addr) (s₁ : Shared) (m : Str → Option Value) (H₁ : Hp) (J : Inv X pins σ H₁ s₁) (q : gName i (.ref L) σ H₁ D.nx) (ns : s₁.heap.Ns C m) (own : FpOk X pins H₁ C) :
      compPost (model X.prog X.w) X.A X.xe (some (assign (.Name y py) X.env)) (fun _ s₂ => SP X pins D .next s₂) (.ref L) C (.ok .next) s₁ := by
    obtain ⟨g0, g1, _, g3, g4, g5⟩ := own
    apply wpAny_assign_Name
    refine store_ok2 (v := V.ref L) J hN hy (.inl hyl) rfl ?_ (.inr hyl)
    rintro s₂ J₂ ⟨a, same, at_⟩
    have apart : C ≠ a := at_.elim (fun z => z ▸ g1) fun z e => g4 y a z e.symm
    exact ⟨m, ns.sameBut same apart, fun h₃ same₃ => ⟨_, H₁, J₂.turned (t' := s₂.toks) (fun b o off e => (same₃.2 b off).trans e) g0 g1 g3 g4 g5, q⟩⟩
  rw [exec_Assign_Name_used y py _ spos hsw]
  apply wpAny_bind
  apply wpAny_standAt
  apply wpAny_bind
  refine wpAny_bind (wpAny_mono (dc_core (X := X) (use := some (assign (.Name y py) X.env)) (Qf := fun _ s₂ => SP X pins D .next s₂) hc hN I hi ok hg ht hk he hs h store) (fun _ s₂ z => ?_) fun _ _ z => z)
  exact wpAny_pure (wpAny_pure z)
theorem sw_trueD {kx vx : Expr} {gs : List Comprehension} {scope : Scope} {pos py : Pos} {y : Str} {l : Nat} {env : Env} (hk : env.scope.kind = .function) (hy : env.scope.names.lookup y = some .local) (hl : (py.line == pos.line) = true)
    (ha : (scope.names.any fun (n, k) => n == y && (k == .local || k == .cell)) = false) : swapsWith (.DictComp kx vx gs scope pos) (some (.Name y py)) l env = pure true := by
  have local_ : env.kindOf y = some .local := hy
  have block : env.blockKind = .function := by
    delta Env.blockKind
    rw [hk]
    rfl
  delta swapsWith
  dsimp only [Expr.pos]
  rw [block, local_, ha, hl]
  rfl
/-- a new list of ints at a place -/
abbrev IntsAt (H : Hp) (l : Addr) (ns : List Nat) : Prop := H l = some (.lst ((nats ns).map V.int))
/-- a dict of rows: for each world from which steps lead those to which they do -/
def Rows1 (H : Hp) (r : Addr) (g : Nat → List Nat) : Prop := ∃ kvs : List (Key × V), Rd H r (.dK kvs) ∧ ∀ x : Nat, (valV kvs (Sum.inl (x : Int)) = none ∧ g x = []) ∨ ∃ l, valV kvs (Sum.inl (x : Int)) = some (.ref l) ∧ IntsAt H l (g x)
/-- a view of the web -/
structure ViewAt (K : PySem.W.Frag) (C : Addr) (H : Hp) (p : Addr) (W : Web Str) : Prop where
  ob : ∃ dx d1 d2, H p = some (.ins C dx [("many", .int (W.many : Int)), ("led_by", .ref d1), ("true_at", .ref d2)]) ∧
    (∃ kvs : List (Key × V), Rd H d1 (.dK kvs) ∧ kvs.map (·.1) = (hands W).map Sum.inr ∧ ∀ kv ∈ kvs, ∀ h, kv.1 = Sum.inr h → ∃ r, kv.2 = .ref r ∧ Rows1 H r (ends W h)) ∧
    (∃ kvs : List (Key × V), Rd H d2 (.dK kvs) ∧ kvs.map (·.1) = (W.marks.map (·.1)).map Sum.inr ∧ ∀ kv ∈ kvs, ∀ z, kv.1 = Sum.inr z → TD K H kv.2 (dNats (getL W.marks z)))
theorem Rows1.ex {r : Addr} {g : Nat → List Nat} (e : Ex H H') (h : Rows1 H r g) : Rows1 H' r g := by
  obtain ⟨kvs, hr, hx⟩ := h
  exact ⟨kvs, ex_rd e hr, fun x => (hx x).imp id fun ⟨l, a, b⟩ => ⟨l, a, e _ _ b⟩⟩
theorem ViewAt.ex {C p : Addr} {W : Web Str} (e : Ex H H') (h : ViewAt K C H p W) : ViewAt K C H' p W := by
  obtain ⟨dx, d1, d2, ho, ⟨k1, r1, m1, f1⟩, k2, r2, m2, f2⟩ := h.ob
  exact ⟨dx, d1, d2, e _ _ ho, ⟨k1, ex_rd e r1, m1, fun kv hk h eh => let ⟨r, a, b⟩ := f1 kv hk h eh; ⟨r, a, b.ex e⟩⟩, k2, ex_rd e r2, m2, fun kv hk z ez => (f2 kv hk z ez).ex e⟩
theorem valV_mem {kvs : List (Key × V)} {k : Key} {v : V} (h : valV kvs k = some v) : (k, v) ∈ kvs := by
  unfold valV at h
  cases q : kvs.find? fun kv => decide (kv.1 = k) with
  | none => rw [q] at h; cases h
  | some p =>
    rw [q] at h
    obtain ⟨a, b⟩ := p
    cases h
    have := List.find?_some q
    have e : a = k := by simpa using this
    subst e
    exact List.mem_of_find?_eq_some q
theorem valV_none {kvs : List (Key × V)} {k : Key} (h : valV kvs k = none) : k ∉ kvs.map (·.1) := by
  unfold valV at h
  intro hm
  obtain ⟨p, hp, rfl⟩ := List.mem_map.mp hm
  cases q : kvs.find? fun kv => decide (kv.1 = p.1) with
  | none =>
    have := List.find?_eq_none.mp q p hp
    simp at this
  | some r => rw [q] at h; cases h
end
end K33
set_option autoImplicit false
set_option Elab.async false
set_option linter.all false
set_option maxRecDepth 100000
set_option maxHeartbeats 4000000
/-! Dict comprehensions over data, in general; the new part of a heap. -/
namespace K33
open PySem PySem.Spec PyProof.Rows L2 Evl
/-- what is new in H' over H -/
def nw (H H' : Hp) : Hp := fun b => match H b with | none => H' b | some _ => none
theorem nw_ex {H H' : Hp} : Ex (nw H H') H' := fun b o h => by
  unfold nw at h
  split at h
  · exact h
  · cases h
theorem nw_mono {H H' H'' : Hp} (e : Ex H' H'') : Ex (nw H H') (nw H H'') := fun b o h => by
  unfold nw at h ⊢
  split at h
  · rename_i q
    exact e _ _ h
  · cases h
theorem nw_upd {H H' : Hp} {D : Addr} {o o' : HO} (h : H D = some o) : nw H (upd H' D o') = nw H H' := by
  funext b
  unfold nw
  by_cases e : b = D
  · subst e
    rw [h]
  · rw [upd_ne e]
theorem nw_dom {H0 H2 H' : Hp} (h : ∀ b o, H0 b = some o → ∃ o', H2 b = some o') : Ex (nw H2 H') (nw H0 H') := fun b o e => by
  unfold nw at e ⊢
  cases q : H0 b with
  | none =>
    split at e
    · exact e
    · cases e
  | some p =>
    obtain ⟨p', hp⟩ := h b p q
    rw [hp] at e
    cases e
section
variable {K : PySem.W.Frag} {σ : L2.St} {H H' : Hp} {ta tb te tx tk tv : TE} {t : TT} {wi : TI} {g : TG} {α : Type} {l : List α} {enc : α → PyData}
theorem dc_gen {vs : List Nat} {Q : VK} (key : α → Key) (R : Hp → Addr → α → V → Hp → Prop) (nd : (l.map key).Nodup) (hz : l.length ≤ 100000)
    (m1 : ∀ H1 D a v H' H'', Ex H' H'' → R H1 D a v H' → R H1 D a v H'') (m2 : ∀ H1 D a v H' k k', H1 D = none → H' D = some (.dK k) → R H1 D a v H' → R H1 D a v (upd H' D (.dK k')))
    (h : Src Ex K wi σ H (l.map enc))
    (hs : ∀ H1 D, Ex H H1 → H1 D = none → ∀ a ∈ l, ∀ x H2 (Q2 : L2.St → Hp → Prop), Ex H1 H2 → (∃ k, H2 D = some (.dK k)) → TD K H2 x (enc a) → (∀ σ2, wipe σ2 vs = wipe σ vs → Ev tk σ2 H2 (kV (key a)) →
      (∀ H3, Ex H2 H3 → ∀ Q3 : VK, (∀ v H4, Ex H3 H4 → R H1 D a v H4 → Q3 v H4) → tv σ2 H3 Q3) → Q2 σ2 H2) → g x (wipe σ vs) H2 Q2)
    (hd : ∀ H1 D H' kvs, Ex H H1 → H1 D = none → Ex H1 H' → H' D = some (.dK kvs) → kvs.map (·.1) = l.map key → (∀ (i : Nat) a kv, l[i]? = some a → kvs[i]? = some kv → R H1 D a kv.2 H') → Q (.ref D) H') : tDc wi g tYes tk tv vs σ H Q := by
  refine dc_wk (K := K) (S := Ex) h (fun H1 D i H' => H1 D = none ∧ Ex H1 H' ∧ ∃ kvs : List (Key × V), H' D = some (.dK kvs) ∧ kvs.length = i ∧ kvs.map (·.1) = (l.take i).map key ∧ ∀ (j : Nat) a kv, l[j]? = some a → kvs[j]? = some kv → R H1 D a kv.2 H') ?_ (fun H1 D i H' _ p => p.2.1) ?_ ?_
  · intro H1 D e1 n1
    exact ⟨n1, Ex.new n1, [], upd_same, rfl, rfl, fun j a kv _ hk => by simp at hk⟩
  · rintro H1 D i d x H' H2 e1 n1 hd ⟨_, e2, kvs, hk, hl, hm, hf⟩ e3 tx
    rw [List.getElem?_map] at hd
    cases hli : l[i]? with
    | none => rw [hli] at hd; cases hd
    | some a =>
      rw [hli] at hd
      cases hd
      have il : i < l.length := (List.getElem?_eq_some_iff.mp hli).1
      refine hs H1 D e1 n1 a (List.mem_of_getElem? hli) x H2 _ (e2.trans e3) ⟨kvs, e3 _ _ hk⟩ tx fun σ2 w2 hkey hval => ⟨w2, ?_⟩
      show tk σ2 H2 _
      refine hkey H2 (Ex.refl _) _ fun H3 e4 => hval H3 e4 _ fun v H4 e5 r => ?_
      have e := (e3.trans e4).trans e5
      have hD := e _ _ hk
      have tk : l.take (i + 1) = l.take i ++ [a] := by rw [List.take_add_one, hli]; rfl
      have nv : valV kvs (key a) = none := by
        cases q : valV kvs (key a) with
        | none => rfl
        | some y =>
          have m : key a ∈ kvs.map (·.1) := List.mem_map.mpr ⟨_, valV_mem q, rfl⟩
          rw [hm] at m
          have : (l.map key).take (i + 1) = (l.map key).take i ++ [key a] := by rw [← List.map_take, ← List.map_take, tk, List.map_append]; rfl
          have nd2 : ((l.map key).take (i + 1)).Nodup := nd.sublist (List.take_sublist _ _)
          rw [this, ← List.map_take, List.nodup_append] at nd2
          exact (nd2.2.2 _ m _ (by simp) rfl).elim
      refine ⟨kvs, key a, rfl, hD, sz_lt (by omega), n1, Ex.mut (e2.trans e) n1, kvs ++ [(key a, v)], ?_, by simp [hl], ?_, ?_⟩
      · rw [upd_same, putK_new v nv]
      · rw [tk, List.map_append, List.map_append, hm]
        rfl
      · intro j b kv hb hkv
        refine m2 H1 D b kv.2 H4 kvs _ n1 hD ?_
        by_cases hj : j < kvs.length
        · rw [List.getElem?_append_left hj] at hkv
          exact m1 H1 D b kv.2 _ _ e (hf j b kv hb hkv)
        · rw [List.getElem?_append_right (by omega)] at hkv
          have : j = i := by
            have := (List.getElem?_eq_some_iff.mp hkv).1
            simp at this
            omega
          subst this
          rw [hli] at hb
          cases hb
          rw [hl, Nat.sub_self] at hkv
          cases hkv
          exact r
  · rintro H1 D H' e1 n1 ⟨_, e2, kvs, hk, hl, hm, hf⟩
    rw [List.length_map, List.take_length] at hm
    exact hd H1 D H' kvs e1 n1 e2 hk hm hf
/-- o.f = v -/
theorem q_fld {f : Str} {tz : TS} {D : Ends} (h : tv σ H fun y H1 => ta σ H1 fun x H2 => ∃ a C dx fs, x = .ref a ∧ H2 a = some (.ins C dx fs) ∧ Cls K C ∧ NoAttr K C f ∧ fs.length < 1000 ∧ tz D σ (upd H2 a (.ins C dx (putF f y fs)))) : tSeq (sFld K ta tv f) tz D σ H := h
theorem s_fld {f : Str} {D : Ends} (h : tv σ H fun y H1 => ta σ H1 fun x H2 => ∃ a C dx fs, x = .ref a ∧ H2 a = some (.ins C dx fs) ∧ Cls K C ∧ NoAttr K C f ∧ fs.length < 1000 ∧ D.nx σ (upd H2 a (.ins C dx (putF f y fs)))) : sFld K ta tv f D σ H := h
/-- reading such a dict -/
theorem dk_get {kvs : List (Key × V)} {key : α → Key} (hm : kvs.map (·.1) = l.map key) (nd : (l.map key).Nodup) {i : Nat} {a : α} (hi : l[i]? = some a) : ∃ v, valV kvs (key a) = some v ∧ kvs[i]? = some (key a, v) := by
  have hk : (kvs.map (·.1))[i]? = some (key a) := by rw [hm, List.getElem?_map, hi]; rfl
  rw [List.getElem?_map] at hk
  cases q : kvs[i]? with
  | none => rw [q] at hk; cases hk
  | some kv =>
    rw [q] at hk
    have e := Option.some.inj hk
    obtain ⟨k, v⟩ := kv
    simp only at e
    subst e
    refine ⟨v, ?_, rfl⟩
    cases hv : valV kvs (key a) with
    | none => exact (valV_none hv (List.mem_map.mpr ⟨_, List.mem_of_getElem? q, rfl⟩)).elim
    | some u =>
      obtain ⟨j, hj⟩ := List.getElem?_of_mem (valV_mem hv)
      have nk : (kvs.map (·.1)).Nodup := by rw [hm]; exact nd
      have hij : i = j := by
        have h1 : (kvs.map (·.1))[i]? = some (key a) := by rw [List.getElem?_map, q]; rfl
        have h2 : (kvs.map (·.1))[j]? = some (key a) := by rw [List.getElem?_map, hj]; rfl
        have l1 := (List.getElem?_eq_some_iff.mp h1).1
        exact (List.getElem?_inj l1 nk).mp (h1.trans h2.symm)
      subst hij
      rw [q] at hj
      cases hj
      rfl
theorem dk_mem {kvs : List (Key × V)} {key : α → Key} (hm : kvs.map (·.1) = l.map key) {kv : Key × V} (h : kv ∈ kvs) : ∃ (i : Nat) (a : α), l[i]? = some a ∧ kvs[i]? = some kv ∧ kv.1 = key a := by
  obtain ⟨i, hi⟩ := List.getElem?_of_mem h
  have h1 : (kvs.map (·.1))[i]? = some kv.1 := by rw [List.getElem?_map, hi]; rfl
  rw [hm, List.getElem?_map] at h1
  cases q : l[i]? with
  | none => rw [q] at h1; cases h1
  | some a =>
    rw [q] at h1
    exact ⟨i, a, q, hi, (Option.some.inj h1).symm⟩
/-- values that are data -/
theorem dc_data {vs : List Nat} {Q : VK} (key : α → Key) (e : α → PyData) (nd : (l.map key).Nodup) (hz : l.length ≤ 100000) (h : Src Ex K wi σ H (l.map enc))
    (hs : ∀ a ∈ l, ∀ x H2 (Q2 : L2.St → Hp → Prop), Ex H H2 → TD K H2 x (enc a) → (∀ σ2, wipe σ2 vs = wipe σ vs → Ev tk σ2 H2 (kV (key a)) → ED K tv σ2 H2 (· = e a) → Q2 σ2 H2) → g x (wipe σ vs) H2 Q2)
    (hd : ∀ D H' kvs, H D = none → Ex H H' → H' D = some (.dK kvs) → kvs.map (·.1) = l.map key → (∀ (i : Nat) a kv, l[i]? = some a → kvs[i]? = some kv → TD K H' kv.2 (e a)) → Q (.ref D) H') : tDc wi g tYes tk tv vs σ H Q := by
  refine dc_gen (K := K) key (fun _ _ a v H' => TD K H' v (e a)) nd hz (fun H1 D a v H' H'' e t => t.ex e) (fun H1 D a v H' k k' n hD t => t.mono (Kt.upd hD rfl)) h ?_ ?_
  · intro H1 D e1 n1 a ha x H2 Q2 e2 _ tx k
    exact hs a ha x H2 Q2 (e1.trans e2) tx fun σ2 w2 hk hv => k σ2 w2 hk fun H3 e3 Q3 q3 => hv H3 e3 Q3 fun v H4 d e4 t4 p4 => by subst p4; exact q3 v H4 e4 t4
  · intro H1 D H' kvs e1 n1 e2 hD hm hf
    exact hd D H' kvs (fresh_back e1 n1) (e1.trans e2) hD hm hf
end
end K33
set_option autoImplicit false
set_option Elab.async false
set_option linter.all false
set_option maxRecDepth 100000
set_option maxHeartbeats 4000000
namespace K33
open PySem PySem.Spec PyProof.Rows L2 Evl
/-! ### WebView -/
def rowsOf' (ps : List (Nat × Nat)) (x : Nat) : List Nat := (ps.filter fun p => decide (p.1 = x)).map (·.2)
theorem rowsOf_snoc (ps : List (Nat × Nat)) (a b x : Nat) : rowsOf' (ps ++ [(a, b)]) x = rowsOf' ps x ++ if a = x then [b] else [] := by
  unfold rowsOf'
  rw [List.filter_append, List.map_append]
  congr 1
  by_cases h : a = x
  · simp [h]
  · simp [h]
theorem nats_append (a b : List Nat) : nats (a ++ b) = nats a ++ nats b := by simp [nats]
/-- led_rows half-way -/
structure LedInv (H0 H1 : Hp) (d : Addr) (ps : List (Nat × Nat)) (n : Nat) (H' : Hp) : Prop where
  ex : Ex H0 H'
  kt : Kt H1 H'
  fr : H0 d = none
  kv : ∃ kvs : List (Key × V), H' d = some (.dK kvs) ∧ kvs.length ≤ n ∧ (∀ x : Nat, (valV kvs (Sum.inl (x : Int)) = none ∧ rowsOf' ps x = []) ∨ ∃ l, valV kvs (Sum.inl (x : Int)) = some (.ref l) ∧ IntsAt H' l (rowsOf' ps x) ∧ H0 l = none ∧ l ≠ d) ∧
    (∀ (x y : Nat) l, valV kvs (Sum.inl (x : Int)) = some (.ref l) → valV kvs (Sum.inl (y : Int)) = some (.ref l) → x = y)
section
variable {P : Program} {w : World} {K : PySem.W.Frag} {mg : Str → Option Value} {base : Heap} {C : Addr}
abbrev sp_led_rows (K : PySem.W.Frag) : Sp := fun vs H Q _ => ∃ (v u : V) (ps : List (Nat × Nat)), vs = [v, u] ∧ TD K H u (dPairs ps) ∧ ps.length ≤ 10000 ∧ ∀ r H', Ex H H' → H r = none → Rows1 (nw H H') r (rowsOf' ps) → Q (.ref r) H'
theorem has_led_rows (D : MethAt K C "led_rows" "WebView.led_rows" st_WebView_led_rows ["self", "pairs"]) (B : Blt mg) : HasM P w K mg base CX0 1 C "led_rows" ["self", "pairs"] (sp_led_rows K) := by
  refine D.ok sc_WebView_led_rows (fun vs H Q E h => ?_) (fun f cdv A outer s H vs Q E hr h => ?_)
  · obtain ⟨v, u, ps, rfl, _⟩ := h
    rfl
  · obtain ⟨v, u, ps, rfl, tu, hz, k⟩ := h
    have nd := sc_WebView_led_rows.nd
    refine ⟨_, pss_cons (ps_set (i := 2) nd rfl (.inl rfl) pe_dnewK)
      (pss_cons (ps_for PassesOwn.never rfl (k_pit K (pv 1)) (k_tup K 2 rfl (pgs_cons (pg_name (i := 3) nd rfl (.inl rfl)) (pgs_cons (pg_name (i := 4) nd rfl (.inl rfl)) pgs_nil)))
        (pss_one (ps_expr (pe_bm PySem.F.plainAttrs_list PySem.F.slot_list_append PySem.F.type_list_append mt_append (pe_dsetd (pv 2) (pv 3) (pe_lst pa_nil) ⟨rfl, rfl, rfl, rfl⟩) (pa_cons (pv 4) pa_nil)))))
      (pss_one (ps_ret (pv 2)))), ?_⟩
    intro d hd
    refine q_for (K := K) (src_tup (ed_var (v := u) rfl (tu.ex (Ex.new hd)))) (fun H1 i σ H' => (∃ b e, σ = [some v, some u, some (.ref d), b, e]) ∧ LedInv H H1 d (ps.take i) i H') (fun H1 e1 => ⟨⟨none, none, rfl⟩, ?_⟩) (fun H1 i σ H' p => p.2.kt) ?_ ?_
    · refine ⟨(Ex.new hd).trans e1, Kt.refl _, hd, [], e1 _ _ upd_same, Nat.le_refl _, fun x => .inl ⟨rfl, rfl⟩, fun x y l h => nomatch h⟩
    · rintro H1 i pd x σ' H' H2 e1 hp ⟨⟨b0, f0, rfl⟩, L⟩ e2 tx
      rw [List.getElem?_map] at hp
      cases hpi : ps[i]? with
      | none => rw [hpi] at hp; cases hp
      | some p =>
        obtain ⟨a, b⟩ := p
        rw [hpi] at hp
        cases hp
        have tk : ps.take (i + 1) = ps.take i ++ [(a, b)] := by rw [List.take_add_one, hpi]; rfl
        have il : i < ps.length := (List.getElem?_eq_some_iff.mp hpi).1
        refine tg_pair tx fun va vb ta tb => ?_
        obtain rfl := ta.intI
        obtain rfl := tb.intI
        obtain ⟨ex, kt, fr, kvs, hk, hl, hx, hinj⟩ := L
        have hk2 : H2 d = some (.dK kvs) := e2 _ _ hk
        refine ⟨_, rfl, d, rfl, .inl ⟨kvs, .inl hk2⟩, _, rfl, sz_of (by simp), fun l nl => ?_⟩
        have dl : d ≠ l := ne_of_none hk2 nl
        have h0l : H l = none := fresh_back (ex.trans e2) nl
        refine ⟨kvs, Sum.inl (a : Int), by rw [upd_ne dl]; exact hk2, rfl, sz_lt (by omega), fun v0 hv => ?_, fun hn => ?_⟩
        · rcases hx a with ⟨h1, _⟩ | ⟨l0, h1, h2, h3, h4⟩
          · rw [h1] at hv; cases hv
          · rw [h1] at hv
            cases hv
            have n0 : l0 ≠ l := ne_of_none (e2 _ _ h2) nl
            have hl0 : upd H2 l (.lst []) l0 = some (.lst ((nats (rowsOf' (ps.take i) a)).map V.int)) := by rw [upd_ne n0]; exact e2 _ _ h2
            refine ⟨.inl ⟨rfl, _, sq_of hl0⟩, _, rfl, l0, _, .int (b : Int), rfl, rfl, hl0, sz_lt ?_, ⟨_, _, rfl⟩, ?_⟩
            · have : (rowsOf' (ps.take i) a).length ≤ i := by
                unfold rowsOf'
                rw [List.length_map]
                refine Nat.le_trans (List.length_filter_le _ _) ?_
                rw [List.length_take]
                omega
              simp [nats]
              omega
            · have kt2 : Kt H1 (upd (upd H2 l (.lst [])) l0 (.lst ((nats (rowsOf' (ps.take i) a)).map V.int ++ [.int (b : Int)]))) := (kt.trans ((Kt.ex e2).trans (Kt.new nl))).trans (Kt.upd hl0 rfl)
              refine ⟨Ex.mut ((ex.trans e2).trans (Ex.new nl)) h3, kt2, fr, kvs, by rw [upd_ne h4.symm, upd_ne dl]; exact hk2, by omega, fun x => ?_, hinj⟩
              rw [tk, rowsOf_snoc]
              rcases hx x with ⟨g1, g2⟩ | ⟨l1, g1, g2, g3, g4⟩
              · refine .inl ⟨g1, ?_⟩
                rw [g2, if_neg]
                · rfl
                · rintro rfl
                  rw [g1] at h1; cases h1
              · refine .inr ⟨l1, g1, ?_, g3, g4⟩
                by_cases hax : a = x
                · subst hax
                  rw [h1] at g1
                  cases g1
                  rw [if_pos rfl]
                  unfold IntsAt
                  rw [upd_same, nats_append, List.map_append]
                  rfl
                · rw [if_neg hax, List.append_nil]
                  have : l1 ≠ l0 := fun z => hax (hinj a x l0 h1 (by rw [g1, z]))
                  unfold IntsAt
                  rw [upd_ne this, upd_ne (ne_of_none (e2 _ _ g2) nl)]
                  exact e2 _ _ g2
        · have hll : upd (upd H2 l (.lst [])) d (.dK (putK kvs (Sum.inl (a : Int)) (.ref l))) l = some (.lst []) := by rw [upd_ne dl.symm]; exact upd_same
          refine ⟨.inl ⟨rfl, _, sq_of hll⟩, _, rfl, l, [], .int (b : Int), rfl, rfl, hll, sz_lt (by simp), ⟨_, _, rfl⟩, ?_⟩
          have hdd : upd H2 l (.lst []) d = some (.dK kvs) := by rw [upd_ne dl]; exact hk2
          have kt2 : Kt H1 (upd (upd (upd H2 l (.lst [])) d (.dK (putK kvs (Sum.inl (a : Int)) (.ref l)))) l (.lst ([] ++ [.int (b : Int)]))) := ((kt.trans ((Kt.ex e2).trans (Kt.new nl))).trans (Kt.upd hdd rfl)).trans (Kt.upd hll rfl)
          refine ⟨Ex.mut (Ex.mut ((ex.trans e2).trans (Ex.new nl)) fr) h0l, kt2, fr, putK kvs (Sum.inl (a : Int)) (.ref l), by rw [upd_ne dl, upd_same], by have := length_putK kvs (Sum.inl (a : Int) : Key) (.ref l); omega, fun x => ?_, fun x y l1 g1 g2 => ?_⟩
          · rw [tk, rowsOf_snoc, valV_put]
            by_cases hax : a = x
            · subst hax
              rw [if_pos rfl, if_pos rfl]
              refine .inr ⟨l, rfl, ?_, h0l, dl.symm⟩
              rcases hx a with ⟨_, q⟩ | ⟨l1, q, _⟩
              · rw [q]
                unfold IntsAt
                rw [upd_same]
                rfl
              · rw [q] at hn; cases hn
            · rw [if_neg hax, if_neg (fun z => hax (by have := Sum.inl.inj z; omega)), List.append_nil]
              rcases hx x with g | ⟨l1, g1, g2, g3, g4⟩
              · exact .inl g
              · refine .inr ⟨l1, g1, ?_, g3, g4⟩
                have n1 : l1 ≠ l := ne_of_none (e2 _ _ g2) nl
                unfold IntsAt
                rw [upd_ne n1, upd_ne g4, upd_ne n1]
                exact e2 _ _ g2
          · rw [valV_put] at g1 g2
            have old : ∀ z : Nat, valV kvs (Sum.inl (z : Int)) = some (.ref l) → False := fun z hz => by
              rcases hx z with ⟨q, _⟩ | ⟨l1, q, q2, _⟩
              · rw [q] at hz; cases hz
              · rw [q] at hz
                cases hz
                have : H2 l = none := nl
                rw [e2 _ _ q2] at this
                cases this
            split at g1
            · rename_i e1
              split at g2
              · rename_i e2
                have h1 := Sum.inl.inj e1
                have h2 := Sum.inl.inj e2
                omega
              · cases g1
                exact (old y g2).elim
            · split at g2
              · cases g2
                exact (old x g1).elim
              · exact hinj x y l1 g1 g2
    · rintro H1 σ' H' e1 ⟨⟨b0, f0, rfl⟩, L⟩
      obtain ⟨ex, kt, fr, kvs, hk, hl, hx, hinj⟩ := L
      rw [List.length_map, List.take_length] at hx
      exact ⟨_, rfl, k d H' ex fr ⟨kvs, .inl (by unfold nw; rw [fr]; exact hk), fun x => (hx x).imp id fun ⟨l, a, b, c, _⟩ => ⟨l, a, by unfold IntsAt nw; rw [c]; exact b⟩⟩⟩
end
end K33
set_option autoImplicit false
set_option Elab.async false
set_option linter.all false
set_option maxRecDepth 100000
set_option maxHeartbeats 4000000
namespace K33
open PySem PySem.Spec PyProof.Rows L2 Evl
/-- what the walk asks of the class of views -/
structure ViewC (K : PySem.W.Frag) (C : Addr) : Prop where
  cl : Cls K C
  n1 : NoAttr K C "many"
  n2 : NoAttr K C "led_by"
  n3 : NoAttr K C "true_at"
section
variable {P : Program} {w : World} {K : PySem.W.Frag} {mg : Str → Option Value} {base : Heap} {C : Addr}
/-- a view's dict of hands, not locked -/
def Opn (C : Addr) (H : Hp) (p : Addr) (W : Web Str) : Prop := ∃ (dx d1 d2 : Addr) (k1 : List (Key × V)), H p = some (.ins C dx [("many", .int (W.many : Int)), ("led_by", .ref d1), ("true_at", .ref d2)]) ∧ H d1 = some (.dK k1) ∧ k1.map (·.1) = (hands W).map Sum.inr
theorem Opn.ex {C p : Addr} {H H' : Hp} {W : Web Str} (h : Opn C H p W) (e : Ex H H') : Opn C H' p W := by
  obtain ⟨dx, d1, d2, k1, a, b, c⟩ := h
  exact ⟨dx, d1, d2, k1, e _ _ a, e _ _ b, c⟩
/-- a new tuple's tracking of a dict's default -/
theorem ends_of_none {W : Web Str} {kvs : List (Key × V)} {h : Str} (m : kvs.map (·.1) = (hands W).map Sum.inr) (n : valV kvs (Sum.inr h) = none) (x : Nat) : ends W h x = [] := by
  refine ends_no (fun hh => valV_none n ?_) x
  rw [m]
  exact List.mem_map.mpr ⟨h, hh, rfl⟩
abbrev sp_led_from (K : PySem.W.Frag) (C : Addr) : Sp := fun vs H Q _ => ∃ (p : Addr) (W : Web Str) (h : Str) (x : Nat) (Hv : Hp), vs = [.ref p, .str h, .int (x : Int)] ∧ ViewAt K C Hv p W ∧ Ex Hv H ∧ ∀ l H', Ex H H' → IntsAt H' l (ends W h x) → (H l = none ∨ Hv l ≠ none) → Q (.ref l) H'
theorem has_led_from (D : MethAt K C "led_from" "WebView.led_from" st_WebView_led_from ["self", "hand", "world"]) (VC : ViewC K C) : HasM P w K mg base CX0 1 C "led_from" ["self", "hand", "world"] (sp_led_from K C) := by
  refine D.ok sc_WebView_led_from (fun vs H Q E h => ?_) (fun f cdv A outer s H vs Q E hr h => ?_)
  · obtain ⟨p, W, h, x, Hv, rfl, _⟩ := h
    rfl
  · obtain ⟨p, W, h, x, Hv, rfl, vw, ev, k⟩ := h
    have nd := sc_WebView_led_from.nd
    have hu := hu_of hr
    refine ⟨_, pss_cons (ps_set (i := 3) nd rfl (.inl rfl) (pe_dget2 hu (k_fld K (pv 0)) (pv 1) pe_dnewK ⟨rfl, rfl, rfl, rfl⟩))
      (pss_one (ps_ret (pe_dget2 hu (pv 3) (pv 2) (pe_lst pa_nil) ⟨rfl, rfl, rfl, rfl⟩))), ?_⟩
    obtain ⟨dx, d1, d2, ho, ⟨kvs, hr1, hm, hf⟩, _⟩ := vw.ob
    have ho := ev _ _ ho
    have hr1 := ex_rd ev hr1
    refine ⟨_, rfl, p, C, dx, _, .ref d1, rfl, ho, VC.cl, VC.n2, rfl, d1, rfl, .inl ⟨kvs, hr1⟩, .str h, rfl, fun e he => ?_⟩
    have hr2 := ex_rd (Ex.new (o := .dK []) he) hr1
    refine ⟨_, .inl ⟨kvs, Sum.inr h, hr2, rfl, rfl⟩, ?_⟩
    cases hv : valV kvs (Sum.inr h : Key) with
    | none =>
      have en := ends_of_none hm hv x
      refine ⟨.ref e, rfl, e, rfl, .inl ⟨[], .inl upd_same⟩, _, rfl, sz_of (by simp), fun l nl => ⟨_, .inl ⟨[], Sum.inl (x : Int), .inl (by rw [upd_ne (fun z => by subst z; rw [upd_same] at nl; cases nl)]; exact upd_same), rfl, rfl⟩, ?_⟩⟩
      refine k l _ ((Ex.new he).trans (Ex.new nl)) ?_ (.inl (fresh_back (Ex.new he) nl))
      rw [en]
      exact upd_same
    | some v =>
      obtain ⟨r, rv, rows⟩ := hf _ (valV_mem hv) h rfl
      simp only at rv
      subst rv
      obtain ⟨k2, hk2, hx⟩ := rows
      have hk2 := ex_rd (ev.trans (Ex.new (o := .dK []) he)) hk2
      refine ⟨.ref r, rfl, r, rfl, .inl ⟨k2, hk2⟩, _, rfl, sz_of (by simp), fun l nl => ⟨_, .inl ⟨k2, Sum.inl (x : Int), ex_rd (Ex.new nl) hk2, rfl, rfl⟩, ?_⟩⟩
      have e2 := (Ex.new (o := .dK []) he).trans (Ex.new (o := .lst []) nl)
      rcases hx x with ⟨h1, h2⟩ | ⟨l1, h1, h2⟩
      · rw [h1]
        refine k l _ e2 ?_ (.inl (fresh_back (Ex.new he) nl))
        rw [h2]
        exact upd_same
      · rw [h1]
        refine k l1 _ e2 (e2 _ _ (ev _ _ h2)) (.inr fun z => ?_)
        rw [h2] at z
        cases z
abbrev sp_has_letter (K : PySem.W.Frag) (C : Addr) : Sp := fun vs H Q _ => ∃ (p : Addr) (W : Web Str) (z : Str) (x : Nat), vs = [.ref p, .str z, .int (x : Int)] ∧ ViewAt K C H p W ∧ ∀ H', Ex H H' → Q (.bl (decide (x ∈ getL W.marks z))) H'
theorem has_has_letter (D : MethAt K C "has_letter" "WebView.has_letter" st_WebView_has_letter ["self", "word", "world"]) (VC : ViewC K C) : HasM P w K mg base CX0 1 C "has_letter" ["self", "word", "world"] (sp_has_letter K C) := by
  refine D.ok sc_WebView_has_letter (fun vs H Q E h => ?_) (fun f cdv A outer s H vs Q E hr h => ?_)
  · obtain ⟨p, W, h, x, rfl, _⟩ := h
    rfl
  · obtain ⟨p, W, z, x, rfl, vw, k⟩ := h
    have nd := sc_WebView_has_letter.nd
    have hu := hu_of hr
    refine ⟨_, pss_one (ps_ret (pe_cmpR (k_in K) (pv 2) (pe_dget2 hu (k_fld K (pv 0)) (pv 1) (pe_tup pa_nil) ⟨rfl, rfl, rfl, rfl⟩) (by rfl))), ?_⟩
    obtain ⟨dx, d1, d2, ho, _, kvs, hr1, hm, hf⟩ := vw.ob
    refine ⟨_, rfl, _, rfl, p, C, dx, _, .ref d2, rfl, ho, VC.cl, VC.n3, rfl, d2, rfl, .inl ⟨kvs, hr1⟩, .str z, rfl, sz_of (by simp), fun e he => ?_⟩
    have hr2 := ex_rd (Ex.new (o := .tup []) he) hr1
    refine ⟨_, .inl ⟨kvs, Sum.inr z, hr2, rfl, rfl⟩, ?_⟩
    cases hv : valV kvs (Sum.inr z : Key) with
    | none =>
      have en : getL W.marks z = [] := getL_none fun hh => valV_none hv (by rw [hm]; exact List.mem_map.mpr ⟨z, hh, rfl⟩)
      refine ⟨e, [], rfl, .inr (st_of upd_same), rfl, rfl, ?_⟩
      have := k _ (Ex.new (o := .tup []) he)
      rw [en] at this
      exact this
    | some v =>
      have tv := hf _ (valV_mem hv) z rfl
      obtain ⟨a, xs, ev, hs, ts⟩ := TD.tupI tv
      simp only at ev
      subst ev
      obtain rfl := TDs.ints ts
      refine ⟨a, _, rfl, .inr (ex_t (Ex.new he) hs), rfl, flat_ints _, ?_⟩
      show Q (.bl (if false = true then _ else _)) _
      rw [if_neg Bool.false_ne_true, inV_ints]
      have := k _ (Ex.new (o := .tup []) he)
      simp only [mem_nats]
      exact this
abbrev sp_view (K : PySem.W.Frag) (C : Addr) : Sp := fun vs H Q _ => ∃ (p dx : Addr) (v : V) (W : Web Str), vs = [.ref p, v] ∧ H p = some (.ins C dx []) ∧ TD K H v (dWeb W) ∧ (hands W).Nodup ∧ (W.marks.map (·.1)).Nodup ∧ W.steps.length ≤ 1000 ∧ W.marks.length ≤ 1000 ∧ (∀ q ∈ W.steps, q.2.length ≤ 10000) ∧
  ∀ H', (∀ b o, H b = some o → b ≠ p → H' b = some o) → ViewAt K C H' p W → Opn C H' p W → Q .non H'
theorem kS {a b : Str} {x y : V} (h : ¬ a = b) : putF b y [(a, x)] = [(a, x), (b, y)] := by
  show (if a = b then _ else (a, x) :: putF b y []) = _
  rw [if_neg h]
  rfl
theorem has_view (D : InitAt K mg "WebView" C "WebView.__init__" st_WebView___init__ ["self", "web"]) (VC : ViewC K C) (GL : HasM P w K mg base CX0 1 C "led_rows" ["self", "pairs"] (sp_led_rows K)) : HasC P w K mg base CX0 2 "WebView" C ["self", "web"] (sp_view K C) := by
  refine D.ok sc_WebView___init__ (fun vs H Q E h => ?_) (fun f cdv A outer s H vs Q E hr h => ?_)
  · obtain ⟨p, dx, v, W, rfl, _⟩ := h
    rfl
  · obtain ⟨p, dx, v, W, rfl, hp, tw, nd1, nd2, z1, z2, z3, k⟩ := h
    have nd := sc_WebView___init__.nd
    refine ⟨_, pss_cons (ps_asg (pv 1) (k_tup K 3 rfl (pgs_cons (k_pgf K (pv 0)) (pgs_cons (pg_name (i := 2) nd rfl (.inl rfl)) (pgs_cons (pg_name (i := 3) nd rfl (.inl rfl)) pgs_nil)))))
      (pss_cons (ps_fld (pv 0) (pe_dc (own := [("hand", 4), ("pairs", 5)]) rfl nd (k_pit K (pv 2)) (blk (N := ["self", "web", "steps", "letters", "hand", "pairs", "word", "worlds"]) (sc := defScope st_WebView___init__) (by decide +kernel))
          (fun _ _ _ _ _ => k_tup K 2 rfl (pgs_cons (pg_name (i := 4) nd rfl (.inl rfl)) (pgs_cons (pg_name (i := 5) nd rfl (.inl rfl)) pgs_nil))) (fun _ _ _ _ _ => pts_nil) (fun _ _ _ _ _ => pv 4)
          (fun _ _ _ _ _ => pe_hasM VC.cl GL hr (pv 0) pass0 (pa_cons (pv 5) pa_nil))) rfl)
      (pss_one (ps_fld (pv 0) (pe_dc (own := [("word", 6), ("worlds", 7)]) rfl nd (k_pit K (pv 3)) (blk (N := ["self", "web", "steps", "letters", "hand", "pairs", "word", "worlds"]) (sc := defScope st_WebView___init__) (by decide +kernel))
          (fun _ _ _ _ _ => k_tup K 2 rfl (pgs_cons (pg_name (i := 6) nd rfl (.inl rfl)) (pgs_cons (pg_name (i := 7) nd rfl (.inl rfl)) pgs_nil))) (fun _ _ _ _ _ => pts_nil) (fun _ _ _ _ _ => pv 6)
          (fun _ _ _ _ _ => pv 7)) rfl))), ?_⟩
    obtain ⟨a, xs, rfl, hs, ts⟩ := tw.tupI
    obtain ⟨vm, r1, rfl, t1, ts⟩ := ts.consI
    obtain ⟨vs, r2, rfl, t2, ts⟩ := ts.consI
    obtain ⟨vl, r3, rfl, t3, ts⟩ := ts.consI
    cases ts.nilI
    obtain rfl := t1.intI
    refine ⟨_, rfl, a, _, rfl, hs, rfl, _, _, rfl, ?_⟩
    refine ⟨_, rfl, p, C, dx, [], rfl, hp, VC.cl, VC.n1, by simp, _, _, rfl, _, _, rfl, rfl, ?_⟩
    -- the steps' dict
    have ktp : ∀ {H1 : Hp} {fs fs' : List (Str × V)}, H1 p = some (.ins C dx fs) → Kt H1 (upd H1 p (.ins C dx fs')) := fun h => Kt.upd h rfl
    have e0 : ∀ b o, H b = some o → b ≠ p → upd H p (.ins C dx (putF "many" (.int (W.many : Int)) [])) b = some o := fun b o h1 h2 => by rw [upd_ne h2]; exact h1
    have nh : (W.steps.map fun q => (Sum.inr q.1 : Key)).Nodup := by
      have : (W.steps.map fun q => (Sum.inr q.1 : Key)) = (hands W).map Sum.inr := by unfold hands; rw [List.map_map]; rfl
      rw [this]
      exact nd1.map _ fun a b n e => n (Sum.inr.inj e)
    have nm : (W.marks.map fun q => (Sum.inr q.1 : Key)).Nodup := by
      have : (W.marks.map fun q => (Sum.inr q.1 : Key)) = (W.marks.map (·.1)).map Sum.inr := by rw [List.map_map]; rfl
      rw [this]
      exact nd2.map _ fun a b n e => n (Sum.inr.inj e)
    dsimp only
    refine q_fld (K := K) ?_
    refine dc_gen (K := K) (l := W.steps) (enc := dStep) (fun q => Sum.inr q.1) (fun H1 D q v H' => ∃ r, v = .ref r ∧ Rows1 (nw (upd H1 D (.dK [])) H') r (rowsOf' q.2)) nh (by omega) (fun H1 D a v H' H'' e ⟨r, h1, h2⟩ => ⟨r, h1, h2.ex (nw_mono e)⟩) (fun H1 D a v H' k k' n hD ⟨r, h1, h2⟩ => ⟨r, h1, by rw [nw_upd upd_same]; exact h2⟩) ?_ ?_ ?_
    · exact (src_tup (ed_var (v := vs) rfl (t2.mono (ktp hp)))).ex
    · intro H1 D e1 n1 q hq x H2 Q2 e2 hD tx kx
      refine tg_pair tx fun v w tv tw => ?_
      obtain rfl := tv.strI
      refine kx _ rfl (ev_var rfl) fun H3 e3 Q3 q3 => ?_
      have hpp : H3 p = some (.ins C dx (putF "many" (.int (W.many : Int)) [])) := e3 _ _ (e2 _ _ (e1 _ _ upd_same))
      refine ⟨_, rfl, p, dx, _, rfl, hpp, rfl, ?_⟩
      refine ⟨w, rfl, ?_⟩
      refine ⟨.ref p, w, q.2, rfl, tw.ex e3, z3 q hq, fun r H4 e4 n4 r4 => q3 _ H4 e4 ⟨r, rfl, r4.ex (nw_dom fun b o hb => ?_)⟩⟩
      by_cases hbd : b = D
      · subst hbd
        obtain ⟨k0, hk0⟩ := hD
        exact ⟨_, e3 _ _ hk0⟩
      · rw [upd_ne hbd] at hb
        exact ⟨_, e3 _ _ (e2 _ _ hb)⟩
    · intro H1 D H' k1 e1 n1 e2 hD hm hf
      have hp1 : H' p = some (.ins C dx (putF "many" (.int (W.many : Int)) [])) := e2 _ _ (e1 _ _ upd_same)
      have np : p ≠ D := ne_of_none (e1 _ _ upd_same) n1
      refine ⟨_, rfl, p, C, dx, _, rfl, hp1, VC.cl, VC.n2, by simp [putF], ?_⟩
      refine s_fld (K := K) ?_
      have pf1 : putF "led_by" (.ref D) (putF "many" (.int (W.many : Int)) []) = ([("many", .int (W.many : Int)), ("led_by", .ref D)] : List (Str × V)) := kS (by decide +kernel)
      rw [pf1]
      have ktq : Kt H (upd H' p (.ins C dx [("many", .int (W.many : Int)), ("led_by", .ref D)])) := (ktp hp).trans ((Kt.ex (e1.trans e2)).trans (Kt.upd hp1 rfl))
      refine dc_data (K := K) (l := W.marks) (enc := dMark) (fun q => Sum.inr q.1) (fun q => dNats q.2) nm (by omega) ?_ ?_ ?_
      · exact (src_tup (ed_var (v := vl) rfl (t3.mono ktq))).ex
      · intro q hq x H2 Q2 e3 tx kx
        refine tg_pair tx fun v w tv tw => ?_
        obtain rfl := tv.strI
        exact kx _ rfl (ev_var rfl) (ed_var rfl tw)
      · intro D2 H2 k2 n2 e3 hD2 hm2 hf2
        have hp2 : H2 p = some (.ins C dx [("many", .int (W.many : Int)), ("led_by", .ref D)]) := e3 _ _ upd_same
        have pf2 : putF "true_at" (.ref D2) [("many", .int (W.many : Int)), ("led_by", .ref D)] = ([("many", .int (W.many : Int)), ("led_by", .ref D), ("true_at", .ref D2)] : List (Str × V)) := by
          show (if _ then _ else _) = _
          rw [if_neg (by decide +kernel)]
          show _ :: (if _ then _ else _) = _
          rw [if_neg (by decide +kernel)]
          rfl
        refine ⟨_, rfl, p, C, dx, _, rfl, hp2, VC.cl, VC.n3, by simp, ?_⟩
        rw [pf2]
        have np2 : p ≠ D2 := ne_of_none (by rw [upd_same]) n2
        have hDD : H2 D = some (.dK k1) := e3 _ _ (by rw [upd_ne np.symm]; exact hD)
        refine k _ (fun b o hb hne => ?_) ⟨dx, D, D2, upd_same, ⟨k1, .inl (by rw [upd_ne np.symm]; exact hDD), ?_, ?_⟩, ⟨k2, .inl (by rw [upd_ne np2.symm]; exact hD2), ?_, ?_⟩⟩ ⟨dx, D, D2, k1, upd_same, by rw [upd_ne np.symm]; exact hDD, ?_⟩
        · rw [upd_ne hne]
          exact e3 _ _ (by rw [upd_ne hne]; exact e2 _ _ (e1 _ _ (by rw [upd_ne hne]; exact hb)))
        · rw [hm]; unfold hands; rw [List.map_map]; rfl
        · intro kv hkv h eh
          obtain ⟨i, q, hi, hki, ek⟩ := dk_mem hm hkv
          obtain ⟨r, h1, h2⟩ := hf i q kv hi hki
          have eq : h = q.1 := Sum.inr.inj (eh.symm.trans ek)
          refine ⟨r, h1, ?_⟩
          have : rowsOf' q.2 = ends W h := by
            funext x
            unfold rowsOf' ends
            rw [eq, getL_mem nd1 (List.mem_of_getElem? hi)]
          rw [this] at h2
          refine h2.ex fun b o hb => ?_
          unfold nw at hb
          split at hb
          · rename_i hn
            have bp : b ≠ p := by
              rintro rfl
              rw [upd_ne np, e1 _ _ upd_same] at hn
              cases hn
            rw [upd_ne bp]
            exact e3 _ _ (by rw [upd_ne bp]; exact hb)
          · cases hb
        · rw [hm2, List.map_map]; rfl
        · intro kv hkv z ez
          obtain ⟨i, q, hi, hki, ek⟩ := dk_mem hm2 hkv
          have eq : z = q.1 := Sum.inr.inj (ez.symm.trans ek)
          rw [eq, getL_mem nd2 (List.mem_of_getElem? hi)]
          exact (hf2 i q kv hi hki).mono (Kt.upd hp2 rfl)
        · rw [hm]; unfold hands; rw [List.map_map]; rfl
end
end K33
set_option autoImplicit false
set_option Elab.async false
set_option linter.all false
set_option maxRecDepth 100000
set_option maxHeartbeats 4000000
/-! Webs of the law's size; what the walks of webs share. -/
namespace K33
open PySem PySem.Spec PyProof.Rows L2 Evl
/-- a web of at most m worlds, hands and words of the law's -/
structure WebOk (m : Nat) (W : Web Str) : Prop where
  wf : Wf W
  lim : m ≤ 7
  many : W.many ≤ m
  hnd : ∀ h ∈ hands W, h ∈ (["h", "k", "zz"] : List Str)
  mrk : ∀ z ∈ W.marks.map (·.1), z ∈ (["a", "b", "zz"] : List Str)
  ps : ∀ q ∈ W.steps, q.2.length ≤ m * m
  ys : ∀ q ∈ W.marks, q.2.length ≤ m
theorem nodup_sub {α : Type} [DecidableEq α] : ∀ {l r : List α}, l.Nodup → (∀ a ∈ l, a ∈ r) → l.length ≤ r.length
  | [], _, _, _ => Nat.zero_le _
  | a :: l, r, nd, h => by
    rw [List.nodup_cons] at nd
    have ha := h a (by simp)
    have := nodup_sub (l := l) (r := r.erase a) nd.2 fun b hb => by
      have ne : b ≠ a := by
        rintro rfl
        exact nd.1 hb
      exact (List.mem_erase_of_ne ne).mpr (h b (List.mem_cons_of_mem _ hb))
    rw [List.length_erase_of_mem ha] at this
    have : 0 < r.length := List.length_pos_of_mem ha
    simp only [List.length_cons]
    omega
section
variable {m : Nat} {W : Web Str}
theorem WebOk.hl (o : WebOk m W) : W.steps.length ≤ 3 := by
  have := nodup_sub o.wf.nds o.hnd
  rw [List.length_map] at this
  exact this
theorem WebOk.ml (o : WebOk m W) : W.marks.length ≤ 3 := by
  have := nodup_sub o.wf.ndm o.mrk
  rw [List.length_map] at this
  exact this
theorem WebOk.pl (o : WebOk m W) : ∀ q ∈ W.steps, q.2.length ≤ 49 := fun q hq => Nat.le_trans (o.ps q hq) (Nat.mul_le_mul o.lim o.lim)
theorem WebOk.yl (o : WebOk m W) : ∀ q ∈ W.marks, q.2.length ≤ 7 := fun q hq => Nat.le_trans (o.ys q hq) o.lim
theorem WebOk.ends_len (o : WebOk m W) (h : Str) (x : Nat) : (ends W h x).length ≤ 49 := by
  unfold ends
  rw [List.length_map]
  refine Nat.le_trans (List.length_filter_le _ _) ?_
  by_cases hh : h ∈ hands W
  · obtain ⟨q, hq, rfl⟩ := List.mem_map.mp hh
    rw [getL_mem o.wf.nds (v := q.2) hq]
    exact o.pl q hq
  · rw [getL_none hh]
    exact Nat.zero_le _
end
section
variable {K : PySem.W.Frag} {σ : L2.St} {H H' : Hp} {ta tb tc te tx : TE} {tl tr : TA} {t : TT} {wi : TI} {g : TG} {ds : List PyData}
/-- a range's walk asks nothing of the heap -/
theorem src_rngT {n : Nat} (h : Ev te σ H (.int (n : Int))) (hn : n ≤ 100000) : Src (fun _ _ => True) K (iRng1 (tCons te tNil)) σ H ((List.range n).map fun (i : Nat) => PyData.int (i : Int)) := fun H1 e1 R q =>
  h H1 e1 _ fun H2 e2 => ⟨(n : Int), rfl, by omega, by omega, q _ H2 e2 ⟨fun i H' _ l => (wk_rng (K := K) (H := H')).go i H' (Kt.refl _) l, fun H' _ => (wk_rng (K := K) (H := H')).stop H' (Kt.refl _), fun i H' x H'' d _ a b => (wk_rng (K := K) (H := H')).yld i H' x H'' d (Kt.refl _) a b⟩⟩
/-- a tuple that stands in H0 -/
theorem src_tupK {H0 : Hp} {v : V} (h : Ev te σ H v) (t : TD K H0 v (.tuple ds)) (kt : Kt H0 H) : Src (fun _ H' => Kt H0 H') K (iTup K te) σ H ds := fun H1 e1 R q =>
  h H1 e1 _ fun H2 e2 => by
    obtain ⟨a, xs, rfl, hs, ts⟩ := t.tupI
    exact ⟨a, rfl, ⟨xs, kt_t (kt.trans (Kt.ex (e1.trans e2))) hs⟩, q _ H2 e2 (wk_tup hs ts)⟩
/-- a list that stands in H0 -/
theorem src_lstK {H0 : Hp} {a : Addr} {xs : List V} (h : Ev te σ H (.ref a)) (hs : SqL K H0 a xs) (ts : TDs K H0 xs ds) (e : Ex H0 H) : Src (fun _ H' => Ex H0 H') K (iList K te) σ H ds := fun H1 e1 R q =>
  h H1 e1 _ fun H2 e2 => ⟨a, rfl, ⟨xs, ex_l (e.trans (e1.trans e2)) hs⟩, q _ H2 e2 (wk_lst hs ts)⟩
/-- a list of ints at a place, new or not -/
def EIl (te : TE) (σ : L2.St) (H : Hp) (ns : List Nat) : Prop := ∀ H1, Ex H H1 → ∀ Q : VK, (∀ l H2, Ex H1 H2 → IntsAt H2 l ns → Q (.ref l) H2) → te σ H1 Q
theorem ints_td {ns : List Nat} : TDs K H ((nats ns).map V.int) (ns.map fun (y : Nat) => PyData.int (y : Int)) := by
  have := TDs.ofInts (K := K) (H := H) (nats ns)
  unfold nats at this ⊢
  rw [List.map_map] at this
  rw [List.map_map] at *
  exact this
theorem src_il {ns : List Nat} (h : EIl te σ H ns) : Src Ex K (iList K te) σ H (ns.map fun (y : Nat) => PyData.int (y : Int)) := fun H1 e1 R q =>
  h H1 e1 _ fun l H2 e2 hl => ⟨l, rfl, ⟨_, sq_of hl⟩, q _ H2 e2 (wk_lst (sq_of hl) ints_td)⟩
/-- the i-th of a list of Bools -/
theorem ev_ixB {p : Addr} {bs : List Bool} {i : Nat} {b : Bool} (h : Ev ta σ H (.ref p)) (hl : SqL K H p (bs.map V.bl)) (hi : Ev tb σ H (.int (i : Int))) (hb : bs[i]? = some b) : Ev (tOp (rIxL K) ta tb) σ H (.bl b) :=
  ev_bl (ed_ixL h hl (TDs.ofBls bs) hi (by rw [List.getElem?_map, hb]; rfl))
/-- a new list of Bools -/
def EBl (te : TE) (σ : L2.St) (H : Hp) (bs : List Bool) : Prop := ∀ H1, Ex H H1 → ∀ Q : VK, (∀ p H2, H1 p = none → Ex H1 H2 → H2 p = some (.lst (bs.map V.bl)) → Q (.ref p) H2) → te σ H1 Q
theorem ebl_of {bs : List Bool} (h : ELd K te σ H (· = bs.map PyData.bool)) : EBl te σ H bs := fun H1 e Q q =>
  h H1 e _ fun p xs H2 ds n e2 hl ts r => by
    subst r
    obtain rfl := ts.bls
    exact q p H2 n e2 hl
theorem s_retBl {D : Ends} {bs : List Bool} (h : EBl te σ H bs) (k : ∀ p H1, H p = none → Ex H H1 → H1 p = some (.lst (bs.map V.bl)) → D.rt (.ref p) H1) : tRet te D σ H := h H (Ex.refl H) _ k
theorem q_asgBl {D : Ends} {tz : TS} {i : Nat} {bs : List Bool} (h : EBl te σ H bs) (k : ∀ p H1, H p = none → Ex H H1 → H1 p = some (.lst (bs.map V.bl)) → tz D (σ.set i (some (.ref p))) H1) : tSeq (tAsg te (gName i)) tz D σ H := h H (Ex.refl H) _ k
end
section
variable {K : PySem.W.Frag} {C : Addr} {σ : L2.St} {H H' : Hp} {ta tb tc te tx : TE} {tl tr : TA} {m : Nat} {W : Web Str}
/-- WebView(web) -/
theorem q_view {D : Ends} {tz : TS} {i : Nat} {E : XK} (o : WebOk m W) (h : ED K tx σ H (· = dWeb W)) (k : ∀ p H1, H p = none → Ex H H1 → ViewAt K C H1 p W → Opn C H1 p W → tz D (σ.set i (some (.ref p))) H1) : tSeq (tAsg (tMake C (sp_view K C) [] E (tCons tx tNil)) (gName i)) tz D σ H :=
  h H (Ex.refl H) _ fun v H2 d e t p => by
    subst p
    intro x dx nx ndx ne
    refine ⟨x, dx, v, W, rfl, upd_same, t.mono ((Kt.new ndx).trans (Kt.new (by rw [upd_ne ne.symm]; exact nx))), o.wf.nds, o.wf.ndm, by have := o.hl; omega, by have := o.ml; omega, fun q hq => by have := o.pl q hq; omega, fun H' kp vw op => ⟨rfl, ?_⟩⟩
    refine k x H' (fresh_back e nx) (e.trans fun b ob hb => kp b ob ?_ (ne_of_none hb nx)) vw op
    rw [upd_ne (ne_of_none hb nx), upd_ne (ne_of_none hb ndx)]
    exact hb
theorem s_view {D : Ends} {i : Nat} {E : XK} (o : WebOk m W) (h : ED K tx σ H (· = dWeb W)) (k : ∀ p H1, H p = none → Ex H H1 → ViewAt K C H1 p W → Opn C H1 p W → D.nx (σ.set i (some (.ref p))) H1) : tAsg (tMake C (sp_view K C) [] E (tCons tx tNil)) (gName i) D σ H :=
  q_view (tz := fun D => D.nx) (D := D) o h k
/-- view.led_from(hand, world) -/
theorem eil_led {p : Addr} {h : Str} {x : Nat} {E : XK} (vw : ViewAt K C H p W) (ha : Ev ta σ H (.ref p)) (hb : Ev tb σ H (.str h)) (hc : Ev tc σ H (.int (x : Int))) : EIl (tMeth C "led_from" (sp_led_from K C) [] E ta (tCons tb (tCons tc tNil))) σ H (ends W h x) := fun H1 e1 Q q =>
  ha H1 e1 _ fun H2 e2 => by
    obtain ⟨dx, d1, d2, ho, _⟩ := (vw.ex (e1.trans e2)).ob
    refine ⟨p, dx, _, rfl, ho, by rfl, ?_⟩
    refine hb H2 (e1.trans e2) _ fun H3 e3 => hc H3 ((e1.trans e2).trans e3) _ fun H4 e4 => ?_
    exact ⟨p, W, h, x, H4, rfl, vw.ex ((e1.trans e2).trans (e3.trans e4)), Ex.refl _, fun l H5 e5 hl _ => q l H5 (e2.trans (e3.trans (e4.trans e5))) hl⟩
/-- .. the view told of an earlier heap: the list is new, or it stood there -/
theorem eil_ledV {p : Addr} {h : Str} {x : Nat} {E : XK} {Hv : Hp} (vw : ViewAt K C Hv p W) (ev : Ex Hv H) (ha : Ev ta σ H (.ref p)) (hb : Ev tb σ H (.str h)) (hc : Ev tc σ H (.int (x : Int))) :
    ∀ H1, Ex H H1 → ∀ Q : VK, (∀ l H2, Ex H1 H2 → IntsAt H2 l (ends W h x) → (H1 l = none ∨ Hv l ≠ none) → Q (.ref l) H2) → tMeth C "led_from" (sp_led_from K C) [] E ta (tCons tb (tCons tc tNil)) σ H1 Q := fun H1 e1 Q q =>
  ha H1 e1 _ fun H2 e2 => by
    obtain ⟨dx, d1, d2, ho, _⟩ := vw.ob
    refine ⟨p, dx, _, rfl, e2 _ _ (e1 _ _ (ev _ _ ho)), by rfl, ?_⟩
    refine hb H2 (e1.trans e2) _ fun H3 e3 => hc H3 ((e1.trans e2).trans e3) _ fun H4 e4 => ?_
    exact ⟨p, W, h, x, Hv, rfl, vw, ev.trans (e1.trans (e2.trans (e3.trans e4))), fun l H5 e5 hl hn => q l H5 (e2.trans (e3.trans (e4.trans e5))) hl (hn.imp (fun z => fresh_back (e2.trans (e3.trans e4)) z) id)⟩
/-- view.has_letter(word, world) -/
theorem ev_hasl {p : Addr} {h : Str} {x : Nat} {E : XK} (vw : ViewAt K C H p W) (ha : Ev ta σ H (.ref p)) (hb : Ev tb σ H (.str h)) (hc : Ev tc σ H (.int (x : Int))) : Ev (tMeth C "has_letter" (sp_has_letter K C) [] E ta (tCons tb (tCons tc tNil))) σ H (.bl (decide (x ∈ getL W.marks h))) := fun H1 e1 Q q =>
  ha H1 e1 _ fun H2 e2 => by
    obtain ⟨dx, d1, d2, ho, _⟩ := (vw.ex (e1.trans e2)).ob
    refine ⟨p, dx, _, rfl, ho, by rfl, ?_⟩
    refine hb H2 (e1.trans e2) _ fun H3 e3 => hc H3 ((e1.trans e2).trans e3) _ fun H4 e4 => ?_
    exact ⟨p, W, h, x, rfl, vw.ex ((e1.trans e2).trans (e3.trans e4)), fun H5 e5 => q H5 (e2.trans (e3.trans (e4.trans e5)))⟩
/-- view.many -/
theorem ev_many {p : Addr} (vw : ViewAt K C H p W) (n1 : NoAttr K C "many") (cl : Cls K C) (ha : Ev ta σ H (.ref p)) : Ev (tFld K ta "many") σ H (.int (W.many : Int)) := fun H1 e1 Q q =>
  ha H1 e1 _ fun H2 e2 => by
    obtain ⟨dx, d1, d2, ho, _⟩ := (vw.ex (e1.trans e2)).ob
    exact ⟨p, C, dx, _, _, rfl, ho, cl, n1, rfl, q H2 e2⟩
end
section
variable {K : PySem.W.Frag} {σ : L2.St} {H H' : Hp} {ta tb te tx : TE} {wi : TI} {g : TG} {α : Type} {l : List α} {enc : α → PyData}
/-- [e for ..], what comes told by R -/
theorem lc_gen {S : Hp → Hp → Prop} {vs : List Nat} {Q : VK} (R : Hp → Addr → α → V → Hp → Prop) (hz : l.length ≤ 50000)
    (m1 : ∀ H1 D a v H' H'', Ex H' H'' → R H1 D a v H' → R H1 D a v H'') (m2 : ∀ H1 D a v H' k k', H1 D = none → H' D = some (.lst k) → R H1 D a v H' → R H1 D a v (upd H' D (.lst k')))
    (h : Src S K wi σ H (l.map enc)) (hS : ∀ H1 H', Ex H1 H' → S H1 H')
    (hs : ∀ H1 D, Ex H H1 → H1 D = none → ∀ a ∈ l, ∀ x H2 (Q2 : L2.St → Hp → Prop), Ex H1 H2 → (∃ k, H2 D = some (.lst k)) → TD K H2 x (enc a) → (∀ σ2, wipe σ2 vs = wipe σ vs →
      (∀ H3, Ex H2 H3 → ∀ Q3 : VK, (∀ v H4, Ex H3 H4 → R H1 D a v H4 → Q3 v H4) → te σ2 H3 Q3) → Q2 σ2 H2) → g x (wipe σ vs) H2 Q2)
    (hd : ∀ H1 D H' k, Ex H H1 → H1 D = none → Ex H1 H' → H' D = some (.lst k) → k.length = l.length → (∀ (i : Nat) a v, l[i]? = some a → k[i]? = some v → R H1 D a v H') → Q (.ref D) H') : tLc wi g tYes te vs σ H Q := by
  refine lc_wk (K := K) (S := S) h (fun H1 D i H' => H1 D = none ∧ Ex H1 H' ∧ ∃ k : List V, H' D = some (.lst k) ∧ k.length = i ∧ ∀ (j : Nat) a v, l[j]? = some a → k[j]? = some v → R H1 D a v H') ?_ (fun H1 D i H' _ p => hS _ _ p.2.1) ?_ ?_
  · intro H1 D e1 n1
    exact ⟨n1, Ex.new n1, [], upd_same, rfl, fun j a v _ hk => by simp at hk⟩
  · rintro H1 D i d x H' H2 e1 n1 hd ⟨_, e2, k, hk, hl, hf⟩ e3 tx
    rw [List.getElem?_map] at hd
    cases hli : l[i]? with
    | none => rw [hli] at hd; cases hd
    | some a =>
      rw [hli] at hd
      cases hd
      have il : i < l.length := (List.getElem?_eq_some_iff.mp hli).1
      refine hs H1 D e1 n1 a (List.mem_of_getElem? hli) x H2 _ (e2.trans e3) ⟨k, e3 _ _ hk⟩ tx fun σ2 w2 hval => ⟨w2, ?_⟩
      show te σ2 H2 _
      refine hval H2 (Ex.refl _) _ fun v H4 e5 r => ?_
      have e := e3.trans e5
      have hD := e _ _ hk
      refine ⟨k, hD, sz_lt (by omega), n1, Ex.mut (e2.trans e) n1, k ++ [v], upd_same, by simp [hl], ?_⟩
      intro j b u hb hu
      refine m2 H1 D b u H4 k _ n1 hD ?_
      by_cases hj : j < k.length
      · rw [List.getElem?_append_left hj] at hu
        exact m1 H1 D b u _ _ e (hf j b u hb hu)
      · rw [List.getElem?_append_right (by omega)] at hu
        have : j = i := by
          have := (List.getElem?_eq_some_iff.mp hu).1
          simp at this
          omega
        subst this
        rw [hli] at hb
        cases hb
        rw [hl, Nat.sub_self] at hu
        cases hu
        exact r
  · rintro H1 D H' e1 n1 ⟨_, e2, k, hk, hl, hf⟩
    rw [List.length_map] at hl
    exact hd H1 D H' k e1 n1 e2 hk hl hf
end
section
variable {σ : L2.St} {H : Hp} {te : TE} {tz : TS} {D : Ends} {i : Nat}
theorem q_raw (h : te σ H fun v H1 => tz D (σ.set i (some v)) H1) : tSeq (tAsg te (gName i)) tz D σ H := h
theorem r_raw (h : te σ H D.rt) : tRet te D σ H := h
theorem d_raw (h : te σ H fun _ H1 => D.nx σ H1) : tDrop te D σ H := h
end
end K33
set_option autoImplicit false
set_option Elab.async false
set_option linter.all false
set_option maxRecDepth 100000
set_option maxHeartbeats 4000000
namespace K33
open PySem PySem.Spec PyProof.Rows L2 Evl
def lettersS : Str := "abcdefghijklmnopqrstuvwxyz"
def WordOk (z : Str) : Prop := 1 ≤ z.length ∧ z.length ≤ 8 ∧ ∀ c ∈ z.cps.toList, c ∈ lettersS.cps.toList
/-- the module's constants -/
structure Cst (K : PySem.W.Frag) (w : World) (mg : Str → Option Value) : Prop where
  handed : ∃ a, mg "HANDED" = some (.ref a) ∧ ∀ H, SqT K H a [.str "must", .str "may"]
  letters : ∃ t, mg "LETTERS" = some (.str lettersS t)
  longest : ∃ t, mg "LONGEST" = some (.int 8 t)
  about : ∃ a, mg "ABOUT" = some (.ref a) ∧ KDct K w a "and" (.str "or") ∧ KDct K w a "or" (.str "and") ∧ KDct K w a "must" (.str "may") ∧ KDct K w a "may" (.str "must")
def inners : Say Str → List (Say Str)
  | .letter _ => []
  | .neg s => [s]
  | .conj l => l
  | .disj l => l
  | .must _ s => [s]
  | .may _ s => [s]
section
variable {P : Program} {w : World} {K : PySem.W.Frag} {mg : Str → Option Value} {base : Heap}
abbrev sp_inner_sayings (K : PySem.W.Frag) : Sp := fun vs H Q _ => ∃ (n : Nat) (s : Say Str), TDs K H vs [dSay s] ∧ Good WordOk n s ∧ ∀ v H', Ex H H' → TD K H' v (.tuple ((inners s).map dSay)) → Q v H'
theorem has_inner_sayings (D : DefAt K mg "inner_sayings" st_inner_sayings ["saying"]) (B : Blt mg) (C : Cst K w mg) : Has P w K mg base CX0 1 "inner_sayings" ["saying"] (sp_inner_sayings K) := by
  obtain ⟨aH, gH, hH⟩ := C.handed
  refine D.ok sc_inner_sayings (fun vs H Q E h => ?_) (fun f cdv A outer s H vs Q E hr h => ?_)
  · obtain ⟨n, s, t, _⟩ := h
    exact t.len
  · obtain ⟨n, s, t, g, k⟩ := h
    refine ⟨_, pss_cons (ps_asg (pv 0) (k_star K 3 2 rfl (pgs_cons (pg_name (i := 1) sc_inner_sayings.nd rfl (.inl rfl)) (pgs_cons (pg_name (i := 2) sc_inner_sayings.nd rfl (.inl rfl)) (pgs_star (pg_name (i := 3) sc_inner_sayings.nd rfl (.inl rfl)) pgs_nil))) (by decide)))
      (pss_cons (ps_if (pt_cmpR op_eq (pv 1) pe_str (nomark _)) (pss_one (ps_ret (pe_tup pa_nil))) pss_nil)
      (pss_cons (ps_if (pt_cmpR (k_in K) (pv 1) (pe_tup (pa_cons pe_str (pa_cons pe_str pa_nil))) (by rfl)) (pss_one (ps_ret (pv 2))) pss_nil)
      (pss_one (ps_ret (pe_ifExp (pt_cmpR (k_in K) (pv 1) (pe_glob (by rfl) gH (v := .ref aH) rfl) (by rfl)) (pe_callTy (k_tuple K) (by rfl) B.b_tuple (by decide +kernel) (pa_cons (pv 3) pa_nil))
        (pe_callTy (k_tuple K) (by rfl) B.b_tuple (by decide +kernel) (pa_cons (pe_op op_cat (pe_lst (pa_cons (pv 2) pa_nil)) (pv 3)) pa_nil))))))), ?_⟩
    obtain ⟨vs, r, rfl, ts, t⟩ := t.consI
    cases t.nilI
    have hand : ∀ {σ : L2.St} {H : Hp}, ED K (tC (.ref aH)) σ H (· = .tuple ([("must" : Str), ("may" : Str)].map PyData.str)) := fun {σ H} => ed_of ev_c (.tup (hH H) (.cons (.str _) (.cons (.str _) .nil)))
    have andor : ∀ {σ : L2.St} {H : Hp}, ED K (tTup (tCons (tC (.str "and")) (tCons (tC (.str "or")) tNil))) σ H (· = .tuple ([("and" : Str), ("or" : Str)].map PyData.str)) := fun {σ H} => ed_tup (eds_c ed_str (eds_c ed_str eds_nil)) (by decide)
    cases g with
    | letter q =>
      rw [dSay_letter] at ts
      refine ⟨_, rfl, g_star2 ts (by simp) fun v u p xs np tv tu txs => ?_⟩
      obtain rfl := tv.strI
      refine q_ifT (et_eqS (ev_var rfl) ev_c (by decide +kernel)) fun H1 e1 => ?_
      refine s_retD (K := K) (ed_tup eds_nil (by simp)) fun v d H2 e2 t2 p2 => ?_
      subst p2
      exact k v H2 ((Ex.new np).trans (e1.trans e2)) t2
    | @neg m s1 q =>
      rw [dSay_neg] at ts
      refine ⟨_, rfl, g_star2 ts (by simp) fun v u p xs np tv tu txs => ?_⟩
      obtain rfl := tv.strI
      obtain rfl := txs.nilI
      refine q_ifF (et_eqS (ev_var rfl) ev_c (by decide +kernel)) fun H1 e1 => ?_
      refine q_ifF (et_inS (ev_var rfl) andor (by decide +kernel)) fun H2 e2 => ?_
      have l2 : H2 p = some (.lst []) := e2 _ _ (e1 _ _ upd_same)
      refine s_retD (K := K) (ed_ifF (et_inS (ev_var rfl) hand (by decide +kernel)) (ed_tuple (ds := [dSay s1]) ?_)) fun v d H3 e3 t3 p3 => ?_
      · intro H3 e3 Q' q'
        refine (el_lst (ea_cons (ev_var (v := u) rfl) ea_nil) (by simp)) H3 e3 _ fun l H4 nl e4 hl => ?_
        refine ⟨_, rfl, l, p, _, _, rfl, rfl, hl, e4 _ _ (e3 _ _ l2), by simp; exact sz_of (by decide), fun m nm => ?_⟩
        refine q' m [u] _ _ (fresh_back e4 nm) (e4.trans (Ex.new nm)) upd_same (.cons ((tu.ex (Ex.new np)).ex (e1.trans (e2.trans (e3.trans (e4.trans (Ex.new nm)))))) .nil) rfl
      · subst p3
        exact k v H3 ((Ex.new np).trans (e1.trans (e2.trans e3))) t3
    | conj z q =>
      rw [dSay_conj] at ts
      refine ⟨_, rfl, g_star2 ts (by simp) fun v u p xs np tv tu txs => ?_⟩
      obtain rfl := tv.strI
      refine q_ifF (et_eqS (ev_var rfl) ev_c (by decide +kernel)) fun H1 e1 => ?_
      refine q_ifT (et_inS (ev_var rfl) andor (by decide +kernel)) fun H2 e2 => ?_
      have e3 := (Ex.new (o := .lst xs) np).trans (e1.trans e2)
      refine ⟨u, rfl, k u H2 e3 (tu.ex e3)⟩
    | disj z q =>
      rw [dSay_disj] at ts
      refine ⟨_, rfl, g_star2 ts (by simp) fun v u p xs np tv tu txs => ?_⟩
      obtain rfl := tv.strI
      refine q_ifF (et_eqS (ev_var rfl) ev_c (by decide +kernel)) fun H1 e1 => ?_
      refine q_ifT (et_inS (ev_var rfl) andor (by decide +kernel)) fun H2 e2 => ?_
      have e3 := (Ex.new (o := .lst xs) np).trans (e1.trans e2)
      refine ⟨u, rfl, k u H2 e3 (tu.ex e3)⟩
    | must z q =>
      rw [dSay_must] at ts
      refine ⟨_, rfl, g_star2 ts (by simp) fun v u p xs np tv tu txs => ?_⟩
      obtain rfl := tv.strI
      refine q_ifF (et_eqS (ev_var rfl) ev_c (by decide +kernel)) fun H1 e1 => ?_
      refine q_ifF (et_inS (ev_var rfl) andor (by decide +kernel)) fun H2 e2 => ?_
      have l2 : H2 p = some (.lst xs) := e2 _ _ (e1 _ _ upd_same)
      refine s_retD (K := K) (ed_ifT (et_inS (ev_var rfl) hand (by decide +kernel)) (ed_tupleL (ev_var (v := .ref p) rfl) (sq_of l2) ((txs.ex (Ex.new np)).ex (e1.trans e2)))) fun v d H3 e3 t3 p3 => ?_
      subst p3
      exact k v H3 ((Ex.new np).trans (e1.trans (e2.trans e3))) t3
    | may z q =>
      rw [dSay_may] at ts
      refine ⟨_, rfl, g_star2 ts (by simp) fun v u p xs np tv tu txs => ?_⟩
      obtain rfl := tv.strI
      refine q_ifF (et_eqS (ev_var rfl) ev_c (by decide +kernel)) fun H1 e1 => ?_
      refine q_ifF (et_inS (ev_var rfl) andor (by decide +kernel)) fun H2 e2 => ?_
      have l2 : H2 p = some (.lst xs) := e2 _ _ (e1 _ _ upd_same)
      refine s_retD (K := K) (ed_ifT (et_inS (ev_var rfl) hand (by decide +kernel)) (ed_tupleL (ev_var (v := .ref p) rfl) (sq_of l2) ((txs.ex (Ex.new np)).ex (e1.trans e2)))) fun v d H3 e3 t3 p3 => ?_
      subst p3
      exact k v H3 ((Ex.new np).trans (e1.trans (e2.trans e3))) t3
end
end K33
set_option autoImplicit false
set_option Elab.async false
set_option linter.all false
set_option maxRecDepth 100000
set_option maxHeartbeats 4000000
namespace K33
open PySem PySem.Spec PyProof.Rows L2 Evl
section
variable {P : Program} {w : World} {K : PySem.W.Frag} {mg : Str → Option Value} {base : Heap} {C : Addr}
/-- the Bools of f at the first n numbers -/
abbrev bools (n : Nat) (f : Nat → Bool) : List Bool := (List.range n).map f
theorem bools_succ (n : Nat) (f : Nat → Bool) : bools (n + 1) f = bools n f ++ [f n] := by simp [bools, List.range_succ]
theorem bools_get {n i : Nat} {f : Nat → Bool} (h : i < n) : (bools n f)[i]? = some (f i) := by simp [bools, List.getElem?_map, List.getElem?_range h]
theorem bools_len (n : Nat) (f : Nat → Bool) : (bools n f).length = n := by simp [bools]
/-- a list appended to in a loop -/
def AppB (H0 : Hp) (F : Addr) (bs : List Bool) (H' : Hp) : Prop := Ex H0 H' ∧ H0 F = none ∧ H' F = some (.lst (bs.map V.bl))
abbrev sp_step_truths (K : PySem.W.Frag) : Sp := fun vs H Q _ => ∃ (m : Nat) (W : Web Str) (v : V) (word hand : Str) (a : Addr) (f : Nat → Bool), vs = [v, .str word, .str hand, .ref a] ∧ TD K H v (dWeb W) ∧ WebOk m W ∧ H a = some (.lst ((bools W.many f).map V.bl)) ∧
  ∀ p H', H p = none → Ex H H' → H' p = some (.lst ((bools W.many fun x => if word = "must" then (ends W hand x).all f else (ends W hand x).any f).map V.bl)) → Q (.ref p) H'
theorem has_step_truths (D : DefAt K mg "step_truths" st_step_truths ["web", "word", "hand", "inner"]) (B : Blt mg) (VC : ViewC K C) (GV : HasC P w K mg base CX0 2 "WebView" C ["self", "web"] (sp_view K C)) (GL : HasM P w K mg base CX0 1 C "led_from" ["self", "hand", "world"] (sp_led_from K C)) :
    Has P w K mg base CX0 4 "step_truths" ["web", "word", "hand", "inner"] (sp_step_truths K) := by
  refine D.ok sc_step_truths (fun vs H Q E h => ?_) (fun f cdv A outer s H vs Q E hr h => ?_)
  · obtain ⟨m, W, v, word, hand, a, f, rfl, _⟩ := h
    rfl
  · obtain ⟨m, W, v, word, hand, a, f, rfl, tv, ok, ha, k⟩ := h
    have nd := sc_step_truths.nd
    refine ⟨_, pss_cons (ps_set (i := 4) nd rfl (.inl rfl) (pe_hasC GV hr (by rfl) pass0 (pa_cons (pv 0) pa_nil)))
      (pss_cons (ps_set (i := 5) nd rfl (.inl rfl) (pe_lst pa_nil))
      (pss_cons (ps_for PassesOwn.never rfl (pi_range1 (by rfl) B.b_range (pa_cons (k_fld K (pv 4)) pa_nil)) (pg_name (i := 6) nd rfl (.inl rfl))
        (pss_cons (ps_setLc (i := 7) (own := [("end", 8)]) (g := gName 8) rfl nd rfl rfl (sw_true rfl rfl rfl (by decide +kernel)) (k_pil K (pe_hasM VC.cl GL (hr.mono (by omega)) (pv 4) pass0 (pa_cons (pv 2) (pa_cons (pv 6) pa_nil)))) (blk (N := ["web", "word", "hand", "inner", "view", "found", "world", "ends", "end"]) (sc := defScope st_step_truths) (by decide +kernel))
            (fun _ _ _ _ _ => pg_name (i := 8) nd rfl (.inl rfl)) (fun _ _ _ _ _ => pts_nil) (fun _ _ _ _ _ => pe_ix (k_ixL K) (pv 3) (pv 8) (fun _ _ => rfl)))
        (pss_one (ps_expr (pe_bm PySem.F.plainAttrs_list PySem.F.slot_list_append PySem.F.type_list_append mt_append (pv 5) (pa_cons (pe_ifExp (pt_cmpR op_eq (pv 1) pe_str (nomark _)) (pe_callB (k_all K rfl) (by rfl) B.b_all (by decide +kernel) (pa_cons (pv 7) pa_nil)) (pe_callB (k_any K rfl) (by rfl) B.b_any (by decide +kernel) (pa_cons (pv 7) pa_nil))) pa_nil))))))
      (pss_one (ps_ret (pv 5))))), ?_⟩
    refine q_view ok (ed_var rfl tv) fun p H1 np e1 vw _ => ?_
    refine q_asgL (el_lst ea_nil (by simp)) fun F H2 nF e2 hF => ?_
    let g : Nat → Bool := fun x => if word = "must" then (ends W hand x).all f else (ends W hand x).any f
    refine q_for (K := K) (src_rngT (n := W.many) (ev_many (vw.ex e2) VC.n1 VC.cl (ev_var rfl)) (by have := ok.many; have := ok.lim; omega)) (fun _ i σ H' => (∃ b e, σ = [some v, some (.str word), some (.str hand), some (.ref a), some (.ref p), some (.ref F), b, e, none]) ∧ AppB H1 F (bools i g) H')
      (fun H3 e3 => ⟨⟨none, none, rfl⟩, e2.trans e3, nF, e3 _ _ hF⟩) (fun _ _ _ _ _ => trivial) ?_ ?_
    · rintro H3 i d x σ' H4 H5 e3 hd ⟨⟨b, e, rfl⟩, a1, a2, a3⟩ e4 tx
      rw [List.getElem?_map] at hd
      have il : i < W.many := by
        cases q : (List.range W.many)[i]? with
        | none => rw [q] at hd; cases hd
        | some j => simpa using (List.getElem?_eq_some_iff.mp q).1
      rw [List.getElem?_range il] at hd
      cases hd
      obtain rfl := tx.intI
      have aF : a ≠ F := ne_of_none (e1 _ _ ha) nF
      have ha5 : ∀ {H6 : Hp}, Ex H5 H6 → H6 a = some (.lst ((bools W.many f).map V.bl)) := fun e6 => e6 _ _ (e4 _ _ (a1 _ _ (e1 _ _ ha)))
      refine q_asgBl (bs := (ends W hand i).map f) (ebl_of ((eld_lcA (enc := fun (y : Nat) => PyData.int (y : Int)) (fun y => PyData.bool (f y)) (src_il (eil_led (vw.ex (a1.trans e4)) (ev_var rfl) (ev_var rfl) (ev_var rfl))) (by have := ok.ends_len hand i; omega) fun y hy x H6 Q6 e6 tx kx => ?_).imp fun ds hq => by rw [hq, List.map_map]; rfl)) fun l H6 nl e6 hl => ?_
      · obtain rfl := tx.intI
        exact kx _ rfl (ed_b (ev_ixB (ev_var rfl) (sq_of (ha5 e6)) (ev_var rfl) (bools_get (ok.wf.ends hy))))
      · have h6 : H6 F = some (.lst ((bools i g).map V.bl)) := e6 _ _ (e4 _ _ a3)
        refine s_app (v := .bl (g i)) h6 (ev_var rfl) (ev_if (b := decide (word = "must")) (et_eqS (ev_var rfl) ev_c rfl) (fun hw => ?_) fun hw => ?_) (by rw [List.length_map, bools_len]; have := ok.many; have := ok.lim; omega) fun H7 e7 => ?_
        · have := of_decide_eq_true hw
          refine ev_is (ev_allL (bs := (ends W hand i).map f) (ev_var rfl) (sq_of hl)) ?_
          simp only [g]
          rw [if_pos this, List.all_map]
          rfl
        · have := of_decide_eq_false hw
          refine ev_is (ev_anyL (bs := (ends W hand i).map f) (ev_var rfl) (sq_of hl)) ?_
          simp only [g]
          rw [if_neg this, List.any_map]
          rfl
        · refine ⟨⟨_, _, rfl⟩, Ex.mut (a1.trans (e4.trans (e6.trans e7))) a2, a2, ?_⟩
          rw [upd_same, bools_succ, List.map_append]
          rfl
    · rintro H3 σ' H4 e3 ⟨⟨b, e, rfl⟩, a1, a2, a3⟩
      rw [List.length_map, List.length_range] at a3
      exact ⟨_, rfl, k F H4 (fresh_back e1 a2) (e1.trans a1) a3⟩
abbrev sp_joined_truths (K : PySem.W.Frag) (n : Nat) : Sp := fun vs H Q _ => ∃ (m : Nat) (W : Web Str) (v u : V) (word : Str) (l : List (Say Str)), vs = [v, .str word, u] ∧ TD K H v (dWeb W) ∧ WebOk m W ∧ TD K H u (.tuple (l.map dSay)) ∧ l.length ≤ 1000 ∧ (∀ s ∈ l, Good WordOk n s) ∧
  ∀ p H', H p = none → Ex H H' → H' p = some (.lst ((bools W.many fun x => if word = "and" then l.all fun s => Holds W s x else l.any fun s => Holds W s x).map V.bl)) → Q (.ref p) H'
abbrev sp_truths (K : PySem.W.Frag) (n : Nat) : Sp := fun vs H Q _ => ∃ (m : Nat) (W : Web Str) (v u : V) (s : Say Str), vs = [v, u] ∧ TD K H v (dWeb W) ∧ WebOk m W ∧ TD K H u (dSay s) ∧ Good WordOk n s ∧
  ∀ p H', H p = none → Ex H H' → H' p = some (.lst ((bools W.many (Holds W s)).map V.bl)) → Q (.ref p) H'
theorem has_joined_truths (D : DefAt K mg "joined_truths" st_joined_truths ["web", "word", "some"]) (B : Blt mg) {n j : Nat} (G : Has P w K mg base CX0 j "truths_in" ["web", "saying"] (sp_truths K n)) :
    Has P w K mg base CX0 (j + 1) "joined_truths" ["web", "word", "some"] (sp_joined_truths K n) := by
  refine D.ok sc_joined_truths (fun vs H Q E h => ?_) (fun f cdv A outer s H vs Q E hr h => ?_)
  · obtain ⟨m, W, v, u, word, l, rfl, _⟩ := h
    rfl
  · obtain ⟨m, W, v, u, word, l, rfl, tv, ok, tu, hz, gd, k⟩ := h
    have nd := sc_joined_truths.nd
    refine ⟨_, pss_cons (ps_setLc (i := 3) (own := [("one", 7)]) (g := gName 7) rfl nd rfl rfl (sw_true rfl rfl rfl (by decide +kernel)) (k_pit K (pv 2)) (blk (N := ["web", "word", "some", "rows", "found", "world", "own", "one", "row"]) (sc := defScope st_joined_truths) (by decide +kernel))
            (fun _ _ _ _ _ => pg_name (i := 7) nd rfl (.inl rfl)) (fun _ _ _ _ _ => pts_nil) (fun _ _ _ _ _ => pe_has G hr (by rfl) pass0 (pa_cons (pv 0) (pa_cons (pv 7) pa_nil))))
      (pss_cons (ps_set (i := 4) nd rfl (.inl rfl) (pe_lst pa_nil))
      (pss_cons (ps_for PassesOwn.never rfl (pi_range1 (by rfl) B.b_range (pa_cons (pe_ix (k_ixT K) (pv 0) pe_int (fun _ _ => rfl)) pa_nil)) (pg_name (i := 5) nd rfl (.inr rfl))
        (pss_cons (ps_setLc (i := 6) (own := [("row", 8)]) (g := gName 8) rfl nd rfl rfl (sw_true rfl rfl rfl (by decide +kernel)) (k_pil K (pv 3)) (blk (N := ["web", "word", "some", "rows", "found", "world", "own", "one", "row"]) (sc := defScope st_joined_truths) (by decide +kernel))
            (fun _ _ _ _ _ => pg_name (i := 8) nd rfl (.inl rfl)) (fun _ _ _ _ _ => pts_nil) (fun _ _ _ _ _ => pe_ix (k_ixL K) (pv 8) (pv 5) (fun _ _ => rfl)))
        (pss_one (ps_expr (pe_bm PySem.F.plainAttrs_list PySem.F.slot_list_append PySem.F.type_list_append mt_append (pv 4) (pa_cons (pe_ifExp (pt_cmpR op_eq (pv 1) pe_str (nomark _)) (pe_callB (k_all K rfl) (by rfl) B.b_all (by decide +kernel) (pa_cons (pv 6) pa_nil)) (pe_callB (k_any K rfl) (by rfl) B.b_any (by decide +kernel) (pa_cons (pv 6) pa_nil))) pa_nil))))))
      (pss_one (ps_ret (pv 4))))), ?_⟩
    have mz : W.many ≤ 7 := Nat.le_trans ok.many ok.lim
    refine q_raw ?_
    refine lc_gen (K := K) (S := Kt) (l := l) (enc := dSay) (fun H1 D s v H' => ∃ q, v = .ref q ∧ q ≠ D ∧ H' q = some (.lst ((bools W.many (Holds W s)).map V.bl))) (by omega) (fun H1 D a v H' H'' e ⟨q, h1, h2, h3⟩ => ⟨q, h1, h2, e _ _ h3⟩) (fun H1 D a v H' k k' n hD ⟨q, h1, h2, h3⟩ => ⟨q, h1, h2, by rw [upd_ne h2]; exact h3⟩) ?_ (fun _ _ => Kt.ex) ?_ ?_
    · exact src_tup (ed_var (v := u) rfl tu)
    · intro H1 D e1 n1 s0 hs0 x H2 Q2 e2 hD tx kx
      refine kx _ rfl fun H3 e3 Q3 q3 => ?_
      refine ⟨v, rfl, x, rfl, ?_⟩
      refine ⟨m, W, v, x, s0, rfl, tv.ex (e1.trans (e2.trans e3)), ok, tx.ex e3, gd s0 hs0, fun p H4 n4 e4 h4 => q3 _ H4 e4 ⟨p, rfl, ?_, h4⟩⟩
      obtain ⟨k0, hk0⟩ := hD
      exact (ne_of_none (e3 _ _ hk0) n4).symm
    · intro H0 R H1 ks e0 n0 e1 hR lR fR
      dsimp only
      refine q_asgL (el_lst ea_nil (by simp)) fun F H2 nF e2 hF => ?_
      let g : Nat → Bool := fun x => if word = "and" then l.all fun s => Holds W s x else l.any fun s => Holds W s x
      have ee := e0.trans e1
      refine q_for (K := K) (src_rngT (n := W.many) (ev_int (ed_ix (i := 0) (ed_var rfl (tv.ex (ee.trans e2))) ev_c rfl)) (by omega)) (fun _ i σ H' => (∃ b e, σ = [some v, some (.str word), some u, some (.ref R), some (.ref F), b, e, none, none]) ∧ AppB H1 F (bools i g) H')
        (fun H3 e3 => ⟨⟨none, none, rfl⟩, e2.trans e3, nF, e3 _ _ hF⟩) (fun _ _ _ _ _ => trivial) ?_ ?_
      · rintro H3 i d x σ' H4 H5 e3 hd ⟨⟨b, e, rfl⟩, a1, a2, a3⟩ e4 tx
        rw [List.getElem?_map] at hd
        have il : i < W.many := by
          cases q : (List.range W.many)[i]? with
          | none => rw [q] at hd; cases hd
          | some j => simpa using (List.getElem?_eq_some_iff.mp q).1
        rw [List.getElem?_range il] at hd
        cases hd
        obtain rfl := tx.intI
        have h5 := a1.trans e4
        have row : ∀ (j : Nat) (y : V), ks[j]? = some y → ∃ s, l[j]? = some s ∧ ∃ q, y = .ref q ∧ H5 q = some (.lst ((bools W.many (Holds W s)).map V.bl)) := fun j y hy => by
          have jl : j < l.length := by rw [← lR]; exact (List.getElem?_eq_some_iff.mp hy).1
          obtain ⟨q, h1, h2, h3⟩ := fR j l[j] y (by simp [jl]) hy
          exact ⟨l[j], by simp [jl], q, h1, h5 _ _ h3⟩
        let val : Nat → Bool := fun j => match l[j]? with | some s => Holds W s i | none => false
        have gv : given ks.length (fun _ => true) (fun j => V.bl (val j)) = (l.map fun s => Holds W s i).map V.bl := by
          unfold given
          rw [List.filter_eq_self.mpr (fun _ _ => rfl), lR]
          apply List.ext_getElem?
          intro j
          rw [List.getElem?_map, List.getElem?_map, List.getElem?_map]
          by_cases jl : j < l.length
          · rw [List.getElem?_range jl]
            simp only [val, Option.map_some]
            rw [List.getElem?_eq_getElem jl]
            rfl
          · have h1 : (List.range l.length)[j]? = none := by simp; omega
            have h2 : l[j]? = none := by simp; omega
            rw [h1, h2]
            rfl
        refine q_asgL (el_lcL (K := K) (xs := ks) (fun _ => true) (fun j => V.bl (val j)) (ev_var rfl) (sq_of (h5 _ _ hR)) (by omega) (fun _ => rfl) (fun _ _ _ _ _ => fun H2 _ _ q => q H2 (Ex.refl _)) fun j y H6 e6 hy _ => ?_) fun L H6 nL e6 hL => ?_
        · obtain ⟨s1, hs1, q, rfl, hq⟩ := row j y hy
          have : val j = Holds W s1 i := by simp only [val, hs1]
          rw [this]
          exact ev_ixB (ev_var rfl) (sq_of (e6 _ _ hq)) (ev_var rfl) (bools_get il)
        · rw [gv] at hL
          have h6 : H6 F = some (.lst ((bools i g).map V.bl)) := e6 _ _ (e4 _ _ a3)
          refine s_app (v := .bl (g i)) h6 (ev_var rfl) (ev_if (b := decide (word = "and")) (et_eqS (ev_var rfl) ev_c rfl) (fun hw => ?_) fun hw => ?_) (by rw [List.length_map, bools_len]; omega) fun H7 e7 => ?_
          · have := of_decide_eq_true hw
            refine ev_is (ev_allL (bs := l.map fun s => Holds W s i) (ev_var rfl) (sq_of hL)) ?_
            simp only [g]
            rw [if_pos this, List.all_map]
            rfl
          · have := of_decide_eq_false hw
            refine ev_is (ev_anyL (bs := l.map fun s => Holds W s i) (ev_var rfl) (sq_of hL)) ?_
            simp only [g]
            rw [if_neg this, List.any_map]
            rfl
          · refine ⟨⟨_, _, rfl⟩, Ex.mut (h5.trans (e6.trans e7)) a2, a2, ?_⟩
            rw [upd_same, bools_succ, List.map_append]
            rfl
      · rintro H3 σ' H4 e3 ⟨⟨b, e, rfl⟩, a1, a2, a3⟩
        rw [List.length_map, List.length_range] at a3
        exact ⟨_, rfl, k F H4 (fresh_back ee a2) (ee.trans a1) a3⟩
end
end K33
set_option autoImplicit false
set_option Elab.async false
set_option linter.all false
set_option maxRecDepth 100000
set_option maxHeartbeats 4000000
namespace K33
open PySem PySem.Spec PyProof.Rows L2 Evl
def anewD : Say Str → List PyData → PyData
  | .letter w, _ => dSay (.letter w)
  | .neg _, ds => .tuple (.str "not" :: ds)
  | .conj _, ds => .tuple [.str "and", .tuple ds]
  | .disj _, ds => .tuple [.str "or", .tuple ds]
  | .must h _, ds => .tuple (.str "must" :: .str h :: ds)
  | .may h _, ds => .tuple (.str "may" :: .str h :: ds)
section
variable {P : Program} {w : World} {K : PySem.W.Frag} {mg : Str → Option Value} {base : Heap}
abbrev sp_made_anew (K : PySem.W.Frag) : Sp := fun vs H Q _ => ∃ (n : Nat) (s : Say Str) (v : V) (a : Addr) (xs : List V) (ds : List PyData), vs = [v, .ref a] ∧ TD K H v (dSay s) ∧ Good WordOk n s ∧ SqL K H a xs ∧ TDs K H xs ds ∧ ds.length ≤ 1000 ∧
  ∀ v H', Ex H H' → TD K H' v (anewD s ds) → Q v H'
theorem has_made_anew (D : DefAt K mg "made_anew" st_made_anew ["saying", "inner"]) (B : Blt mg) (C : Cst K w mg) : Has P w K mg base CX0 1 "made_anew" ["saying", "inner"] (sp_made_anew K) := by
  obtain ⟨aH, gH, hH⟩ := C.handed
  refine D.ok sc_made_anew (fun vs H Q E h => ?_) (fun f cdv A outer s H vs Q E hr h => ?_)
  · obtain ⟨n, s, v, a, xs, ds, rfl, _⟩ := h
    rfl
  · obtain ⟨n, s, va, a, xa, ds, rfl, ts, g, hl, tl, hz, k⟩ := h
    have nd := sc_made_anew.nd
    refine ⟨_, pss_cons (ps_asg (pv 0) (k_star K 3 2 rfl (pgs_cons (pg_name (i := 2) nd rfl (.inl rfl)) (pgs_cons (pg_name (i := 3) nd rfl (.inl rfl)) (pgs_star (pg_name (i := 4) nd rfl (.inl rfl)) pgs_nil))) (by decide)))
      (pss_cons (ps_if (pt_cmpR op_eq (pv 2) pe_str (nomark _)) (pss_one (ps_ret (pv 0))) pss_nil)
      (pss_cons (ps_if (pt_cmpR (k_in K) (pv 2) (pe_tup (pa_cons pe_str (pa_cons pe_str pa_nil))) (by rfl)) (pss_one (ps_ret (pe_tup (pa_cons (pv 2) (pa_cons (pe_callTy (k_tuple K) (by rfl) B.b_tuple (by decide +kernel) (pa_cons (pv 1) pa_nil)) pa_nil))))) pss_nil)
      (pss_one (ps_ret (pe_op op_catT (pe_ifExp (pt_cmpR (k_in K) (pv 2) (pe_glob (by rfl) gH (v := .ref aH) rfl) (by rfl)) (pe_tup (pa_cons (pv 2) (pa_cons (pv 3) pa_nil))) (pe_tup (pa_cons (pv 2) pa_nil)))
        (pe_callTy (k_tuple K) (by rfl) B.b_tuple (by decide +kernel) (pa_cons (pv 1) pa_nil))))))), ?_⟩
    have hand : ∀ {σ : L2.St} {H : Hp}, ED K (tC (.ref aH)) σ H (· = .tuple ([("must" : Str), ("may" : Str)].map PyData.str)) := fun {σ H} => ed_of ev_c (.tup (hH H) (.cons (.str _) (.cons (.str _) .nil)))
    have andor : ∀ {σ : L2.St} {H : Hp}, ED K (tTup (tCons (tC (.str "and")) (tCons (tC (.str "or")) tNil))) σ H (· = .tuple ([("and" : Str), ("or" : Str)].map PyData.str)) := fun {σ H} => ed_tup (eds_c ed_str (eds_c ed_str eds_nil)) (by decide)
    have inn : ∀ {i : Nat} {σ : L2.St} {H1 : Hp}, σ[i]? = some (some (.ref a)) → Ex H H1 → ED K (tCB (rTuple K) (tCons (tVar i) tNil)) σ H1 (· = .tuple ds) := fun hs e => ed_tupleL (ev_var hs) (ex_l e hl) (tl.ex e)
    cases g with
    | letter q =>
      rw [dSay_letter] at ts
      refine ⟨_, rfl, g_star2 ts (by simp) fun v u p xs np tv tu txs => ?_⟩
      obtain rfl := tv.strI
      refine q_ifT (et_eqS (ev_var rfl) ev_c (by decide +kernel)) fun H1 e1 => ?_
      have e := (Ex.new (o := .lst xs) np).trans e1
      exact ⟨va, rfl, k va H1 e (by rw [← dSay_letter] at ts; exact ts.ex e)⟩
    | @neg m s1 q =>
      rw [dSay_neg] at ts
      refine ⟨_, rfl, g_star2 ts (by simp) fun v u p xs np tv tu txs => ?_⟩
      obtain rfl := tv.strI
      refine q_ifF (et_eqS (ev_var rfl) ev_c (by decide +kernel)) fun H1 e1 => ?_
      refine q_ifF (et_inS (ev_var rfl) andor (by decide +kernel)) fun H2 e2 => ?_
      have e := (Ex.new (o := .lst xs) np).trans (e1.trans e2)
      refine s_retD (K := K) (ed_cat (ed_ifF (et_inS (ev_var rfl) hand (by decide +kernel)) (ed_tup (eds_c (ed_s (ev_var rfl)) eds_nil) (by simp))) (inn rfl e) (by simp) (by simp; omega)) fun v d H3 e3 t3 p3 => ?_
      subst p3
      exact k v H3 (e.trans e3) t3
    | @conj m l z q =>
      rw [dSay_conj] at ts
      refine ⟨_, rfl, g_star2 ts (by simp) fun v u p xs np tv tu txs => ?_⟩
      obtain rfl := tv.strI
      refine q_ifF (et_eqS (ev_var rfl) ev_c (by decide +kernel)) fun H1 e1 => ?_
      refine q_ifT (et_inS (ev_var rfl) andor (by decide +kernel)) fun H2 e2 => ?_
      have e := (Ex.new (o := .lst xs) np).trans (e1.trans e2)
      refine s_retD (K := K) (ed_tup (eds_c (ed_s (ev_var rfl)) (eds_c (inn rfl e) eds_nil)) (by simp)) fun v d H3 e3 t3 p3 => ?_
      subst p3
      exact k v H3 (e.trans e3) t3
    | @disj m l z q =>
      rw [dSay_disj] at ts
      refine ⟨_, rfl, g_star2 ts (by simp) fun v u p xs np tv tu txs => ?_⟩
      obtain rfl := tv.strI
      refine q_ifF (et_eqS (ev_var rfl) ev_c (by decide +kernel)) fun H1 e1 => ?_
      refine q_ifT (et_inS (ev_var rfl) andor (by decide +kernel)) fun H2 e2 => ?_
      have e := (Ex.new (o := .lst xs) np).trans (e1.trans e2)
      refine s_retD (K := K) (ed_tup (eds_c (ed_s (ev_var rfl)) (eds_c (inn rfl e) eds_nil)) (by simp)) fun v d H3 e3 t3 p3 => ?_
      subst p3
      exact k v H3 (e.trans e3) t3
    | @must m h s1 z q =>
      rw [dSay_must] at ts
      refine ⟨_, rfl, g_star2 ts (by simp) fun v u p xs np tv tu txs => ?_⟩
      obtain rfl := tv.strI
      obtain rfl := tu.strI
      refine q_ifF (et_eqS (ev_var rfl) ev_c (by decide +kernel)) fun H1 e1 => ?_
      refine q_ifF (et_inS (ev_var rfl) andor (by decide +kernel)) fun H2 e2 => ?_
      have e := (Ex.new (o := .lst xs) np).trans (e1.trans e2)
      refine s_retD (K := K) (ed_cat (ed_ifT (et_inS (ev_var rfl) hand (by decide +kernel)) (ed_tup (eds_c (ed_s (ev_var rfl)) (eds_c (ed_s (ev_var rfl)) eds_nil)) (by simp))) (inn rfl e) (by simp) (by simp; omega)) fun v d H3 e3 t3 p3 => ?_
      subst p3
      exact k v H3 (e.trans e3) t3
    | @may m h s1 z q =>
      rw [dSay_may] at ts
      refine ⟨_, rfl, g_star2 ts (by simp) fun v u p xs np tv tu txs => ?_⟩
      obtain rfl := tv.strI
      obtain rfl := tu.strI
      refine q_ifF (et_eqS (ev_var rfl) ev_c (by decide +kernel)) fun H1 e1 => ?_
      refine q_ifF (et_inS (ev_var rfl) andor (by decide +kernel)) fun H2 e2 => ?_
      have e := (Ex.new (o := .lst xs) np).trans (e1.trans e2)
      refine s_retD (K := K) (ed_cat (ed_ifT (et_inS (ev_var rfl) hand (by decide +kernel)) (ed_tup (eds_c (ed_s (ev_var rfl)) (eds_c (ed_s (ev_var rfl)) eds_nil)) (by simp))) (inn rfl e) (by simp) (by simp; omega)) fun v d H3 e3 t3 p3 => ?_
      subst p3
      exact k v H3 (e.trans e3) t3
abbrev sp_few (K : PySem.W.Frag) (n : Nat) : Sp := fun vs H Q _ => ∃ s : Say Str, TDs K H vs [dSay s] ∧ Good WordOk n s ∧ ∀ v H', Ex H H' → TD K H' v (dSay (few s)) → Q v H'
theorem DefAt.vac {x : Str} {st : Stmt} {ps : List Str} {sp : Sp} {CX : CXT} (D : DefAt K mg x st ps) (k : Nat) (h : ∀ vs H Q E, ¬ sp vs H Q E) : Has P w K mg base CX k x ps sp := by
  obtain ⟨f, fd, F, hm, hb⟩ := D
  exact ⟨f, fd, ⟨fun vs H Q E q => (h _ _ _ _ q).elim, fun A outer s H args us vs Q E _ _ _ _ q => (h _ _ _ _ q).elim⟩, hm, F.kp, hb⟩
theorem has_few (D : DefAt K mg "in_few_words" st_in_few_words ["saying"]) (B : Blt mg) (GI : Has P w K mg base CX0 1 "inner_sayings" ["saying"] (sp_inner_sayings K)) (GA : Has P w K mg base CX0 1 "made_anew" ["saying", "inner"] (sp_made_anew K)) :
    ∀ n, Has P w K mg base CX0 (n + 2) "in_few_words" ["saying"] (sp_few K n) := by
  intro n
  induction n with
  | zero => exact D.vac _ fun vs H Q E ⟨s, _, g, _⟩ => good_no g
  | succ n ih =>
    refine D.ok sc_in_few_words (fun vs H Q E h => ?_) (fun f cdv A outer s H vs Q E hr h => ?_)
    · obtain ⟨s, t, _⟩ := h
      exact t.len
    · obtain ⟨s0, t, g, k⟩ := h
      have nd := sc_in_few_words.nd
      have ix0 : ∀ {X : Cx}, IxR X (rIxT X.K) := ix_tup
      refine ⟨_, pss_cons (ps_setLc (i := 1) (own := [("one", 2)]) (g := gName 2) rfl nd rfl rfl (sw_true rfl rfl rfl (by decide +kernel)) (k_pit K (pe_has GI (hr.mono (by omega)) (by rfl) pass0 (pa_cons (pv 0) pa_nil))) (blk (N := ["saying", "inner", "one"]) (sc := defScope st_in_few_words) (by decide +kernel))
          (fun _ _ _ _ _ => pg_name (i := 2) nd rfl (.inl rfl)) (fun _ _ _ _ _ => pts_nil) (fun _ _ _ _ _ => pe_has ih hr (by rfl) pass0 (pa_cons (pv 2) pa_nil)))
        (pss_cons (ps_if (pt_cmpR op_eq (pe_ix (k_ixT K) (pv 0) pe_int (fun _ _ => rfl)) pe_str (nomark _)) (pss_one (ps_ret (pe_tup (pa_cons pe_str (pa_cons (pe_tup (pa_cons pe_str (pa_cons (pe_callTy (k_tuple K) (by rfl) B.b_tuple (by decide +kernel) (pa_cons
            (pe_lc (own := [("one", 2)]) (g := gName 2) rfl nd (k_pil K (pv 1)) (blk (N := ["saying", "inner", "one"]) (sc := defScope st_in_few_words) (by decide +kernel)) (fun _ _ _ _ _ => pg_name (i := 2) nd rfl (.inl rfl)) (fun _ _ _ _ _ => pts_nil) (fun _ _ _ _ _ => pe_tup (pa_cons pe_str (pa_cons (pv 2) pa_nil)))) pa_nil)) pa_nil))) pa_nil))))) pss_nil)
        (pss_cons (ps_if (pt_cmpR op_eq (pe_ix (k_ixT K) (pv 0) pe_int (fun _ _ => rfl)) pe_str (nomark _)) pss_never pss_nil)
        (pss_cons (ps_if (pt_cmpR op_eq (pe_ix (k_ixT K) (pv 0) pe_int (fun _ _ => rfl)) pe_str (nomark _)) (pss_one (ps_ret (pe_tup (pa_cons pe_str (pa_cons (pe_tup (pa_cons pe_str (pa_cons (pe_ix (k_ixT K) (pv 0) pe_int (fun _ _ => rfl)) (pa_cons
            (pe_tup (pa_cons pe_str (pa_cons (pe_ix (k_ixL K) (pv 1) pe_int (fun _ _ => rfl)) pa_nil))) pa_nil)))) pa_nil))))) pss_nil)
        (pss_one (ps_ret (pe_has GA (hr.mono (by omega)) (by rfl) pass0 (pa_cons (pv 0) (pa_cons (pv 1) pa_nil)))))))), ?_⟩
      obtain ⟨vs, r, rfl, ts, t⟩ := t.consI
      cases t.nilI
      have gin : ∀ s1 ∈ inners s0, Good WordOk n s1 := by
        cases g with
        | letter q => intro s1 h; cases h
        | neg q => intro s1 h; rw [List.mem_singleton.mp h]; exact q
        | conj z q => exact q
        | disj z q => exact q
        | must z q => intro s1 h; rw [List.mem_singleton.mp h]; exact q
        | may z q => intro s1 h; rw [List.mem_singleton.mp h]; exact q
      have lin : (inners s0).length ≤ 1000 := by
        cases g with
        | letter q => simp [inners]
        | neg q => simp [inners]
        | conj z q => exact z
        | disj z q => exact z
        | must z q => simp [inners]
        | may z q => simp [inners]
      refine q_asgLd (K := K) (eld_lcA (enc := dSay) (fun s1 => dSay (few s1)) (src_tup (ed_callS (P := (· = .tuple ((inners s0).map dSay))) (eds_c (ed_var rfl ts) eds_nil) fun vs H1 Q' e1 ts1 q1 => ⟨n + 1, s0, ts1, g, fun v H' e2 t2 => q1 v H' _ e2 t2 rfl⟩)).ex (by omega) fun s1 hs1 x H1 Q' e1 tx kx => ?_) fun p xs ds H1 np e1 hp txs hds => ?_
      · refine kx _ rfl (ed_callS (eds_c (ed_var rfl tx) eds_nil) fun vs H2 Q2 e2 ts2 q2 => ⟨s1, ts2, gin s1 hs1, fun v H' e3 t3 => q2 v H' _ e3 t3 rfl⟩)
      subst hds
      have s0at : ∀ {σ : L2.St} {H2 : Hp} {d : PyData} {ds : List PyData} {i : Nat}, σ[0]? = some (some vs) → Ex H H2 → dSay s0 = .tuple ds → ds[i]? = some d → ED K (tOp (rIxT K) (tVar 0) (tC (.int (i : Int)))) σ H2 (· = d) := fun h1 h2 h3 h4 => ed_ix (ed_var h1 (by rw [← h3]; exact ts.ex h2)) ev_c h4
      have hd0 : ∀ {σ : L2.St} {H2 : Hp} {z : Str} {ds : List PyData}, σ[0]? = some (some vs) → Ex H H2 → dSay s0 = .tuple (.str z :: ds) → Ev (tOp (rIxT K) (tVar 0) (tC (.int 0))) σ H2 (.str z) := fun h1 h2 h3 => ev_str (s0at (i := 0) h1 h2 h3 rfl)
      cases g with
      | @letter m z q =>
        refine q_ifF (et_eqS (hd0 rfl e1 (dSay_letter z)) ev_c (by decide +kernel)) fun H2 e2 => ?_
        refine q_ifF (et_eqS (hd0 rfl (e1.trans e2) (dSay_letter z)) ev_c (by decide +kernel)) fun H3 e3 => ?_
        refine q_ifF (et_eqS (hd0 rfl ((e1.trans e2).trans e3) (dSay_letter z)) ev_c (by decide +kernel)) fun H4 e4 => ?_
        have e := (e2.trans e3).trans e4
        exact ⟨_, rfl, _, rfl, n + 1, _, _, p, xs, _, rfl, ts.ex (e1.trans e), .letter q, sq_of (e _ _ hp), txs.ex e, by simp [inners], fun v H' e5 t5 => k v H' (e1.trans (e.trans e5)) (by simp only [few]; exact t5)⟩
      | @neg m s1 q =>
        refine q_ifF (et_eqS (hd0 rfl e1 (dSay_neg s1)) ev_c (by decide +kernel)) fun H2 e2 => ?_
        refine q_ifF (et_eqS (hd0 rfl (e1.trans e2) (dSay_neg s1)) ev_c (by decide +kernel)) fun H3 e3 => ?_
        refine q_ifF (et_eqS (hd0 rfl ((e1.trans e2).trans e3) (dSay_neg s1)) ev_c (by decide +kernel)) fun H4 e4 => ?_
        have e := (e2.trans e3).trans e4
        exact ⟨_, rfl, _, rfl, n + 1, _, _, p, xs, _, rfl, ts.ex (e1.trans e), .neg q, sq_of (e _ _ hp), txs.ex e, by simp [inners], fun v H' e5 t5 => k v H' (e1.trans (e.trans e5)) (by simp only [few, dSay_neg]; exact t5)⟩
      | @conj m l z q =>
        refine q_ifF (et_eqS (hd0 rfl e1 (dSay_conj l)) ev_c (by decide +kernel)) fun H2 e2 => ?_
        refine q_ifF (et_eqS (hd0 rfl (e1.trans e2) (dSay_conj l)) ev_c (by decide +kernel)) fun H3 e3 => ?_
        refine q_ifF (et_eqS (hd0 rfl ((e1.trans e2).trans e3) (dSay_conj l)) ev_c (by decide +kernel)) fun H4 e4 => ?_
        have e := (e2.trans e3).trans e4
        exact ⟨_, rfl, _, rfl, n + 1, _, _, p, xs, _, rfl, ts.ex (e1.trans e), .conj z q, sq_of (e _ _ hp), txs.ex e, by simpa [inners] using z, fun v H' e5 t5 => k v H' (e1.trans (e.trans e5)) (by
          simp only [few, dSay_conj, fewL_eq, List.map_map]
          exact t5)⟩
      | @disj m l z q =>
        refine q_ifT (et_eqS (hd0 rfl e1 (dSay_disj l)) ev_c (by decide +kernel)) fun H2 e2 => ?_
        refine s_retD (K := K) (ed_tup (eds_c ed_str (eds_c (ed_tup (eds_c ed_str (eds_c (ed_tuple (eld_lcA (l := inners (.disj l)) (enc := fun s1 => dSay (few s1)) (fun s1 => .tuple [.str "not", dSay (few s1)]) (src_lst (ev_var rfl) (sq_of (e2 _ _ hp)) (txs.ex e2)) (by omega) fun s1 hs1 x H3 Q3 e3 tx kx => ?_)) eds_nil)) (by simp)) eds_nil)) (by simp)) fun v d H3 e3 t3 p3 => ?_
        · exact kx _ rfl (ed_tup (eds_c ed_str (eds_c (ed_var rfl tx) eds_nil)) (by simp))
        · subst p3
          refine k v H3 (e1.trans (e2.trans e3)) ?_
          simp only [few, dSay_neg, dSay_conj, fewN_eq, List.map_map]
          have : (dSay ∘ Say.neg ∘ few) = fun s1 => PyData.tuple [.str "not", dSay (few s1)] := by
            funext s1
            simp [dSay_neg]
          rw [this]
          exact t3
      | @must m h s1 z q =>
        refine q_ifF (et_eqS (hd0 rfl e1 (dSay_must h s1)) ev_c (by decide +kernel)) fun H2 e2 => ?_
        refine q_ifF (et_eqS (hd0 rfl (e1.trans e2) (dSay_must h s1)) ev_c (by decide +kernel)) fun H3 e3 => ?_
        refine q_ifF (et_eqS (hd0 rfl ((e1.trans e2).trans e3) (dSay_must h s1)) ev_c (by decide +kernel)) fun H4 e4 => ?_
        have e := (e2.trans e3).trans e4
        exact ⟨_, rfl, _, rfl, n + 1, _, _, p, xs, _, rfl, ts.ex (e1.trans e), .must z q, sq_of (e _ _ hp), txs.ex e, by simp [inners], fun v H' e5 t5 => k v H' (e1.trans (e.trans e5)) (by simp only [few, dSay_must]; exact t5)⟩
      | @may m h s1 z q =>
        refine q_ifF (et_eqS (hd0 rfl e1 (dSay_may h s1)) ev_c (by decide +kernel)) fun H2 e2 => ?_
        refine q_ifF (et_eqS (hd0 rfl (e1.trans e2) (dSay_may h s1)) ev_c (by decide +kernel)) fun H3 e3 => ?_
        refine q_ifT (et_eqS (hd0 rfl ((e1.trans e2).trans e3) (dSay_may h s1)) ev_c (by decide +kernel)) fun H4 e4 => ?_
        have e := (e2.trans e3).trans e4
        refine s_retD (K := K) (ed_tup (eds_c ed_str (eds_c (ed_tup (eds_c ed_str (eds_c (s0at (i := 1) rfl (e1.trans e) (dSay_may h s1) rfl) (eds_c (ed_tup (eds_c ed_str (eds_c (ed_ixL (i := 0) (ev_var rfl) (sq_of (e _ _ hp)) (txs.ex e) ev_c rfl) eds_nil)) (by simp)) eds_nil))) (by simp)) eds_nil)) (by simp)) fun v d H5 e5 t5 p5 => ?_
        subst p5
        refine k v H5 (e1.trans (e.trans e5)) ?_
        simp only [few, dSay_neg, dSay_must]
        exact t5
end
end K33
set_option autoImplicit false
set_option Elab.async false
set_option linter.all false
set_option maxRecDepth 100000
set_option maxHeartbeats 4000000
namespace K33
open PySem PySem.Spec PyProof.Rows L2 Evl
section
variable {P : Program} {w : World} {K : PySem.W.Frag} {mg : Str → Option Value} {base : Heap} {C : Addr}
theorem has_truths_succ (D : DefAt K mg "truths_in" st_truths_in ["web", "saying"]) (B : Blt mg) (VC : ViewC K C) (GV : HasC P w K mg base CX0 2 "WebView" C ["self", "web"] (sp_view K C)) (GH : HasM P w K mg base CX0 1 C "has_letter" ["self", "word", "world"] (sp_has_letter K C))
    (GS : Has P w K mg base CX0 4 "step_truths" ["web", "word", "hand", "inner"] (sp_step_truths K)) {n j : Nat} (hj : 4 ≤ j) (GT : Has P w K mg base CX0 j "truths_in" ["web", "saying"] (sp_truths K n)) (GJ : Has P w K mg base CX0 (j + 1) "joined_truths" ["web", "word", "some"] (sp_joined_truths K n)) :
    Has P w K mg base CX0 (j + 2) "truths_in" ["web", "saying"] (sp_truths K (n + 1)) := by
  refine D.ok sc_truths_in (fun vs H Q E h => ?_) (fun f cdv A outer s H vs Q E hr h => ?_)
  · obtain ⟨m, W, v, u, s, rfl, _⟩ := h
    rfl
  · obtain ⟨m, W, v, u, s0, rfl, tv, ok, tu, g, k⟩ := h
    have nd := sc_truths_in.nd
    refine ⟨_, pss_cons (ps_asg (pv 1) (k_star K 2 1 rfl (pgs_cons (pg_name (i := 2) nd rfl (.inl rfl)) (pgs_star (pg_name (i := 3) nd rfl (.inr rfl)) pgs_nil)) (by decide)))
      (pss_cons (ps_if (pt_cmpR op_eq (pv 2) pe_str (nomark _)) (pss_cons (ps_set (i := 4) nd rfl (.inr rfl) (pe_hasC GV (hr.mono (by omega)) (by rfl) pass0 (pa_cons (pv 0) pa_nil)))
          (pss_one (ps_ret (pe_lc (own := [("world", 9)]) (g := gName 9) rfl nd (pi_range1 (by rfl) B.b_range (pa_cons (k_fld K (pv 4)) pa_nil)) (blk (N := ["web", "saying", "word", "rest", "view", "first", "second", "own", "later", "world"]) (sc := defScope st_truths_in) (by decide +kernel)) (fun _ _ _ _ _ => pg_name (i := 9) nd rfl (.inl rfl)) (fun _ _ _ _ _ => pts_nil)
            (fun _ _ _ _ _ => pe_hasM VC.cl GH (hr.mono (by omega)) (pv 4) pass0 (pa_cons (pe_ix (k_ixL K) (pv 3) pe_int (fun _ _ => rfl)) (pa_cons (pv 9) pa_nil))))))) pss_nil)
      (pss_cons (ps_if (pt_cmpR (k_in K) (pv 2) (pe_tup (pa_cons pe_str (pa_cons pe_str pa_nil))) (by rfl)) (pss_one (ps_ret (pe_has GJ hr (by rfl) pass0 (pa_cons (pv 0) (pa_cons (pv 2) (pa_cons (pe_ix (k_ixL K) (pv 3) pe_int (fun _ _ => rfl)) pa_nil)))))) pss_nil)
      (pss_cons (ps_if (pt_cmpR (k_in K) (pv 2) (pe_tup (pa_cons pe_str (pa_cons pe_str pa_nil))) (by rfl)) (pss_one (ps_ret (pe_has GS (hr.mono (by omega)) (by rfl) pass0 (pa_cons (pv 0) (pa_cons (pv 2) (pa_cons (pe_ix (k_ixL K) (pv 3) pe_int (fun _ _ => rfl))
          (pa_cons (pe_has GT (hr.mono (by omega)) (by rfl) pass0 (pa_cons (pv 0) (pa_cons (pe_ix (k_ixL K) (pv 3) pe_int (fun _ _ => rfl)) pa_nil))) pa_nil))))))) pss_nil)
      (pss_cons (ps_if (pt_cmpR op_eq (pv 2) pe_str (nomark _)) pss_never pss_nil)
      (pss_cons (ps_set (i := 5) nd rfl (.inl rfl) (pe_has GT (hr.mono (by omega)) (by rfl) pass0 (pa_cons (pv 0) (pa_cons (pe_ix (k_ixL K) (pv 3) pe_int (fun _ _ => rfl)) pa_nil))))
      (pss_cons (ps_if (pt_cmpR op_eq (pv 2) pe_str (nomark _)) (pss_one (ps_ret (pe_lc (own := [("own", 7)]) (g := gName 7) rfl nd (k_pil K (pv 5)) (blk (N := ["web", "saying", "word", "rest", "view", "first", "second", "own", "later", "world"]) (sc := defScope st_truths_in) (by decide +kernel)) (fun _ _ _ _ _ => pg_name (i := 7) nd rfl (.inl rfl)) (fun _ _ _ _ _ => pts_nil)
            (fun _ _ _ _ _ => pe_not (pv 7))))) pss_nil)
      pss_never)))))), ?_⟩
    have mz : W.many ≤ 7 := Nat.le_trans ok.many ok.lim
    have andor : ∀ {σ : L2.St} {H : Hp}, ED K (tTup (tCons (tC (.str "and")) (tCons (tC (.str "or")) tNil))) σ H (· = .tuple ([("and" : Str), ("or" : Str)].map PyData.str)) := fun {σ H} => ed_tup (eds_c ed_str (eds_c ed_str eds_nil)) (by decide)
    have mm : ∀ {σ : L2.St} {H : Hp}, ED K (tTup (tCons (tC (.str "must")) (tCons (tC (.str "may")) tNil))) σ H (· = .tuple ([("must" : Str), ("may" : Str)].map PyData.str)) := fun {σ H} => ed_tup (eds_c ed_str (eds_c ed_str eds_nil)) (by decide)
    cases g with
    | @letter m z q =>
      rw [dSay_letter] at tu
      refine ⟨_, rfl, g_star1 tu (by simp) fun vw p xs np tw txs => ?_⟩
      obtain rfl := tw.strI
      refine q_ifT (et_eqS (ev_var rfl) ev_c (by decide +kernel)) fun H1 e1 => ?_
      have e := (Ex.new (o := .lst xs) np).trans e1
      have l1 : H1 p = some (.lst xs) := e1 _ _ upd_same
      refine q_view ok (ed_var rfl (tv.ex e)) fun y H2 ny e2 vw _ => ?_
      refine s_retBl (bs := bools W.many (Holds W (.letter z))) (ebl_of (K := K) ((eld_lcA (K := K) (l := List.range W.many) (enc := fun (y : Nat) => PyData.int (y : Int)) (fun y => PyData.bool (decide (y ∈ getL W.marks z))) (src_rng (n := W.many) (ev_many vw VC.n1 VC.cl (ev_var rfl)) (by omega)).ex (by rw [List.length_range]; omega) fun i hi x H6 Q6 e6 tx kx => ?_).imp fun ds hq => ?_)) fun l H6 nl e6 hl => ?_
      · obtain rfl := tx.intI
        exact kx _ rfl (ed_b (ev_hasl (vw.ex e6) (ev_var rfl) (ev_str (ed_ixL (i := 0) (ev_var rfl) (sq_of ((e2.trans e6) _ _ l1)) (txs.ex (e.trans (e2.trans e6))) ev_c rfl)) (ev_var rfl)))
      · rw [hq, List.map_map]
        apply List.map_congr_left
        intro i _
        simp only [Function.comp, holds_letter]
      · exact k l H6 (fresh_back (e.trans e2) nl) (e.trans (e2.trans e6)) hl
    | @neg m s1 q =>
      rw [dSay_neg] at tu
      refine ⟨_, rfl, g_star1 tu (by simp) fun vw p xs np tw txs => ?_⟩
      obtain rfl := tw.strI
      refine q_ifF (et_eqS (ev_var rfl) ev_c (by decide +kernel)) fun H1 e1 => ?_
      refine q_ifF (et_inS (ev_var rfl) andor (by decide +kernel)) fun H2 e2 => ?_
      refine q_ifF (et_inS (ev_var rfl) mm (by decide +kernel)) fun H3 e3 => ?_
      refine q_ifF (et_eqS (ev_var rfl) ev_c (by decide +kernel)) fun H4 e4 => ?_
      have e := (Ex.new (o := .lst xs) np).trans (e1.trans (e2.trans (e3.trans e4)))
      have l1 : H4 p = some (.lst xs) := e4 _ _ (e3 _ _ (e2 _ _ (e1 _ _ upd_same)))
      refine q_asgBl (bs := bools W.many (Holds W s1)) (fun H5 e5 Q5 q5 => ?_) fun l H6 nl e6 hl => ?_
      · refine ⟨_, rfl, ?_⟩
        refine ed_ixL (i := 0) (d := dSay s1) (ev_var rfl) (sq_of l1) (txs.ex e) ev_c rfl H5 e5 _ fun u1 H6 d e6 t6 p6 => ?_
        · subst p6
          exact ⟨m, W, v, u1, s1, rfl, tv.ex (e.trans (e5.trans e6)), ok, t6, q, fun l H7 n7 e7 h7 => q5 l H7 (fresh_back e6 n7) (e6.trans e7) h7⟩
      · refine q_ifT (et_eqS (ev_var rfl) ev_c (by decide +kernel)) fun H7 e7 => ?_
        refine s_retBl (bs := bools W.many (Holds W (.neg s1))) (ebl_of (K := K) ((eld_lcA (K := K) (l := bools W.many (Holds W s1)) (enc := PyData.bool) (fun b => PyData.bool (!b)) (src_lst (ev_var rfl) (sq_of (e7 _ _ hl)) (TDs.ofBls _)) (by rw [bools_len]; omega) fun b hb x H8 Q8 e8 tx kx => ?_).imp fun ds hq => ?_)) fun l2 H8 nl2 e8 hl2 => ?_
        · obtain rfl := tx.blI
          exact kx _ rfl (ed_b (ev_notV (ev_var rfl)))
        · rw [hq, List.map_map, List.map_map]
          apply List.map_congr_left
          intro i _
          simp only [Function.comp, holds_neg]
        · exact k l2 H8 (fresh_back (e.trans (e6.trans e7)) nl2) (e.trans (e6.trans (e7.trans e8))) hl2
    | @conj m l z q =>
      rw [dSay_conj] at tu
      refine ⟨_, rfl, g_star1 tu (by simp) fun vw p xs np tw txs => ?_⟩
      obtain rfl := tw.strI
      refine q_ifF (et_eqS (ev_var rfl) ev_c (by decide +kernel)) fun H1 e1 => ?_
      refine q_ifT (et_inS (ev_var rfl) andor (by decide +kernel)) fun H2 e2 => ?_
      have e := (Ex.new (o := .lst xs) np).trans (e1.trans e2)
      have l1 : H2 p = some (.lst xs) := e2 _ _ (e1 _ _ upd_same)
      refine ⟨_, rfl, _, rfl, ?_⟩
      refine ed_ixL (i := 0) (d := .tuple (l.map dSay)) (ev_var rfl) (sq_of l1) (txs.ex e) ev_c rfl H2 (Ex.refl _) _ fun u1 H6 d e6 t6 p6 => ?_
      subst p6
      refine ⟨m, W, v, u1, _, l, rfl, tv.ex (e.trans e6), ok, t6, z, q, fun l2 H7 n7 e7 h7 => k l2 H7 (fresh_back (e.trans e6) n7) (e.trans (e6.trans e7)) ?_⟩
      rw [h7]
      refine congrArg (fun (l : List Bool) => some (HO.lst (l.map V.bl))) ?_
      apply List.map_congr_left
      intro i _
      rw [holds_conj]
      exact if_pos rfl
    | @disj m l z q =>
      rw [dSay_disj] at tu
      refine ⟨_, rfl, g_star1 tu (by simp) fun vw p xs np tw txs => ?_⟩
      obtain rfl := tw.strI
      refine q_ifF (et_eqS (ev_var rfl) ev_c (by decide +kernel)) fun H1 e1 => ?_
      refine q_ifT (et_inS (ev_var rfl) andor (by decide +kernel)) fun H2 e2 => ?_
      have e := (Ex.new (o := .lst xs) np).trans (e1.trans e2)
      have l1 : H2 p = some (.lst xs) := e2 _ _ (e1 _ _ upd_same)
      refine ⟨_, rfl, _, rfl, ?_⟩
      refine ed_ixL (i := 0) (d := .tuple (l.map dSay)) (ev_var rfl) (sq_of l1) (txs.ex e) ev_c rfl H2 (Ex.refl _) _ fun u1 H6 d e6 t6 p6 => ?_
      subst p6
      refine ⟨m, W, v, u1, _, l, rfl, tv.ex (e.trans e6), ok, t6, z, q, fun l2 H7 n7 e7 h7 => k l2 H7 (fresh_back (e.trans e6) n7) (e.trans (e6.trans e7)) ?_⟩
      rw [h7]
      refine congrArg (fun (l : List Bool) => some (HO.lst (l.map V.bl))) ?_
      apply List.map_congr_left
      intro i _
      rw [holds_disj]
      exact if_neg (by decide +kernel)
    | @must m h s1 z q =>
      rw [dSay_must] at tu
      refine ⟨_, rfl, g_star1 tu (by simp) fun vw p xs np tw txs => ?_⟩
      obtain rfl := tw.strI
      refine q_ifF (et_eqS (ev_var rfl) ev_c (by decide +kernel)) fun H1 e1 => ?_
      refine q_ifF (et_inS (ev_var rfl) andor (by decide +kernel)) fun H2 e2 => ?_
      refine q_ifT (et_inS (ev_var rfl) mm (by decide +kernel)) fun H3 e3 => ?_
      have e := (Ex.new (o := .lst xs) np).trans (e1.trans (e2.trans e3))
      have l1 : H3 p = some (.lst xs) := e3 _ _ (e2 _ _ (e1 _ _ upd_same))
      refine ⟨_, rfl, _, rfl, ?_⟩
      refine ed_ixL (i := 0) (d := .str h) (ev_var rfl) (sq_of l1) (txs.ex e) ev_c rfl H3 (Ex.refl _) _ fun u1 H5 d e5 t5 p5 => ?_
      subst p5
      obtain rfl := t5.strI
      refine ⟨_, rfl, ?_⟩
      refine ed_ixL (i := 1) (d := dSay s1) (ev_var rfl) (sq_of (e5 _ _ l1)) (txs.ex (e.trans e5)) ev_c rfl H5 (Ex.refl _) _ fun u1 H6 d e6 t6 p6 => ?_
      subst p6
      refine ⟨m, W, v, u1, s1, rfl, tv.ex (e.trans (e5.trans e6)), ok, t6, q, fun a H7 n7 e7 h7 => ?_⟩
      refine ⟨m, W, v, _, h, a, Holds W s1, rfl, tv.ex (e.trans (e5.trans (e6.trans e7))), ok, h7, fun l2 H8 n8 e8 h8 => k l2 H8 (fresh_back (e.trans (e5.trans (e6.trans e7))) n8) (e.trans (e5.trans (e6.trans (e7.trans e8)))) ?_⟩
      rw [h8]
      refine congrArg (fun (l : List Bool) => some (HO.lst (l.map V.bl))) ?_
      apply List.map_congr_left
      intro i _
      rw [holds_must]
      exact if_pos rfl
    | @may m h s1 z q =>
      rw [dSay_may] at tu
      refine ⟨_, rfl, g_star1 tu (by simp) fun vw p xs np tw txs => ?_⟩
      obtain rfl := tw.strI
      refine q_ifF (et_eqS (ev_var rfl) ev_c (by decide +kernel)) fun H1 e1 => ?_
      refine q_ifF (et_inS (ev_var rfl) andor (by decide +kernel)) fun H2 e2 => ?_
      refine q_ifT (et_inS (ev_var rfl) mm (by decide +kernel)) fun H3 e3 => ?_
      have e := (Ex.new (o := .lst xs) np).trans (e1.trans (e2.trans e3))
      have l1 : H3 p = some (.lst xs) := e3 _ _ (e2 _ _ (e1 _ _ upd_same))
      refine ⟨_, rfl, _, rfl, ?_⟩
      refine ed_ixL (i := 0) (d := .str h) (ev_var rfl) (sq_of l1) (txs.ex e) ev_c rfl H3 (Ex.refl _) _ fun u1 H5 d e5 t5 p5 => ?_
      subst p5
      obtain rfl := t5.strI
      refine ⟨_, rfl, ?_⟩
      refine ed_ixL (i := 1) (d := dSay s1) (ev_var rfl) (sq_of (e5 _ _ l1)) (txs.ex (e.trans e5)) ev_c rfl H5 (Ex.refl _) _ fun u1 H6 d e6 t6 p6 => ?_
      subst p6
      refine ⟨m, W, v, u1, s1, rfl, tv.ex (e.trans (e5.trans e6)), ok, t6, q, fun a H7 n7 e7 h7 => ?_⟩
      refine ⟨m, W, v, _, h, a, Holds W s1, rfl, tv.ex (e.trans (e5.trans (e6.trans e7))), ok, h7, fun l2 H8 n8 e8 h8 => k l2 H8 (fresh_back (e.trans (e5.trans (e6.trans e7))) n8) (e.trans (e5.trans (e6.trans (e7.trans e8)))) ?_⟩
      rw [h8]
      refine congrArg (fun (l : List Bool) => some (HO.lst (l.map V.bl))) ?_
      apply List.map_congr_left
      intro i _
      rw [holds_may]
      exact if_neg (by decide +kernel)
/-- truths_in, of sayings at most n deep -/
theorem has_truths (D : DefAt K mg "truths_in" st_truths_in ["web", "saying"]) (DJ : DefAt K mg "joined_truths" st_joined_truths ["web", "word", "some"]) (B : Blt mg) (VC : ViewC K C) (GV : HasC P w K mg base CX0 2 "WebView" C ["self", "web"] (sp_view K C)) (GH : HasM P w K mg base CX0 1 C "has_letter" ["self", "word", "world"] (sp_has_letter K C))
    (GS : Has P w K mg base CX0 4 "step_truths" ["web", "word", "hand", "inner"] (sp_step_truths K)) : ∀ n, Has P w K mg base CX0 (2 * n + 4) "truths_in" ["web", "saying"] (sp_truths K n)
  | 0 => D.vac _ fun vs H Q E ⟨_, _, _, _, s, _, _, _, _, g, _⟩ => good_no g
  | n + 1 => has_truths_succ D B VC GV GH GS (by omega) (has_truths D DJ B VC GV GH GS n) (has_joined_truths DJ B (has_truths D DJ B VC GV GH GS n))
end
end K33
set_option autoImplicit false
set_option Elab.async false
set_option linter.all false
set_option maxRecDepth 100000
set_option maxHeartbeats 4000000
namespace K33
open PySem PySem.Spec PyProof.Rows L2 Evl
/-! ### called_anew -/
section
variable {K : PySem.W.Frag} {σ : L2.St} {H H' : Hp} {ta tb tc te tx td : TE} {tl tr : TA} {d e : PyData}
/-- the dict of calls -/
def CallsAt (H : Hp) (D : Addr) (kept : List Nat) : Prop := ∃ kvs : List (Key × V), H D = some (.dK kvs) ∧ ∀ x : Nat, valV kvs (Sum.inl (x : Int)) = if x ∈ kept then some (.int (kept.idxOf x : Nat)) else none
theorem CallsAt.ex {D : Addr} {kept : List Nat} (e : Ex H H') (h : CallsAt H D kept) : CallsAt H' D kept := by
  obtain ⟨kvs, h1, h2⟩ := h
  exact ⟨kvs, e _ _ h1, h2⟩
theorem ev_calls {D : Addr} {kept : List Nat} {x : Nat} (h : CallsAt H D kept) (hd : Ev td σ H (.ref D)) (hx : Ev tx σ H (.int (x : Int))) (hm : x ∈ kept) : Ev (tDGet td tx) σ H (.int (kept.idxOf x : Nat)) := fun H1 e1 Q q =>
  hd H1 e1 _ fun H2 e2 => hx H2 (e1.trans e2) _ fun H3 e3 => by
    obtain ⟨kvs, h1, h2⟩ := h.ex (e1.trans (e2.trans e3))
    refine ⟨D, _, rfl, .inl ⟨kvs, Sum.inl (x : Int), .inl h1, rfl, ?_⟩, q H3 (e2.trans e3)⟩
    rw [h2 x, if_pos hm]
theorem ev_inCalls {D : Addr} {kept : List Nat} {x : Nat} (h : CallsAt H D kept) (hd : Ev td σ H (.ref D)) (hx : Ev tx σ H (.int (x : Int))) : Ev (tDIn tx td) σ H (.bl (decide (x ∈ kept))) := fun H1 e1 Q q =>
  hx H1 e1 _ fun H2 e2 => hd H2 (e1.trans e2) _ fun H3 e3 => by
    obtain ⟨kvs, h1, h2⟩ := h.ex (e1.trans (e2.trans e3))
    refine ⟨D, _, rfl, .inl ⟨kvs, Sum.inl (x : Int), .inl h1, rfl, rfl⟩, ?_⟩
    rw [h2 x]
    by_cases hm : x ∈ kept
    · have := q H3 (e2.trans e3)
      rw [decide_eq_true hm] at this
      rw [if_pos hm]
      exact this
    · have := q H3 (e2.trans e3)
      rw [decide_eq_false hm] at this
      rw [if_neg hm]
      exact this
/-- a != b, of data -/
theorem ev_neD (h1 : ED K ta σ H (· = d)) (h2 : ED K tb σ H (· = e)) (s1 : SeqAt.shaped d = true) (s2 : SeqAt.shaped e = true) : Ev (tOp (rNeD K) ta tb) σ H (.bl (!PyData.eqv d e)) := fun H1 e1 Q q =>
  h1 H1 e1 _ fun v H2 d' e2 t2 p2 => h2 H2 (e1.trans e2) _ fun u H3 e' e3 t3 p3 => by
    subst p2 p3
    exact ⟨_, _, (t2.ex e3).toDp, t3.toDp, s1, s2, q H3 (e2.trans e3)⟩
theorem ev_eqD (h1 : ED K ta σ H (· = d)) (h2 : ED K tb σ H (· = e)) (s1 : SeqAt.shaped d = true) (s2 : SeqAt.shaped e = true) : Ev (tOp (rEqD K) ta tb) σ H (.bl (PyData.eqv d e)) := fun H1 e1 Q q =>
  h1 H1 e1 _ fun v H2 d' e2 t2 p2 => h2 H2 (e1.trans e2) _ fun u H3 e' e3 t3 p3 => by
    subst p2 p3
    exact ⟨_, _, (t2.ex e3).toDp, t3.toDp, s1, s2, q H3 (e2.trans e3)⟩
end
/-- data of a depth -/
def Shp (n : Nat) (d : PyData) : Prop := d.canLay0 = true ∧ d.depth ≤ n
theorem Shp.shaped {n : Nat} {d : PyData} (h : Shp n d) (hn : n ≤ 64) : SeqAt.shaped d = true := by
  unfold SeqAt.shaped
  rw [h.1, Bool.true_and]
  exact decide_eq_true (Nat.le_trans h.2 hn)
theorem shp_int {n : Nat} (i : Int) : Shp n (.int i) := ⟨by simp [PyData.canLay0], by simp [PyData.depth]⟩
theorem shps {n : Nat} : ∀ {ds : List PyData}, (∀ d ∈ ds, Shp n d) → PyData.canLayAll0 ds = true ∧ PyData.depthAll ds ≤ n
  | [], _ => ⟨by simp [PyData.canLayAll0], by simp [PyData.depthAll]⟩
  | d :: ds, h => by
    obtain ⟨h1, h2⟩ := shps fun e he => h e (List.mem_cons_of_mem _ he)
    obtain ⟨h3, h4⟩ := h d (by simp)
    exact ⟨by simp [PyData.canLayAll0, h1, h3], by simp [PyData.depthAll]; omega⟩
theorem shp_tup {n : Nat} {ds : List PyData} (h : ∀ d ∈ ds, Shp n d) : Shp (n + 1) (.tuple ds) := by
  obtain ⟨h1, h2⟩ := shps h
  exact ⟨by simp [PyData.canLay0, h1], by simp [PyData.depth, h2]⟩
theorem shp_list {n : Nat} {ds : List PyData} (h : ∀ d ∈ ds, Shp n d) : Shp (n + 1) (.list ds) := by
  obtain ⟨h1, h2⟩ := shps h
  exact ⟨by simp [PyData.canLay0, h1], by simp [PyData.depth, h2]⟩
theorem Shp.mono {n m : Nat} {d : PyData} (h : Shp n d) (l : n ≤ m) : Shp m d := ⟨h.1, Nat.le_trans h.2 l⟩
theorem shp_nats (ys : List Nat) : Shp 1 (dNats ys) := shp_tup fun d hd => by
  obtain ⟨i, _, rfl⟩ := List.mem_map.mp hd
  exact shp_int i
theorem shp_pair (p : Nat × Nat) : Shp 1 (dPair p) := shp_tup fun d hd => by
  rcases List.mem_cons.mp hd with rfl | hd
  · exact shp_int _
  · rcases List.mem_cons.mp hd with rfl | hd
    · exact shp_int _
    · cases hd
theorem shp_pairs (ps : List (Nat × Nat)) : Shp 2 (dPairs ps) := shp_tup fun d hd => by
  obtain ⟨p, _, rfl⟩ := List.mem_map.mp hd
  exact shp_pair p
theorem eqv_nil (ds : List PyData) : PyData.eqv (.tuple ds) (.tuple []) = decide (ds = []) := by
  cases ds with
  | nil => simp [PyData.eqv, PyData.eqvAll]
  | cons a r => simp [PyData.eqv, PyData.eqvAll]
theorem thin_take {ω β γ : Type} [DecidableEq γ] (f : List β → List γ) {l : List (ω × List β)} {i : Nat} {d : ω × List β} (h : l[i]? = some d) : thin f (l.take (i + 1)) = thin f (l.take i) ++ if f d.2 = [] then [] else [(d.1, f d.2)] := by
  unfold thin
  have : l.take (i + 1) = l.take i ++ [d] := by rw [List.take_add_one, h]; rfl
  rw [this, List.map_append, List.filter_append]
  congr 1
  by_cases e : f d.2 = []
  · simp [e]
  · simp [e]
theorem zipIdx_enc {α : Type} (l : List α) (f : α → PyData) : ((l.map f).zipIdx.map fun p => PyData.tuple [.int (p.2 : Int), p.1]) = l.zipIdx.map fun p => PyData.tuple [.int (p.2 : Int), f p.1] := by
  apply List.ext_getElem?
  intro i
  rw [List.getElem?_map, List.getElem?_map, List.getElem?_zipIdx, List.getElem?_zipIdx, List.getElem?_map]
  cases l[i]? <;> rfl
theorem anew_ok {m : Nat} {W : Web Str} (ok : WebOk m W) {kept : List Nat} (nd : kept.Nodup) (lt : ∀ x ∈ kept, x < W.many) : WebOk m (anew W kept) where
  wf := anew_wf ok.wf kept
  lim := ok.lim
  many := by
    have := nodup_sub (r := List.range W.many) nd fun x hx => List.mem_range.mpr (lt x hx)
    rw [List.length_range] at this
    exact Nat.le_trans this ok.many
  hnd := fun h hh => ok.hnd h ((thin_keys _ _).subset hh)
  mrk := fun z hz => ok.mrk z ((thin_keys _ _).subset hz)
  ps := fun q hq => by
    obtain ⟨q', hq', e⟩ := List.mem_map.mp (List.mem_filter.mp hq).1
    subst e
    refine Nat.le_trans ?_ (ok.ps q' hq')
    unfold ownS
    rw [List.length_map]
    exact List.length_filter_le _ _
  ys := fun q hq => by
    obtain ⟨q', hq', e⟩ := List.mem_map.mp (List.mem_filter.mp hq).1
    subst e
    refine Nat.le_trans ?_ (ok.ys q' hq')
    unfold ownM
    rw [List.length_map]
    exact List.length_filter_le _ _
section
variable {P : Program} {w : World} {K : PySem.W.Frag} {mg : Str → Option Value} {base : Heap} {C : Addr}
abbrev sp_anew (K : PySem.W.Frag) : Sp := fun vs H Q _ => ∃ (m : Nat) (W : Web Str) (v : V) (a : Addr) (kept : List Nat), vs = [v, .ref a] ∧ TD K H v (dWeb W) ∧ WebOk m W ∧ IntsAt H a kept ∧ kept.Nodup ∧ (∀ x ∈ kept, x < W.many) ∧
  ∀ v H', Ex H H' → TD K H' v (dWeb (anew W kept)) → Q v H'
theorem has_anew (D : DefAt K mg "called_anew" st_called_anew ["web", "kept"]) (B : Blt mg) : Has P w K mg base CX0 1 "called_anew" ["web", "kept"] (sp_anew K) := by
  refine D.ok sc_called_anew (fun vs H Q E h => ?_) (fun f cdv A outer s H vs Q E hr h => ?_)
  · obtain ⟨m, W, v, a, kept, rfl, _⟩ := h
    rfl
  · obtain ⟨m, W, v, a, kept, rfl, tv, ok, ha, ndk, ltk, k⟩ := h
    have nd := sc_called_anew.nd
    have hu := hu_of hr
    refine ⟨_, pss_cons (ps_asg (pv 0) (k_tup K 3 rfl (pgs_cons (pg_name (i := 2) nd rfl (.inl rfl)) (pgs_cons (pg_name (i := 3) nd rfl (.inl rfl)) (pgs_cons (pg_name (i := 4) nd rfl (.inl rfl)) pgs_nil)))))
      (pss_cons (ps_set (i := 5) nd rfl (.inr rfl) (pe_dc (own := [("number", 14), ("world", 15)]) rfl nd (pi_enum (by rfl) B.b_enumerate (pa_cons (pv 1) pa_nil)) (blk (N := ["web", "kept", "many", "steps", "letters", "calls", "left", "hand", "pairs", "own", "marks", "word", "worlds", "spots", "number", "world", "x", "y"]) (sc := defScope st_called_anew) (by decide +kernel))
          (fun _ _ _ _ _ => k_tup K 2 rfl (pgs_cons (pg_name (i := 14) nd rfl (.inl rfl)) (pgs_cons (pg_name (i := 15) nd rfl (.inl rfl)) pgs_nil))) (fun _ _ _ _ _ => pts_nil) (fun _ _ _ _ _ => pv 15) (fun _ _ _ _ _ => pv 14)))
      (pss_cons (ps_set (i := 6) nd rfl (.inl rfl) (pe_lst pa_nil))
      (pss_cons (ps_for PassesOwn.never rfl (k_pit K (pv 3)) (k_tup K 2 rfl (pgs_cons (pg_name (i := 7) nd rfl (.inl rfl)) (pgs_cons (pg_name (i := 8) nd rfl (.inl rfl)) pgs_nil)))
        (pss_cons (ps_set (i := 9) nd rfl (.inl rfl) (pe_callTy (k_tuple K) (by rfl) B.b_tuple (by decide +kernel) (pa_cons (pe_lc (own := [("x", 16), ("y", 17)]) rfl nd (k_pit K (pv 8)) (blk (N := ["web", "kept", "many", "steps", "letters", "calls", "left", "hand", "pairs", "own", "marks", "word", "worlds", "spots", "number", "world", "x", "y"]) (sc := defScope st_called_anew) (by decide +kernel))
            (fun _ _ _ _ _ => k_tup K 2 rfl (pgs_cons (pg_name (i := 16) nd rfl (.inl rfl)) (pgs_cons (pg_name (i := 17) nd rfl (.inl rfl)) pgs_nil)))
            (fun _ _ _ _ _ => pts_one (PW.pt (pw_and (pt_cmp (pc_din (hu_of hr) (pv 16) (pv 5))) (pw_and1 (pt_cmp (pc_din (hu_of hr) (pv 17) (pv 5)))))))
            (fun _ _ _ _ _ => pe_tup (pa_cons (pe_dget (hu_of hr) (pv 5) (pv 16) (fun _ _ => rfl)) (pa_cons (pe_dget (hu_of hr) (pv 5) (pv 17) (fun _ _ => rfl)) pa_nil)))) pa_nil)))
        (pss_one (ps_if (pt_cmpR (k_neD K hr.units) (pv 9) (pe_tup pa_nil) (nomark _)) (pss_one (ps_expr (pe_bm PySem.F.plainAttrs_list PySem.F.slot_list_append PySem.F.type_list_append mt_append (pv 6) (pa_cons (pe_tup (pa_cons (pv 7) (pa_cons (pv 9) pa_nil))) pa_nil)))) pss_nil))))
      (pss_cons (ps_set (i := 10) nd rfl (.inl rfl) (pe_lst pa_nil))
      (pss_cons (ps_for PassesOwn.never rfl (k_pit K (pv 4)) (k_tup K 2 rfl (pgs_cons (pg_name (i := 11) nd rfl (.inl rfl)) (pgs_cons (pg_name (i := 12) nd rfl (.inl rfl)) pgs_nil)))
        (pss_cons (ps_set (i := 13) nd rfl (.inl rfl) (pe_callTy (k_tuple K) (by rfl) B.b_tuple (by decide +kernel) (pa_cons (pe_lc (own := [("world", 15)]) (g := gName 15) rfl nd (k_pit K (pv 12)) (blk (N := ["web", "kept", "many", "steps", "letters", "calls", "left", "hand", "pairs", "own", "marks", "word", "worlds", "spots", "number", "world", "x", "y"]) (sc := defScope st_called_anew) (by decide +kernel))
            (fun _ _ _ _ _ => pg_name (i := 15) nd rfl (.inl rfl))
            (fun _ _ _ _ _ => pts_one (pt_cmp (pc_din (hu_of hr) (pv 15) (pv 5))))
            (fun _ _ _ _ _ => pe_dget (hu_of hr) (pv 5) (pv 15) (fun _ _ => rfl))) pa_nil)))
        (pss_one (ps_if (pt_cmpR (k_neD K hr.units) (pv 13) (pe_tup pa_nil) (nomark _)) (pss_one (ps_expr (pe_bm PySem.F.plainAttrs_list PySem.F.slot_list_append PySem.F.type_list_append mt_append (pv 10) (pa_cons (pe_tup (pa_cons (pv 11) (pa_cons (pv 13) pa_nil))) pa_nil)))) pss_nil))))
      (pss_one (ps_ret (pe_tup (pa_cons (pe_callB (k_len K) (by rfl) B.b_len (by decide +kernel) (pa_cons (pv 1) pa_nil)) (pa_cons (pe_callTy (k_tuple K) (by rfl) B.b_tuple (by decide +kernel) (pa_cons (pv 6) pa_nil)) (pa_cons (pe_callTy (k_tuple K) (by rfl) B.b_tuple (by decide +kernel) (pa_cons (pv 10) pa_nil)) pa_nil))))))))))), ?_⟩
    obtain ⟨a0, xs, rfl, hs, ts⟩ := tv.tupI
    obtain ⟨vm, r1, rfl, t1, ts⟩ := ts.consI
    obtain ⟨vs, r2, rfl, t2, ts⟩ := ts.consI
    obtain ⟨vl, r3, rfl, t3, ts⟩ := ts.consI
    cases ts.nilI
    obtain rfl := t1.intI
    have kz : kept.length ≤ 16 := by
      have := nodup_sub (r := List.range W.many) ndk fun x hx => List.mem_range.mpr (ltk x hx)
      rw [List.length_range] at this
      have := ok.many; have := ok.lim
      omega
    refine ⟨_, rfl, a0, _, rfl, hs, rfl, _, _, rfl, _, _, rfl, _, _, rfl, rfl, ?_⟩
    dsimp only
    refine q_raw ?_
    have nk : ((kept.zipIdx).map fun p => (Sum.inl (p.1 : Int) : Key)).Nodup := by
      have : ((kept.zipIdx).map fun p => (Sum.inl (p.1 : Int) : Key)) = kept.map fun (x : Nat) => (Sum.inl (x : Int) : Key) := by
        conv => rhs; rw [← List.zipIdx_map_fst 0 kept]
        rw [List.map_map]
        rfl
      rw [this]
      exact ndk.map _ fun a b n e => n (by have := Sum.inl.inj e; omega)
    refine dc_data (K := K) (l := kept.zipIdx) (enc := fun p => PyData.tuple [.int (p.2 : Int), .int (p.1 : Int)]) (fun p => Sum.inl (p.1 : Int)) (fun p => .int (p.2 : Int)) nk (by simp; omega) ?_ ?_ ?_
    · have := src_enum (K := K) (σ := (((start ["web", "kept", "many", "steps", "letters", "calls", "left", "hand", "pairs", "own", "marks", "word", "worlds", "spots", "number", "world", "x", "y"] [.ref a0, .ref a]).set 2 (some (.int (W.many : Int)))).set 3 (some vs)).set 4 (some vl)) (H := H) (te := tVar 1) (ev_var rfl) (sq_of ha) (ints_td (ns := kept))
      rw [zipIdx_enc] at this
      exact this
    · intro p hp x H2 Q2 e2 tx kx
      refine tg_pair tx fun v w tv tw => ?_
      obtain rfl := tv.intI
      obtain rfl := tw.intI
      exact kx _ rfl (ev_var rfl) (ed_i (ev_var rfl))
    · intro Dc H1 kvs nDc e1 hDc hm hf
      have ca : CallsAt H1 Dc kept := by
        refine ⟨kvs, hDc, fun x => ?_⟩
        by_cases hx : x ∈ kept
        · rw [if_pos hx]
          have hi : kept.zipIdx[kept.idxOf x]? = some (x, kept.idxOf x) := by
            rw [List.getElem?_zipIdx, List.getElem?_eq_getElem (List.idxOf_lt_length_of_mem hx), List.getElem_idxOf]
            simp
          obtain ⟨u, hu1, hu2⟩ := dk_get hm nk hi
          have := (hf _ _ _ hi hu2).intI
          simp only at this
          rw [this] at hu1
          exact hu1
        · rw [if_neg hx]
          cases q : valV kvs (Sum.inl (x : Int)) with
          | none => rfl
          | some u =>
            have m : (Sum.inl (x : Int) : Key) ∈ kvs.map (·.1) := List.mem_map.mpr ⟨_, valV_mem q, rfl⟩
            rw [hm] at m
            obtain ⟨p, hp, e⟩ := List.mem_map.mp m
            have e := Sum.inl.inj e
            have : p.1 = x := by omega
            subst this
            exact (hx (by
              have h9 : p.1 ∈ kept.zipIdx.map Prod.fst := List.mem_map.mpr ⟨p, hp, rfl⟩
              rw [List.zipIdx_map_fst] at h9
              exact h9)).elim
      refine q_asgL (el_lst ea_nil (by simp)) fun L H2 nL e2 hL => ?_
      have E2 := e1.trans e2
      refine q_for (K := K) (src_tupK (H0 := H) (ev_var (v := vs) rfl) t2 (Kt.ex E2)) (fun _ i σ H' => (∃ b c d, σ = [some (.ref a0), some (.ref a), some (.int (W.many : Int)), some vs, some vl, some (.ref Dc), some (.ref L), b, c, d, none, none, none, none, none, none, none, none]) ∧ Ex H1 H' ∧ ∃ ys, H' L = some (.lst ys) ∧ TDs K H' ys ((thin (ownS kept) (W.steps.take i)).map dStep))
        (fun H3 e3 => ⟨⟨none, none, none, rfl⟩, e2.trans e3, [], e3 _ _ hL, .nil⟩) (fun _ i σ H' p => Kt.ex (e1.trans p.2.1)) ?_ ?_
      · rintro H3 i d x σ' H4 H5 e3 hd ⟨⟨b, c, d', rfl⟩, a1, ys, a3, a4⟩ e4 tx
        rw [List.getElem?_map] at hd
        cases hwi : W.steps[i]? with
        | none => rw [hwi] at hd; cases hd
        | some q =>
          rw [hwi] at hd
          cases hd
          have qm := List.mem_of_getElem? hwi
          refine tg_pair tx fun u z tu tz => ?_
          obtain rfl := tu.strI
          have caL := ca.ex (a1.trans e4)
          refine q_asgD (K := K) (P := (· = dPairs (ownS kept q.2))) ((ed_tuple (eld_lc (K := K) (l := q.2) (enc := dPair) (fun p => decide (p.1 ∈ kept) && decide (p.2 ∈ kept)) (fun p => dPair (kept.idxOf p.1, kept.idxOf p.2)) (src_tup (ed_var rfl tz)).ex (by have := ok.pl q qm; omega) fun p hp x H6 Q6 e6 tx kx => ?_)).imp fun d hd => ?_) fun vo d H6 e6 t6 p6 => ?_
          · refine tg_pair tx fun v w tv tw => ?_
            obtain rfl := tv.intI
            obtain rfl := tw.intI
            have caL := caL.ex e6
            refine kx _ rfl (et_and (et_bool (ev_inCalls caL (ev_var rfl) (ev_var rfl))) fun _ => et_bool (ev_inCalls caL (ev_var rfl) (ev_var rfl))) fun hp => ?_
            obtain ⟨h1, h2⟩ := Bool.and_eq_true_iff.mp hp
            exact ed_tup (eds_c (ed_i (ev_calls caL (ev_var rfl) (ev_var rfl) (of_decide_eq_true h1))) (eds_c (ed_i (ev_calls caL (ev_var rfl) (ev_var rfl) (of_decide_eq_true h2))) eds_nil)) (by simp)
          · rw [hd]
            unfold dPairs ownS
            rw [List.map_map]
            rfl
          · subst p6
            have neq : (!PyData.eqv (dPairs (ownS kept q.2)) (.tuple [])) = decide (ownS kept q.2 ≠ []) := by
              show (!PyData.eqv (.tuple _) _) = _
              rw [eqv_nil]
              simp
            have tw := thin_take (ownS kept) hwi
            have l5 : ∀ {H7 : Hp}, Ex H6 H7 → H7 L = some (.lst ys) := fun e7 => e7 _ _ (e6 _ _ (e4 _ _ a3))
            refine s_when (et_test (ev_is (ev_neD (K := K) (e := .tuple []) (ed_var rfl t6) (ed_tup eds_nil (by simp)) ((shp_pairs _).shaped (by decide)) ((shp_tup (n := 0) (by simp)).shaped (by decide))) (congrArg V.bl neq))) (fun hn H7 e7 => ?_) fun hn H7 e7 => ?_
            · have hn := of_decide_eq_true hn
              refine d_raw ⟨_, rfl, .inl ⟨rfl, _, sq_of (l5 e7)⟩, ?_⟩
              refine ed_tup (K := K) (ds := [.str q.1, dPairs (ownS kept q.2)]) (eds_c (ed_s (ev_var rfl)) (eds_c (ed_var rfl (t6.ex e7)) eds_nil)) (by simp) H7 (Ex.refl _) _ fun y H8 dd e8 t8 p8 => ?_
              subst p8
              have l8 := l5 (e7.trans e8)
              have yl := a4.len
              rw [List.length_map] at yl
              have tl : (thin (ownS kept) (W.steps.take i)).length ≤ 3 := by
                unfold thin
                refine Nat.le_trans (List.length_filter_le _ _) ?_
                rw [List.length_map]
                refine Nat.le_trans (List.length_take_le _ _) ?_
                have := ok.hl
                have := (List.getElem?_eq_some_iff.mp hwi).1
                omega
              refine ⟨L, ys, y, rfl, rfl, l8, sz_lt (by omega), ⟨_, _, _, rfl⟩, Ex.mut (a1.trans (e4.trans (e6.trans (e7.trans e8)))) nL, _, upd_same, ?_⟩
              rw [tw, if_neg hn, List.map_append]
              have kt : Kt H8 (upd H8 L (.lst (ys ++ [y]))) := Kt.upd l8 rfl
              exact ((a4.ex (e4.trans (e6.trans (e7.trans e8)))).mono kt).snoc (t8.mono kt)
            · have hn : ownS kept q.2 = [] := by
                have := of_decide_eq_false hn
                exact Classical.not_not.mp this
              refine ⟨⟨_, _, _, rfl⟩, a1.trans (e4.trans (e6.trans e7)), ys, l5 e7, ?_⟩
              rw [tw, if_pos hn, List.append_nil]
              exact a4.ex (e4.trans (e6.trans e7))
      · rintro H3 σ' H4 e3 ⟨⟨b, c, d', rfl⟩, a1, ys, a3, a4⟩
        rw [List.length_map, List.take_length] at a4
        refine q_asgL (el_lst ea_nil (by simp)) fun M H5 nM e5 hM => ?_
        have E5 := e1.trans (a1.trans e5)
        have ca5 := ca.ex (a1.trans e5)
        refine q_for (K := K) (src_tupK (H0 := H) (ev_var (v := vl) rfl) t3 (Kt.ex E5)) (fun _ i σ H' => (∃ b2 c2 d2 f2, σ = [some (.ref a0), some (.ref a), some (.int (W.many : Int)), some vs, some vl, some (.ref Dc), some (.ref L), b, c, d', some (.ref M), b2, c2, d2, none, f2, none, none]) ∧ Ex H4 H' ∧ ∃ ys, H' M = some (.lst ys) ∧ TDs K H' ys ((thin (ownM kept) (W.marks.take i)).map dMark))
          (fun H6 e6 => ⟨⟨none, none, none, none, rfl⟩, e5.trans e6, [], e6 _ _ hM, .nil⟩) (fun _ i σ H' p => Kt.ex (e1.trans (a1.trans p.2.1))) ?_ ?_
        · rintro H3 i d x σ' H6 H7 e3 hd ⟨⟨b2, c2, d2, f2, rfl⟩, b1, zs, b3, b4⟩ e4 tx
          rw [List.getElem?_map] at hd
          cases hwi : W.marks[i]? with
          | none => rw [hwi] at hd; cases hd
          | some q =>
            rw [hwi] at hd
            cases hd
            have qm := List.mem_of_getElem? hwi
            refine tg_pair tx fun u z tu tz => ?_
            obtain rfl := tu.strI
            have caL := ca.ex (a1.trans (b1.trans e4))
            refine q_asgD (K := K) (P := (· = dNats (ownM kept q.2))) ((ed_tuple (eld_lc (K := K) (l := q.2) (enc := fun (y : Nat) => PyData.int (y : Int)) (fun y => decide (y ∈ kept)) (fun y => .int (kept.idxOf y : Nat)) (src_tup (ed_var rfl (by
                unfold dNats nats at tz
                rw [List.map_map] at tz
                exact tz))).ex (by have := ok.yl q qm; omega) fun p hp x H8 Q8 e8 tx kx => ?_)).imp fun d hd => ?_) fun vo d H8 e8 t8 p8 => ?_
            · obtain rfl := tx.intI
              have caL := caL.ex e8
              refine kx _ rfl (et_bool (ev_inCalls caL (ev_var rfl) (ev_var rfl))) fun hp => ?_
              exact ed_i (ev_calls caL (ev_var rfl) (ev_var rfl) (of_decide_eq_true hp))
            · rw [hd]
              unfold dNats nats ownM
              rw [List.map_map, List.map_map]
              rfl
            · subst p8
              have neq : (!PyData.eqv (dNats (ownM kept q.2)) (.tuple [])) = decide (ownM kept q.2 ≠ []) := by
                show (!PyData.eqv (.tuple _) _) = _
                rw [eqv_nil]
                simp [nats]
              have tw := thin_take (ownM kept) hwi
              have l5 : ∀ {H9 : Hp}, Ex H8 H9 → H9 M = some (.lst zs) := fun e9 => e9 _ _ (e8 _ _ (e4 _ _ b3))
              refine s_when (et_test (ev_is (ev_neD (K := K) (e := .tuple []) (ed_var rfl t8) (ed_tup eds_nil (by simp)) ((shp_nats _).shaped (by decide)) ((shp_tup (n := 0) (by simp)).shaped (by decide))) (congrArg V.bl neq))) (fun hn H9 e9 => ?_) fun hn H9 e9 => ?_
              · have hn := of_decide_eq_true hn
                refine d_raw ⟨_, rfl, .inl ⟨rfl, _, sq_of (l5 e9)⟩, ?_⟩
                refine ed_tup (K := K) (ds := [.str q.1, dNats (ownM kept q.2)]) (eds_c (ed_s (ev_var rfl)) (eds_c (ed_var rfl (t8.ex e9)) eds_nil)) (by simp) H9 (Ex.refl _) _ fun y H10 dd e10 t10 p10 => ?_
                subst p10
                have l8 := l5 (e9.trans e10)
                have yl := b4.len
                rw [List.length_map] at yl
                have tl : (thin (ownM kept) (W.marks.take i)).length ≤ 3 := by
                  unfold thin
                  refine Nat.le_trans (List.length_filter_le _ _) ?_
                  rw [List.length_map]
                  refine Nat.le_trans (List.length_take_le _ _) ?_
                  have := ok.ml
                  have := (List.getElem?_eq_some_iff.mp hwi).1
                  omega
                refine ⟨M, zs, y, rfl, rfl, l8, sz_lt (by omega), ⟨_, _, _, _, rfl⟩, Ex.mut (b1.trans (e4.trans (e8.trans (e9.trans e10)))) nM, _, upd_same, ?_⟩
                rw [tw, if_neg hn, List.map_append]
                have kt : Kt H10 (upd H10 M (.lst (zs ++ [y]))) := Kt.upd l8 rfl
                exact ((b4.ex (e4.trans (e8.trans (e9.trans e10)))).mono kt).snoc (t10.mono kt)
              · have hn : ownM kept q.2 = [] := by
                  have := of_decide_eq_false hn
                  exact Classical.not_not.mp this
                refine ⟨⟨_, _, _, _, rfl⟩, b1.trans (e4.trans (e8.trans e9)), zs, l5 e9, ?_⟩
                rw [tw, if_pos hn, List.append_nil]
                exact b4.ex (e4.trans (e8.trans e9))
        · rintro H3 σ' H6 e3 ⟨⟨b2, c2, d2, f2, rfl⟩, b1, zs, b3, b4⟩
          rw [List.length_map, List.take_length] at b4
          have E6 := e1.trans (a1.trans b1)
          refine s_retD (K := K) (P := (· = dWeb (anew W kept))) ((ed_tup (eds_c (ed_i (ev_lenL (xs := (nats kept).map V.int) (ev_var rfl) (sq_of (E6 _ _ ha)))) (eds_c (ed_tupleL (ev_var rfl) (sq_of (b1 _ _ a3)) (a4.ex b1)) (eds_c (ed_tupleL (ev_var rfl) (sq_of b3) b4) eds_nil))) (by simp)).imp fun d hd => ?_) fun v d H7 e7 t7 p7 => ?_
          · rw [hd]
            simp [dWeb, anew, dSteps, dMarks, nats]
          · subst p7
            exact k v H7 (E6.trans e7) t7
end
end K33
set_option autoImplicit false
set_option Elab.async false
set_option linter.all false
set_option maxRecDepth 100000
set_option maxHeartbeats 4000000
namespace K33
open PySem PySem.Spec PyProof.Rows L2 Evl
/-! ### worlds_reached -/
/-- all stays but what N tells -/
def ExN (N : Addr → Prop) (H H' : Hp) : Prop := ∀ b o, H b = some o → ¬ N b → H' b = some o
theorem ExN.refl {N : Addr → Prop} (H : Hp) : ExN N H H := fun _ _ h _ => h
theorem ExN.ex {N : Addr → Prop} {H H' : Hp} (e : Ex H H') : ExN N H H' := fun b o h _ => e b o h
theorem ExN.trans {N : Addr → Prop} {H H1 H2 : Hp} (a : ExN N H H1) (b : ExN N H1 H2) : ExN N H H2 := fun x o h n => b x o (a x o h n) n
theorem ExN.upd {N : Addr → Prop} {H : Hp} {a : Addr} {o : HO} (h : N a) : ExN N H (upd H a o) := fun b u hb n => by
  rw [upd_ne (fun z => n (by rw [z]; exact h))]
  exact hb
section
variable {K : PySem.W.Frag} {C : Addr} {σ : L2.St} {H H' : Hp} {ta tb tc te tx td : TE} {m : Nat} {W : Web Str}
theorem wk_ints {a : Addr} {ns : List Nat} {G : Hp → Prop} (h : ∀ H', G H' → H' a = some (.lst ((nats ns).map V.int))) : Wk K (Itl K a) G (ns.map fun (y : Nat) => PyData.int (y : Int)) where
  go := fun i H1 g l => by
    have l : i < ns.length := by simpa using l
    exact ⟨_, .int (ns[i] : Nat), sq_of (h H1 g), by simp [nats, l]⟩
  stop := fun H1 g => ⟨_, sq_of (h H1 g), by simp [nats]⟩
  yld := fun i H1 x H2 d g e y => by
    obtain ⟨rfl, y⟩ := y
    have := y _ (sq_of (h _ g))
    rw [List.getElem?_map] at e
    cases q : ns[i]? with
    | none => rw [q] at e; cases e
    | some n =>
      rw [q] at e
      cases e
      simp only [nats, List.getElem?_map, q, Option.map_some] at this
      cases this
      exact ⟨Ex.refl _, .int _⟩
/-- a list walked while others are written -/
theorem src_ilN {N : Addr → Prop} {ns : List Nat} (h : ∀ H1, Ex H H1 → ∀ Q : VK, (∀ l H2, Ex H1 H2 → IntsAt H2 l ns → ¬ N l → Q (.ref l) H2) → te σ H1 Q) : Src (ExN N) K (iList K te) σ H (ns.map fun (y : Nat) => PyData.int (y : Int)) := fun H1 e1 R q =>
  h H1 e1 _ fun l H2 e2 hl hn => ⟨l, rfl, ⟨_, sq_of hl⟩, q _ H2 e2 (wk_ints fun H' g => g _ _ hl hn)⟩
/-- the keys of a dict that is locked -/
theorem src_keys {D : Addr} {o : Obj} {kvs : List (Key × V)} {hs : List Str} (h : Ev td σ H (.ref D)) (hk : H D = some (.frz o (.dK kvs))) (hm : kvs.map (·.1) = hs.map Sum.inr) : Src (fun _ H' => H' D = some (.frz o (.dK kvs))) K (iKeys td) σ H (hs.map PyData.str) := fun H1 e1 R q =>
  h H1 e1 _ fun H2 e2 => ⟨D, o, rfl, .inl ⟨kvs, e2 _ _ (e1 _ _ hk), q _ H2 e2 ⟨fun i H' g l => ⟨g, by
    have := congrArg List.length hm
    simp at this l
    omega⟩, fun H' g => ⟨g, by
    have := congrArg List.length hm
    simp at this ⊢
    omega⟩, fun i H' x H'' d g a b => by
    obtain ⟨rfl, k, v, hkv, rfl⟩ := b
    have h1 : (kvs.map (·.1))[i]? = some k := by rw [List.getElem?_map, hkv]; rfl
    rw [hm, List.getElem?_map] at h1
    rw [List.getElem?_map] at a
    cases p : hs[i]? with
    | none => rw [p] at a; cases a
    | some z =>
      rw [p] at a h1
      cases a
      cases h1
      exact ⟨Ex.refl _, .str _⟩⟩⟩⟩
/-- a view, its dict of hands locked -/
theorem view_lock {p d : Addr} {k : List (Key × V)} {o : Obj} (hd : H d = some (.dK k)) (h : ViewAt K C H p W) : ViewAt K C (upd H d (.frz o (.dK k))) p W := by
  have rd : ∀ {a u}, Rd H a u → Rd (upd H d (.frz o (.dK k))) a u := fun {a u} r => by
    by_cases e : a = d
    · subst e
      rcases r with r | ⟨ob, r⟩
      · rw [hd] at r
        cases r
        exact .inr ⟨o, upd_same⟩
      · rw [hd] at r
        cases r
    · rcases r with r | ⟨ob, r⟩
      · exact .inl (by rw [upd_ne e]; exact r)
      · exact .inr ⟨ob, by rw [upd_ne e]; exact r⟩
  have ne : ∀ {a u}, H a = some u → (∀ k, u ≠ .dK k) → upd H d (.frz o (.dK k)) a = some u := fun {a u} h1 h2 => by
    rw [upd_ne]
    · exact h1
    · rintro rfl
      rw [hd] at h1
      cases h1
      exact h2 _ rfl
  obtain ⟨dx, d1, d2, ho, ⟨k1, r1, m1, f1⟩, k2, r2, m2, f2⟩ := h.ob
  refine ⟨dx, d1, d2, ne ho (fun _ z => nomatch z), ⟨k1, rd r1, m1, fun kv hkv h eh => ?_⟩, k2, rd r2, m2, fun kv hkv z ez => (f2 kv hkv z ez).mono fun a xs => rd⟩
  obtain ⟨r, a, k3, b, c⟩ := f1 kv hkv h eh
  exact ⟨r, a, k3, rd b, fun x => (c x).imp id fun ⟨l, p, q⟩ => ⟨l, p, ne q (fun _ z => nomatch z)⟩⟩
end
/-- the walk half-way: fs found, ls left -/
structure RInv (Hv : Hp) (W : Web Str) (x : Nat) (F L : Addr) (fs ls : List Nat) (H' : Hp) : Prop where
  F0 : Hv F = none
  L0 : Hv L = none
  FL : F ≠ L
  ex : Ex Hv H'
  fk : ∃ kvs : List (Key × V), H' F = some (.dK kvs) ∧ kvs.map (·.1) = fs.map fun (y : Nat) => (Sum.inl (y : Int) : Key)
  lk : H' L = some (.lst ((nats ls).map V.int))
  nd : fs.Nodup
  lt : ∀ y ∈ fs, y < W.many
  st : x ∈ fs
  sub : ∀ y ∈ ls, y ∈ fs
section
variable {Hv H H' : Hp} {W : Web Str} {x : Nat} {F L : Addr} {fs ls : List Nat}
theorem RInv.go (r : RInv Hv W x F L fs ls H) (e : Ex H H') : RInv Hv W x F L fs ls H' :=
  ⟨r.F0, r.L0, r.FL, r.ex.trans e, let ⟨k, a, b⟩ := r.fk; ⟨k, e _ _ a, b⟩, e _ _ r.lk, r.nd, r.lt, r.st, r.sub⟩
theorem RInv.len (r : RInv Hv W x F L fs ls H) : fs.length ≤ W.many := by
  have := nodup_sub (r := List.range W.many) r.nd fun y hy => List.mem_range.mpr (r.lt y hy)
  rwa [List.length_range] at this
/-- the key of a number that is found, of one that is not -/
theorem RInv.has (r : RInv Hv W x F L fs ls H) (y : Nat) : ∃ o : Option V, DGet H F (.int (y : Int)) o ∧ o.isSome = decide (y ∈ fs) := by
  obtain ⟨kvs, h1, h2⟩ := r.fk
  refine ⟨_, .inl ⟨kvs, Sum.inl (y : Int), .inl h1, rfl, rfl⟩, ?_⟩
  have mk : (Sum.inl (y : Int) : Key) ∈ kvs.map (·.1) ↔ y ∈ fs := by
    rw [h2, List.mem_map]
    constructor
    · rintro ⟨z, hz, e⟩
      have : z = y := by have := Sum.inl.inj e; omega
      exact this ▸ hz
    · exact fun h => ⟨y, h, rfl⟩
  cases q : valV kvs (Sum.inl (y : Int)) with
  | none => exact (decide_eq_false fun h => valV_none q (mk.mpr h)).symm
  | some v => exact (decide_eq_true (mk.mp (List.mem_map.mpr ⟨_, valV_mem q, rfl⟩))).symm
theorem RInv.lock (r : RInv Hv W x F L fs ls H) {d : Addr} {k : List (Key × V)} {o : Obj} (hd : Hv d = some (.dK k)) : RInv (upd Hv d (.frz o (.dK k))) W x F L fs ls (upd H d (.frz o (.dK k))) := by
  have nF : F ≠ d := fun z => by subst z; rw [r.F0] at hd; cases hd
  have nL : L ≠ d := fun z => by subst z; rw [r.L0] at hd; cases hd
  obtain ⟨kv, a, b⟩ := r.fk
  refine ⟨by rw [upd_ne nF]; exact r.F0, by rw [upd_ne nL]; exact r.L0, r.FL, fun b u hb => ?_, ⟨kv, by rw [upd_ne nF]; exact a, b⟩, by rw [upd_ne nL]; exact r.lk, r.nd, r.lt, r.st, r.sub⟩
  by_cases e : b = d
  · subst e
    rw [upd_same] at hb ⊢
    exact hb
  · rw [upd_ne e] at hb ⊢
    exact r.ex _ _ hb
theorem RInv.unlock {d : Addr} {k : List (Key × V)} {o : Obj} (hd : Hv d = some (.dK k)) (r : RInv (upd Hv d (.frz o (.dK k))) W x F L fs ls H) : RInv Hv W x F L fs ls (upd H d (.dK k)) := by
  have nF : F ≠ d := fun z => by subst z; have := r.F0; rw [upd_same] at this; cases this
  have nL : L ≠ d := fun z => by subst z; have := r.L0; rw [upd_same] at this; cases this
  obtain ⟨kv, a, b⟩ := r.fk
  refine ⟨by have := r.F0; rwa [upd_ne nF] at this, by have := r.L0; rwa [upd_ne nL] at this, r.FL, fun b u hb => ?_, ⟨kv, by rw [upd_ne nF]; exact a, b⟩, by rw [upd_ne nL]; exact r.lk, r.nd, r.lt, r.st, r.sub⟩
  by_cases e : b = d
  · subst e
    rw [upd_same]
    rw [hd] at hb
    exact hb
  · rw [upd_ne e]
    exact r.ex _ _ (by rw [upd_ne e]; exact hb)
/-- one more found -/
theorem RInv.add (r : RInv Hv W x F L fs ls H) {y : Nat} (hy : y ∉ fs) (hl : y < W.many) : ∃ kvs, H F = some (.dK kvs) ∧ kvs.length ≤ 16 + W.many ∧ ∀ v, RInv Hv W x F L (fs ++ [y]) (ls ++ [y]) (upd (upd H F (.dK (putK kvs (Sum.inl (y : Int)) v))) L (.lst ((nats ls).map V.int ++ [.int (y : Int)]))) := by
  obtain ⟨kvs, h1, h2⟩ := r.fk
  refine ⟨kvs, h1, ?_, fun v => ?_⟩
  · have := congrArg List.length h2
    simp at this
    have := r.len
    omega
  · have nv : valV kvs (Sum.inl (y : Int) : Key) = none := by
      cases q : valV kvs (Sum.inl (y : Int)) with
      | none => rfl
      | some u =>
        have m : (Sum.inl (y : Int) : Key) ∈ kvs.map (·.1) := List.mem_map.mpr ⟨_, valV_mem q, rfl⟩
        rw [h2] at m
        obtain ⟨z, hz, e⟩ := List.mem_map.mp m
        have : z = y := by have := Sum.inl.inj e; omega
        exact (hy (this ▸ hz)).elim
    refine ⟨r.F0, r.L0, r.FL, Ex.mut (Ex.mut r.ex r.F0) r.L0, ⟨kvs ++ [(Sum.inl (y : Int), v)], by rw [upd_ne r.FL, upd_same, putK_new v nv], ?_⟩, ?_, ?_, ?_, ?_, ?_⟩
    · rw [List.map_append, h2, List.map_append]
      rfl
    · rw [upd_same, nats_append, List.map_append]
      rfl
    · rw [List.nodup_append]
      refine ⟨r.nd, by simp, fun a ha b hb => ?_⟩
      rw [List.mem_singleton.mp hb]
      rintro rfl
      exact hy ha
    · intro z hz
      rcases List.mem_append.mp hz with h | h
      · exact r.lt z h
      · rw [List.mem_singleton.mp h]; exact hl
    · exact List.mem_append_left _ r.st
    · intro z hz
      rcases List.mem_append.mp hz with h | h
      · exact List.mem_append_left _ (r.sub z h)
      · exact List.mem_append_right _ h
end
section
variable {P : Program} {w : World} {K : PySem.W.Frag} {mg : Str → Option Value} {base : Heap} {C : Addr}
abbrev sp_reached (K : PySem.W.Frag) : Sp := fun vs H Q _ => ∃ (m : Nat) (W : Web Str) (v : V) (x : Nat), vs = [v, .int (x : Int)] ∧ TD K H v (dWeb W) ∧ WebOk m W ∧ x < W.many ∧
  ∀ p H' kept, H p = none → Ex H H' → IntsAt H' p kept → kept.Nodup → (∀ y ∈ kept, y < W.many) → x ∈ kept → Closed W kept → Q (.ref p) H'
theorem has_reached (D : DefAt K mg "worlds_reached" st_worlds_reached ["web", "world"]) (B : Blt mg) (VC : ViewC K C) (GV : HasC P w K mg base CX0 2 "WebView" C ["self", "web"] (sp_view K C)) (GL : HasM P w K mg base CX0 1 C "led_from" ["self", "hand", "world"] (sp_led_from K C)) :
    Has P w K mg base CX0 4 "worlds_reached" ["web", "world"] (sp_reached K) := by
  refine D.ok sc_worlds_reached (fun vs H Q E h => ?_) (fun f cdv A outer s H vs Q E hr h => ?_)
  · obtain ⟨m, W, v, x, rfl, _⟩ := h
    rfl
  · obtain ⟨m, W, v, x, rfl, tv, ok, hx, k⟩ := h
    have nd := sc_worlds_reached.nd
    have hu := hu_of hr
    refine ⟨_, pss_cons (ps_set (i := 2) nd rfl (.inl rfl) (pe_hasC GV hr (by rfl) pass0 (pa_cons (pv 0) pa_nil)))
      (pss_cons (ps_set (i := 3) nd rfl (.inl rfl) (pe_disp (pps_cons (pv 1) pe_bl pps_nil) rfl rfl (by simp) (by decide)))
      (pss_cons (ps_set (i := 4) nd rfl (.inl rfl) (pe_lst (pa_cons (pv 1) pa_nil)))
      (pss_cons (ps_while PassesOwn.never (pt_cmpR (k_neD K hr.units) (pv 4) (pe_lst pa_nil) (nomark _))
        (pss_cons (ps_set (i := 5) nd rfl (.inl rfl) (pe_bm0 PySem.F.plainAttrs_list PySem.F.slot_list_pop PySem.F.type_list_pop mt_pop (pv 4)))
        (pss_one (ps_lock (ps_for PassesOwn.never rfl (pi_keys (k_fld K (pv 2))) (pg_name (i := 6) nd rfl (.inl rfl))
          (pss_one (ps_for PassesOwn.never rfl (k_pil K (pe_hasM VC.cl GL (hr.mono (by omega)) (pv 2) pass0 (pa_cons (pv 6) (pa_cons (pv 5) pa_nil)))) (pg_name (i := 7) nd rfl (.inl rfl))
            (pss_one (ps_if (pt_cmp (pc_dnotin hu (pv 7) (pv 3)))
              (pss_cons (ps_dput hu (pv 3) (pv 7) pe_bl rfl)
              (pss_one (ps_expr (pe_bm PySem.F.plainAttrs_list PySem.F.slot_list_append PySem.F.type_list_append mt_append (pv 4) (pa_cons (pv 7) pa_nil))))) pss_nil)))))))))
      (pss_one (ps_ret (pe_callB (call_sortedDI rfl) (by rfl) B.b_sorted (by decide +kernel) (pa_cons (pv 3) pa_nil))))))), ?_⟩
    have mz : W.many ≤ 7 := Nat.le_trans ok.many ok.lim
    refine q_view ok (ed_var rfl tv) fun p H1 np e1 vw op => ?_
    refine q_raw ?_
    intro F nF
    refine ⟨_, rfl, upd_same, [(Sum.inl (x : Int), .bl true)], rfl, by simp, ?_⟩
    refine q_raw ?_
    have eF : Ex H1 (upd (upd H1 F (.dK [])) F (.dK (mergeK [] [(Sum.inl (x : Int), .bl true)]))) := Ex.mut (Ex.new nF) nF
    refine ⟨_, rfl, sz_of (by simp), fun L nL => ?_⟩
    have L0 : H1 L = none := fresh_back eF nL
    have FL : F ≠ L := fun z => by
      subst z
      rw [upd_same] at nL
      cases nL
    have R0 : RInv H1 W x F L [x] [x] (upd (upd (upd H1 F (.dK [])) F (.dK (mergeK [] [(Sum.inl (x : Int), .bl true)]))) L (.lst [.int (x : Int)])) :=
      ⟨nF, L0, FL, eF.trans (Ex.new nL), ⟨_, by rw [upd_ne FL, upd_same], rfl⟩, upd_same, by simp, fun y hy => by rw [List.mem_singleton.mp hy]; exact hx, by simp, fun y hy => hy⟩
    obtain ⟨dx, d1, d2, k1, op1, op2, op3⟩ := op
    refine q_while (fun m σ' H' => (∃ a b c, σ' = [some v, some (.int (x : Int)), some (.ref p), some (.ref F), some (.ref L), a, b, c]) ∧ ∃ fs ls, RInv H1 W x F L fs ls H' ∧ m = 2 * (W.many - fs.length) + ls.length ∧ m ≤ 2 * W.many ∧ ∀ y ∈ fs, y ∈ ls ∨ ∀ h, ∀ z ∈ ends W h y, z ∈ fs) _ ⟨⟨none, none, none, rfl⟩, [x], [x], R0, rfl, by simp; omega, fun y hy => .inl hy⟩ ?_
    rintro M σ' H2 ⟨⟨a, b, c, rfl⟩, fs, ls, R, hM, hM3, cl⟩
    refine ⟨decide (ls ≠ []), ?_, fun hb H3 e3 => ?_, fun hb H3 e3 => ?_⟩
    · intro H3 e3 Q3 q3
      refine ⟨_, rfl, sz_of (by simp), fun m nm => ⟨.list ((nats ls).map PyData.int), .list [], .lst (sq_of ((e3.trans (Ex.new nm)) _ _ R.lk)) (TDs.ofInts _).dp, .lst (sq_of upd_same) .nil, (shp_list (n := 0) (fun d hd => by
        obtain ⟨i, _, rfl⟩ := List.mem_map.mp hd
        exact shp_int i)).shaped (by decide), (shp_list (n := 0) (by simp)).shaped (by decide), decide (ls ≠ []), ?_, q3 _ (Ex.new nm)⟩⟩
      cases ls with
      | nil => simp [nats, PyData.eqv, PyData.eqvAll]
      | cons a r => simp [nats, PyData.eqv, PyData.eqvAll]
    · have hl : ls ≠ [] := of_decide_eq_true hb
      obtain ⟨l1, q, rfl⟩ : ∃ l1 q, ls = l1 ++ [q] := ⟨ls.dropLast, ls.getLast hl, (List.dropLast_concat_getLast hl).symm⟩
      have R := R.go e3
      have dl : ((nats (l1 ++ [q])).map V.int).dropLast = (nats l1).map V.int := by simp [nats]
      have qf : q ∈ fs := R.sub q (by simp)
      refine ⟨fun σ2 H' => ∃ m', m' < M ∧ (∃ a b c, σ2 = [some v, some (.int (x : Int)), some (.ref p), some (.ref F), some (.ref L), a, b, c]) ∧ ∃ fs ls, RInv H1 W x F L fs ls H' ∧ m' = 2 * (W.many - fs.length) + ls.length ∧ m' ≤ 2 * W.many ∧ ∀ y ∈ fs, y ∈ ls ∨ ∀ h, ∀ z ∈ ends W h y, z ∈ fs, fun σ2 H' h => h, ?_⟩
      refine q_raw ?_
      refine ⟨_, rfl, .inl ⟨rfl, _, sq_of R.lk⟩, L, _, .int (q : Int), rfl, rfl, R.lk, by simp [nats], ?_⟩
      rw [dl]
      have R1 : RInv H1 W x F L fs l1 (upd H3 L (.lst ((nats l1).map V.int))) :=
        ⟨R.F0, R.L0, R.FL, Ex.mut R.ex R.L0, by obtain ⟨kv, a, b⟩ := R.fk; exact ⟨kv, by rw [upd_ne R.FL]; exact a, b⟩, upd_same, R.nd, R.lt, R.st, fun y hy => R.sub y (by simp [hy])⟩
      have hd3 : upd H3 L (.lst ((nats l1).map V.int)) d1 = some (.dK k1) := R1.ex _ _ op2
      refine ⟨d1, .dK k1, hd3, True.intro, fun od => ?_⟩
      have R2 := R1.lock (o := od) op2
      have vwL := view_lock (o := od) op2 vw
      generalize hHL : upd (upd H3 L (.lst ((nats l1).map V.int))) d1 (.frz od (.dK k1)) = HL at R2 ⊢
      have hM2 : 2 * (W.many - fs.length) + l1.length + 1 = M := by rw [hM]; simp; omega
      have hpL : upd H1 d1 (.frz od (.dK k1)) p = some (.ins C dx [("many", .int (W.many : Int)), ("led_by", .ref d1), ("true_at", .ref d2)]) := by
        rw [upd_ne (fun z => by subst z; rw [op1] at op2; cases op2)]
        exact op1
      refine s_for (K := K) (src_keys (hs := hands W) (D := d1) (o := od) (kvs := k1) ?_ (R2.ex _ _ upd_same) op3) (fun _ i σ H' => (∃ b c, σ = [some v, some (.int (x : Int)), some (.ref p), some (.ref F), some (.ref L), some (.int (q : Int)), b, c]) ∧ ∃ fs ls, RInv (upd H1 d1 (.frz od (.dK k1))) W x F L fs ls H' ∧ 2 * (W.many - fs.length) + ls.length + 1 ≤ M ∧ q ∈ fs ∧ (∀ y ∈ fs, y ∈ ls ∨ y = q ∨ ∀ h, ∀ z ∈ ends W h y, z ∈ fs) ∧ ∀ h ∈ (hands W).take i, ∀ z ∈ ends W h q, z ∈ fs) ?_ (fun _ i σ H' ⟨_, fs, ls, r, _⟩ => r.ex _ _ upd_same) ?_ ?_
      · intro H5 e5 Q5 q5
        exact ⟨_, rfl, p, C, dx, _, _, rfl, e5 _ _ (R2.ex _ _ hpL), VC.cl, VC.n2, rfl, q5 H5 (Ex.refl _)⟩
      · intro H5 e5
        refine ⟨⟨b, c, rfl⟩, fs, l1, R2.go e5, by omega, qf, fun y hy => ?_, by simp⟩
        rcases cl y hy with h | h
        · rcases List.mem_append.mp h with h | h
          · exact .inl h
          · exact .inr (.inl (List.mem_singleton.mp h))
        · exact .inr (.inr h)
      · rintro H5 i d u σ' H6 H7 e5 hd ⟨⟨b, c, rfl⟩, fs, ls, R, hm, qf, cl, ch⟩ e7 tu
        rw [List.getElem?_map] at hd
        cases hhi : (hands W)[i]? with
        | none => rw [hhi] at hd; cases hd
        | some h =>
          rw [hhi] at hd
          cases hd
          obtain rfl := tu.strI
          have R := R.go e7
          refine s_for (K := K) (S := ExN fun b => b = F ∨ b = L) (ds := (ends W h q).map fun (y : Nat) => PyData.int (y : Int)) (src_ilN fun H8 e8 Q8 q8 => ?_) (fun H9 j σ H' => (∃ c, σ = [some v, some (.int (x : Int)), some (.ref p), some (.ref F), some (.ref L), some (.int (q : Int)), some (.str h), c]) ∧ ExN (fun b => b = F ∨ b = L) H9 H' ∧ ∃ fs ls, RInv (upd H1 d1 (.frz od (.dK k1))) W x F L fs ls H' ∧ 2 * (W.many - fs.length) + ls.length + 1 ≤ M ∧ q ∈ fs ∧ (∀ y ∈ fs, y ∈ ls ∨ y = q ∨ ∀ h, ∀ z ∈ ends W h y, z ∈ fs) ∧ (∀ h ∈ (hands W).take i, ∀ z ∈ ends W h q, z ∈ fs) ∧ ∀ z ∈ (ends W h q).take j, z ∈ fs) ?_ (fun H9 j σ H' p => p.2.1) ?_ ?_
          · refine eil_ledV (E := E0) (Hv := upd H1 d1 (.frz od (.dK k1))) (x := q) vwL R.ex (ev_var rfl) (ev_var rfl) (ev_var rfl) H8 e8 _ fun l H10 e10 hl hn => q8 l H10 e10 hl ?_
            obtain ⟨kv, hF, _⟩ := R.fk
            rintro (rfl | rfl)
            · rcases hn with hn | hn
              · rw [e8 _ _ hF] at hn; cases hn
              · exact hn R.F0
            · rcases hn with hn | hn
              · rw [e8 _ _ R.lk] at hn; cases hn
              · exact hn R.L0
          · intro H8 e8
            exact ⟨⟨c, rfl⟩, ExN.refl _, fs, ls, R.go e8, hm, qf, cl, ch, by simp⟩
          · rintro H9 j d y σ' H8 H10 e9 hd ⟨⟨c, rfl⟩, en, fs, ls, R, hm, qf, cl, ch, cz⟩ e10 ty
            rw [List.getElem?_map] at hd
            cases hzj : (ends W h q)[j]? with
            | none => rw [hzj] at hd; cases hd
            | some z =>
              rw [hzj] at hd
              cases hd
              obtain rfl := ty.intI
              have R := R.go e10
              have en := en.trans (ExN.ex e10)
              have zl : z < W.many := ok.wf.ends (List.mem_of_getElem? hzj)
              have tk : ∀ {l : List Nat}, (∀ a ∈ l, a ∈ l) → ∀ a, a ∈ (ends W h q).take (j + 1) → a ∈ (ends W h q).take j ∨ a = z := fun {l} _ a ha => by
                rw [List.take_add_one, hzj] at ha
                rcases List.mem_append.mp ha with ha | ha
                · exact .inl ha
                · exact .inr (by simpa using ha)
              refine s_when (b := !decide (z ∈ fs)) (et_bool fun H11 e11 Q11 q11 => ?_) (fun hb H11 e11 => ?_) fun hb H11 e11 => ?_
              · obtain ⟨o, g1, g2⟩ := (R.go e11).has z
                have := q11 H11 (Ex.refl _)
                rw [← g2] at this
                exact ⟨_, rfl, _, rfl, F, o, rfl, g1, this⟩
              · have hz : z ∉ fs := by simpa using hb
                have R := R.go e11
                obtain ⟨kvs, hk1, hk2, hk3⟩ := R.add hz zl
                refine ⟨_, rfl, _, rfl, F, _, rfl, .inl ⟨kvs, Sum.inl (z : Int), hk1, rfl, sz_lt (by omega), rfl⟩, ?_⟩
                dsimp only
                refine d_raw ?_
                have hL : upd H11 F (.dK (putK kvs (Sum.inl (z : Int)) (.bl true))) L = some (.lst ((nats ls).map V.int)) := by rw [upd_ne R.FL.symm]; exact R.lk
                have R3 := hk3 (.bl true)
                have lz : fs.length + 1 ≤ W.many := by have := R3.len; simpa using this
                refine ⟨_, rfl, .inl ⟨rfl, _, sq_of hL⟩, _, rfl, L, _, .int (z : Int), rfl, rfl, hL, sz_lt ?_, ⟨_, rfl⟩, ?_, fs ++ [z], ls ++ [z], R3, ?_, by simp [qf], fun y hy => ?_, fun h1 hh1 z1 hz1 => List.mem_append_left _ (ch h1 hh1 z1 hz1), fun a ha => ?_⟩
                · have : ls.length + 1 ≤ M := by omega
                  simp [nats]
                  omega
                · exact (en.trans (ExN.ex e11)).trans ((ExN.upd (.inl rfl)).trans (ExN.upd (.inr rfl)))
                · simp
                  omega
                · rcases List.mem_append.mp hy with hy | hy
                  · rcases cl y hy with h1 | h1 | h1
                    · exact .inl (by simp [h1])
                    · exact .inr (.inl h1)
                    · exact .inr (.inr fun h2 z2 hz2 => List.mem_append_left _ (h1 h2 z2 hz2))
                  · exact .inl (List.mem_append_right _ hy)
                · rcases tk (l := []) (fun a h => h) a ha with h1 | h1
                  · exact List.mem_append_left _ (cz a h1)
                  · rw [h1]; simp
              · have hz : z ∈ fs := by simpa using hb
                refine ⟨⟨_, rfl⟩, en.trans (ExN.ex e11), fs, ls, R.go e11, hm, qf, cl, ch, fun a ha => ?_⟩
                rcases tk (l := []) (fun a h => h) a ha with h1 | h1
                · exact cz a h1
                · rw [h1]; exact hz
          · rintro H9 σ' H8 e9 ⟨⟨c, rfl⟩, en, fs, ls, R, hm, qf, cl, ch, cz⟩
            rw [List.length_map, List.take_length] at cz
            refine ⟨⟨_, _, rfl⟩, fs, ls, R, hm, qf, cl, fun h1 hh1 z hz => ?_⟩
            rw [List.take_add_one, hhi] at hh1
            rcases List.mem_append.mp hh1 with g | g
            · exact ch h1 g z hz
            · have : h1 = h := by simpa using g
              subst this
              exact cz z hz
      · rintro H5 σ' H6 e5 ⟨⟨b, c, rfl⟩, fs, ls, R, hm, qf, cl, ch⟩
        rw [List.length_map, List.take_length] at ch
        refine ⟨R.ex _ _ upd_same, _, ?_, ⟨_, _, _, rfl⟩, fs, ls, R.unlock op2, rfl, by omega, fun y hy => ?_⟩
        · omega
        · rcases cl y hy with h1 | h1 | h1
          · exact .inl h1
          · subst h1
            refine .inr fun h z hz => ?_
            by_cases hh : h ∈ hands W
            · exact ch h hh z hz
            · rw [ends_no hh] at hz
              cases hz
          · exact .inr h1
    · have hl : ls = [] := by
        have := of_decide_eq_false hb
        exact Classical.not_not.mp this
      subst hl
      have R := R.go e3
      obtain ⟨kvs, hk1, hk2⟩ := R.fk
      refine r_raw ?_
      refine ⟨_, rfl, F, kvs, nats fs, rfl, .inl hk1, by rw [hk2]; unfold nats; rw [List.map_map]; rfl, by have := R.len; simp [nats]; omega, fun ys q pm pw nq => ?_⟩
      have pm2 : (ys.map Int.toNat).Perm fs := by
        have h1 := pm.map Int.toNat
        have h2 : (nats fs).map Int.toNat = fs := by
          unfold nats
          rw [List.map_map]
          conv => rhs; rw [← List.map_id fs]
          apply List.map_congr_left
          intro a _
          simp
        rw [h2] at h1
        exact h1
      have hy : nats (ys.map Int.toNat) = ys := by
        unfold nats
        rw [List.map_map]
        conv => rhs; rw [← List.map_id ys]
        apply List.map_congr_left
        intro a ha
        have : a ∈ nats fs := pm.mem_iff.mp ha
        unfold nats at this
        obtain ⟨z, _, rfl⟩ := List.mem_map.mp this
        simp
      refine k q _ (ys.map Int.toNat) (fresh_back (e1.trans R.ex) nq) (e1.trans (R.ex.trans (Ex.new nq))) ?_ (pm2.nodup_iff.mpr R.nd) (fun y hy => R.lt y (pm2.mem_iff.mp hy)) (pm2.mem_iff.mpr R.st) ?_
      · unfold IntsAt
        rw [hy]
        exact upd_same
      · intro y hy h z hz
        refine pm2.mem_iff.mpr ?_
        rcases cl y (pm2.mem_iff.mp hy) with h1 | h1
        · cases h1
        · exact h1 h z hz
end
end K33
set_option autoImplicit false
set_option Elab.async false
set_option linter.all false
set_option maxRecDepth 100000
set_option maxHeartbeats 4000000
namespace K33
open PySem PySem.Spec PyProof.Rows L2 Evl
section
variable {P : Program} {w : World} {K : PySem.W.Frag} {mg : Str → Option Value} {base : Heap} {C : Addr}
abbrev sp_need (K : PySem.W.Frag) : Sp := fun vs H Q _ => ∃ (W : Web Str) (v : V) (x : Nat), vs = [v, .int (x : Int)] ∧ TD K H v (dWeb W) ∧ x < W.many ∧ ∀ H', Ex H H' → Q .non H'
theorem has_need (D : DefAt K mg "need_world" st_need_world ["web", "world"]) : Has P w K mg base CX0 1 "need_world" ["web", "world"] (sp_need K) := by
  refine D.ok sc_need_world (fun vs H Q E h => ?_) (fun f cdv A outer s H vs Q E hr h => ?_)
  · obtain ⟨W, v, x, rfl, _⟩ := h
    rfl
  · obtain ⟨W, v, x, rfl, tv, hx, k⟩ := h
    refine ⟨_, pss_one (ps_if (pt_not (pt_chain op_le op_lt pe_int (pv 1) (pe_ix (k_ixT K) (pv 0) pe_int (fun _ _ => rfl)))) pss_never pss_nil), ?_⟩
    refine s_when (b := false) (et_is (et_not (et_test (ev_chain (a := true) (b := true) ev_c (ev_var rfl) (fun H1 e => by
        have := rv_I0 (H := H1) (g := fun i j => V.bl (decide (i ≤ j))) (i := 0) (j := (x : Int))
        rwa [decide_eq_true (show (0 : Int) ≤ (x : Int) by omega)] at this) (fun _ => ev_int (ed_ix (i := 0) (ed_var rfl tv) ev_c rfl)) (fun _ H1 e => by
        have := rv_I0 (H := H1) (g := fun i j => V.bl (decide (i < j))) (i := (x : Int)) (j := (W.many : Int))
        rwa [decide_eq_true (show (x : Int) < (W.many : Int) by omega)] at this)))) rfl) (fun h => nomatch h) fun _ H1 e1 => k H1 e1
abbrev sp_holds (K : PySem.W.Frag) (n : Nat) : Sp := fun vs H Q _ => ∃ (m : Nat) (W : Web Str) (v u : V) (x : Nat) (s : Say Str), vs = [v, .int (x : Int), u] ∧ TD K H v (dWeb W) ∧ WebOk m W ∧ TD K H u (dSay s) ∧ Good WordOk n s ∧ x < W.many ∧
  ∀ H', Ex H H' → Q (.bl (Holds W s x)) H'
theorem ev_index {σ : L2.St} {H : Hp} {te ta : TE} {p : Addr} {ns : List Nat} {x : Nat} (h : Ev te σ H (.ref p)) (hp : IntsAt H p ns) (hx : Ev ta σ H (.int (x : Int))) (hm : x ∈ ns) : Ev (tBM K "list" (rIndex K) te (tCons ta tNil)) σ H (.int (ns.idxOf x : Nat)) := fun H1 e1 Q q =>
  h H1 e1 _ fun H2 e2 => ⟨.inl ⟨rfl, _, sq_of ((e1.trans e2) _ _ hp)⟩, hx H2 (e1.trans e2) _ fun H3 e3 => by
    have il := List.idxOf_lt_length_of_mem hm
    refine ⟨p, _, .int (x : Int), ns.idxOf x, .int (x : Int), rfl, rfl, sq_of ((e1.trans (e2.trans e3)) _ _ hp), rfl, flat_ints _, ?_, by show ((x : Int) == (x : Int)) = true; simp, fun m z hm hz => ?_, q H3 (e2.trans e3)⟩
    · unfold nats
      rw [List.map_map, List.getElem?_map, List.getElem?_eq_getElem il, List.getElem_idxOf]
      rfl
    · unfold nats at hz
      rw [List.map_map, List.getElem?_map] at hz
      have ml : m < ns.length := by omega
      rw [List.getElem?_eq_getElem ml] at hz
      cases hz
      show ((ns[m] : Int) == (x : Int)) = false
      have : ns[m] ≠ x := fun e => by
        have h9 : m < List.findIdx (· == x) ns := hm
        have := List.not_of_lt_findIdx h9
        simp [e] at this
      simp
      omega⟩
theorem has_holds (D : DefAt K mg "holds_at" st_holds_at ["web", "world", "saying"]) {n j : Nat} (hj : 4 ≤ j) (GN : Has P w K mg base CX0 1 "need_world" ["web", "world"] (sp_need K)) (GR : Has P w K mg base CX0 4 "worlds_reached" ["web", "world"] (sp_reached K))
    (GA : Has P w K mg base CX0 1 "called_anew" ["web", "kept"] (sp_anew K)) (GT : Has P w K mg base CX0 j "truths_in" ["web", "saying"] (sp_truths K n)) : Has P w K mg base CX0 (j + 1) "holds_at" ["web", "world", "saying"] (sp_holds K n) := by
  refine D.ok sc_holds_at (fun vs H Q E h => ?_) (fun f cdv A outer s H vs Q E hr h => ?_)
  · obtain ⟨m, W, v, u, x, s, rfl, _⟩ := h
    rfl
  · obtain ⟨m, W, v, u, x, s0, rfl, tv, ok, tu, g, hx, k⟩ := h
    have nd := sc_holds_at.nd
    refine ⟨_, pss_cons (ps_expr (pe_has GN (hr.mono (by omega)) (by rfl) pass0 (pa_cons (pv 0) (pa_cons (pv 1) pa_nil))))
      (pss_cons (ps_set (i := 3) nd rfl (.inl rfl) (pe_has GR (hr.mono (by omega)) (by rfl) pass0 (pa_cons (pv 0) (pa_cons (pv 1) pa_nil))))
      (pss_one (ps_ret (pe_ix (k_ixL K) (pe_has GT hr (by rfl) pass0 (pa_cons (pe_has GA (hr.mono (by omega)) (by rfl) pass0 (pa_cons (pv 0) (pa_cons (pv 3) pa_nil))) (pa_cons (pv 2) pa_nil)))
        (pe_bm PySem.F.plainAttrs_list PySem.F.slot_list_index PySem.F.type_list_index mt_index (pv 3) (pa_cons (pv 1) pa_nil)) (fun _ _ => rfl))))), ?_⟩
    refine ⟨_, rfl, _, rfl, W, v, x, rfl, tv, hx, fun H1 e1 => ?_⟩
    refine ⟨_, rfl, _, rfl, m, W, v, x, rfl, tv.ex e1, ok, hx, fun p H2 kept np e2 hp nd1 lt1 xk cl => ?_⟩
    have e := e1.trans e2
    dsimp only
    refine s_ret (v := .bl (Holds W s0 x)) (fun H3 e3 Q3 q3 => ?_) fun H3 e3 => k H3 (e.trans e3)
    refine ⟨_, rfl, _, rfl, m, W, v, p, kept, rfl, tv.ex (e.trans e3), ok, e3 _ _ hp, nd1, lt1, fun v4 H4 e4 t4 => ?_⟩
    refine ⟨_, rfl, m, anew W kept, v4, u, s0, rfl, t4, anew_ok ok nd1 lt1, tu.ex (e.trans (e3.trans e4)), g, fun a H5 n5 e5 h5 => ?_⟩
    refine ev_index (K := K) (x := x) (ev_var rfl) ((e3.trans (e4.trans e5)) _ _ hp) (ev_var rfl) xk H5 (Ex.refl _) _ fun H6 e6 => ?_
    refine ⟨a, _, _, .bl (Holds W s0 x), rfl, rfl, sq_of (e6 _ _ h5), atI_nat ?_, q3 H6 (e4.trans (e5.trans e6))⟩
    rw [List.getElem?_map, bools_get (show kept.idxOf x < (anew W kept).many from List.idxOf_lt_length_of_mem xk), ← anew_holds ok.wf cl s0 xk]
    rfl
abbrev sp_rweb (K : PySem.W.Frag) : Sp := fun vs H Q _ => ∃ (m : Nat) (W : Web Str) (v : V) (x : Nat), vs = [v, .int (x : Int)] ∧ TD K H v (dWeb W) ∧ WebOk m W ∧ x < W.many ∧
  ∀ v' H' W' y, Ex H H' → TD K H' v' (.tuple [dWeb W', .int (y : Nat)]) → WebOk m W' → y < W'.many → (∀ s, Holds W' s y = Holds W s x) → Q v' H'
theorem has_rweb (D : DefAt K mg "reached_web" st_reached_web ["web", "world"]) (GN : Has P w K mg base CX0 1 "need_world" ["web", "world"] (sp_need K)) (GR : Has P w K mg base CX0 4 "worlds_reached" ["web", "world"] (sp_reached K))
    (GA : Has P w K mg base CX0 1 "called_anew" ["web", "kept"] (sp_anew K)) : Has P w K mg base CX0 5 "reached_web" ["web", "world"] (sp_rweb K) := by
  refine D.ok sc_reached_web (fun vs H Q E h => ?_) (fun f cdv A outer s H vs Q E hr h => ?_)
  · obtain ⟨m, W, v, x, rfl, _⟩ := h
    rfl
  · obtain ⟨m, W, v, x, rfl, tv, ok, hx, k⟩ := h
    have nd := sc_reached_web.nd
    refine ⟨_, pss_cons (ps_expr (pe_has GN (hr.mono (by omega)) (by rfl) pass0 (pa_cons (pv 0) (pa_cons (pv 1) pa_nil))))
      (pss_cons (ps_set (i := 2) nd rfl (.inl rfl) (pe_has GR (hr.mono (by omega)) (by rfl) pass0 (pa_cons (pv 0) (pa_cons (pv 1) pa_nil))))
      (pss_one (ps_ret (pe_tup (pa_cons (pe_has GA (hr.mono (by omega)) (by rfl) pass0 (pa_cons (pv 0) (pa_cons (pv 2) pa_nil)))
        (pa_cons (pe_bm PySem.F.plainAttrs_list PySem.F.slot_list_index PySem.F.type_list_index mt_index (pv 2) (pa_cons (pv 1) pa_nil)) pa_nil)))))), ?_⟩
    refine ⟨_, rfl, _, rfl, W, v, x, rfl, tv, hx, fun H1 e1 => ?_⟩
    refine ⟨_, rfl, _, rfl, m, W, v, x, rfl, tv.ex e1, ok, hx, fun p H2 kept np e2 hp nd1 lt1 xk cl => ?_⟩
    have e := e1.trans e2
    dsimp only
    refine s_retD (K := K) (P := (· = .tuple [dWeb (anew W kept), .int (kept.idxOf x : Nat)])) (ed_tup (eds_c (fun H3 e3 Q3 q3 => ?_) (eds_c (ed_i (ev_index (ev_var rfl) hp (ev_var rfl) xk)) eds_nil)) (by simp)) fun v5 d H5 e5 t5 p5 => ?_
    · exact ⟨_, rfl, _, rfl, m, W, v, p, kept, rfl, tv.ex (e.trans e3), ok, e3 _ _ hp, nd1, lt1, fun v4 H4 e4 t4 => q3 v4 H4 _ e4 t4 rfl⟩
    · subst p5
      exact k v5 H5 (anew W kept) (kept.idxOf x) (e.trans e5) t5 (anew_ok ok nd1 lt1) (List.idxOf_lt_length_of_mem xk) fun s1 => (anew_holds ok.wf cl s1 xk).symm
end
end K33
set_option autoImplicit false
set_option Elab.async false
set_option linter.all false
set_option maxRecDepth 100000
set_option maxHeartbeats 4000000
/-! A dict that numbers nested keys as they come. -/
namespace K33
open PySem PySem.Spec PyProof.Rows L2 Evl
mutual
/-- data as a key -/
def nk : PyData → NestedKey
  | .none => .none
  | .bool b => .num (if b = true then 1 else 0)
  | .int i => .num i
  | .str x => .text x
  | .tuple ds => .tup (nks ds)
  | .list _ => .none
  | .dict _ => .none
def nks : List PyData → List NestedKey
  | [] => []
  | d :: ds => nk d :: nks ds
end
theorem nks_eq (ds : List PyData) : nks ds = ds.map nk := by
  induction ds with
  | nil => simp [nks]
  | cons d r ih => simp [nks, ih]
section
variable {X : Cx} {pins : List (Addr × Obj)} {σ : L2.St} {H : Hp} {s : Shared}
mutual
/-- what is held of data is its key -/
theorem nk_is (I : Inv X pins σ H s) : ∀ (d : PyData) (v : V) (u : Value), TD X.K H v d → RelV v u → NestedIs s.heap (nk d) u
  | .none, _, u, .non, r => by
    obtain rfl : u = .none := r
    exact .none
  | .bool b, _, u, .bl _, r => by
    obtain rfl : u = .bool b := r
    exact .bool rfl
  | .int i, _, u, .int _, r => by
    obtain ⟨t, rfl⟩ : ∃ t, u = .int i t := r
    exact .int i t
  | .str x, _, u, .str _, r => by
    obtain ⟨t, rfl⟩ : ∃ t, u = .str x t := r
    exact .text x t
  | .tuple ds, _, u, .tup hs ts, r => by
    obtain rfl : u = .ref _ := r
    obtain ⟨its, rv, ⟨o, ho, hc, n, hd⟩, _⟩ := I.tuple hs
    rw [nk]
    exact .tup ho hc hd (by simpa using nks_is I ds _ its ts rv)
theorem nks_is (I : Inv X pins σ H s) : ∀ (ds : List PyData) (vs : List V) (us : List Value), TDs X.K H vs ds → Vals vs us → NestedAll s.heap (nks ds) us
  | [], _, us, .nil, r => by
    cases r
    rw [nks]
    exact .nil
  | d :: ds, _, us, .cons t ts, r => by
    cases r with
    | cons r rr =>
      rw [nks]
      exact .cons (nk_is I d _ _ t r) (nks_is I ds _ _ ts rr)
end
/-- the dict's object: the keys with their places; the j-th key's value is j -/
def NumO (P : Program) (w : World) (a : Addr) (l : List (NestedKey × Addr)) : HO := .ext fun h => l.length ≤ sizeLine ∧ (a == sysModules) = false ∧ (l.map (·.1)).Nodup ∧ ∃ xs : List (NestedKey × Addr × Value), xs.map (fun x => (x.1, x.2.1)) = l ∧
  (∀ (j : Nat) x, xs[j]? = some x → ∃ t, x.2.2 = .int (j : Int) t) ∧ ∃ o es ep, h.get? a = some o ∧ o.ExactDict ∧ o.data = .dict es ep ∧ es.toList = xs.map (entryOfKey (nestedKind P w))
/-- each key is told of data -/
def KeyTr (K : PySem.W.Frag) (H : Hp) (l : List (NestedKey × Addr)) : Prop := ∀ p ∈ l, ∃ d, p.1 = nk d ∧ (nk d).depth ≤ 8 ∧ TD K H (.ref p.2) d
theorem KeyTr.kt {K : PySem.W.Frag} {H H' : Hp} {l : List (NestedKey × Addr)} (e : Kt H H') (h : KeyTr K H l) : KeyTr K H' l := fun p hp => let ⟨d, a, b, c⟩ := h p hp; ⟨d, a, b, c.mono e⟩
theorem num_ok {P : Program} {w : World} {H : Hp} {h : Heap} {a : Addr} {l : List (NestedKey × Addr)} (z : l.length ≤ sizeLine) (hd : (a == sysModules) = false) (nd : (l.map (·.1)).Nodup) {xs : List (NestedKey × Addr × Value)} (e : xs.map (fun x => (x.1, x.2.1)) = l)
    (hv : ∀ (j : Nat) x, xs[j]? = some x → ∃ t, x.2.2 = .int (j : Int) t) {o : Obj} {es : Array DictEntry} {ep : Nat} (h1 : h.get? a = some o) (h2 : o.ExactDict) (h3 : o.data = .dict es ep) (h4 : es.toList = xs.map (entryOfKey (nestedKind P w))) : ObjOk P w H h a (NumO P w a l) :=
  ⟨⟨z, hd, nd, xs, e, hv, o, es, ep, h1, h2, h3, h4⟩, ⟨o, h1⟩, fun h1' h2' ⟨z, hd, nd, xs, e, hv, o, es, ep, g1, g2, g3, g4⟩ st => ⟨z, hd, nd, xs, e, hv, o, es, ep, st _ g1, g2, g3, g4⟩⟩
theorem num_of (I : Inv X pins σ H s) {a : Addr} {l : List (NestedKey × Addr)} (e : H a = some (NumO X.prog X.w a l)) (tr : KeyTr X.K H l) : l.length ≤ sizeLine ∧ (a == sysModules) = false ∧ (l.map (·.1)).Nodup ∧
    ∃ xs : List (NestedKey × Addr × Value), xs.map (fun x => (x.1, x.2.1)) = l ∧ (∀ (j : Nat) x, xs[j]? = some x → ∃ t, x.2.2 = .int (j : Int) t) ∧ s.heap.DictOfH (nestedKind X.prog X.w) a xs := by
  obtain ⟨⟨z, hd, nd, xs, ex, hv, o, es, ep, g1, g2, g3, g4⟩, _⟩ := (show ObjOk X.prog X.w H s.heap a (NumO X.prog X.w a l) from I.hok a _ e)
  refine ⟨z, hd, nd, xs, ex, hv, o, es, ep, g1, g2, g3, g4, fun x hx => ?_, ?_⟩
  · have : (x.1, x.2.1) ∈ l := by rw [← ex]; exact List.mem_map.mpr ⟨x, hx, rfl⟩
    obtain ⟨d, h1, h2, h3⟩ := tr _ this
    simp only at h1
    rw [h1]
    exact ⟨nk_is I d _ _ h3 rfl, h2⟩
  · rw [← ex, List.map_map] at nd
    exact nd
/-- what is found at a key -/
theorem num_at {l : List (NestedKey × Addr)} {xs : List (NestedKey × Addr × Value)} (nd : (l.map (·.1)).Nodup) (ex : xs.map (fun x => (x.1, x.2.1)) = l) (hv : ∀ (j : Nat) x, xs[j]? = some x → ∃ t, x.2.2 = .int (j : Int) t) {k : NestedKey} (hk : k ∈ l.map (·.1)) :
    ∃ p t, atKey xs k = some p ∧ p.2 = .int ((l.map (·.1)).idxOf k : Nat) t := by
  have il := List.idxOf_lt_length_of_mem hk
  have hl : xs.length = (l.map (·.1)).length := by rw [← ex]; simp
  have h2 : (l.map (·.1))[(l.map (·.1)).idxOf k]? = some k := by rw [List.getElem?_eq_getElem il, List.getElem_idxOf il]
  have h3 : (xs.map fun x => x.1) = l.map (·.1) := by rw [← ex, List.map_map]; rfl
  generalize (l.map (·.1)).idxOf k = j at il h2 ⊢
  rw [← h3, List.getElem?_map] at h2
  cases q : xs[j]? with
  | none => rw [q] at h2; cases h2
  | some y =>
    rw [q] at h2
    obtain ⟨t, ht⟩ := hv _ _ q
    have e1 : y.1 = k := Option.some.inj h2
    have nd' : (xs.map (·.1)).Nodup := by rw [h3]; exact nd
    refine ⟨y.2, t, atKey_of_get nd' (i := j) ?_, ht⟩
    rw [q, ← e1]
theorem num_no {l : List (NestedKey × Addr)} {xs : List (NestedKey × Addr × Value)} (ex : xs.map (fun x => (x.1, x.2.1)) = l) {k : NestedKey} (hk : k ∉ l.map (·.1)) : atKey xs k = none := by
  refine atKey_none_of_get fun j p hj => hk ?_
  rw [← ex, List.map_map]
  exact List.mem_map.mpr ⟨_, List.mem_of_getElem? hj, rfl⟩
end
/-- {} -/
def tDNewN (P : Program) (w : World) : TE := fun _ H Q => ∀ p, H p = none → Q (.ref p) (upd H p (NumO P w p []))
/-- y not in d -/
def tNotInN (P : Program) (w : World) (K : PySem.W.Frag) (ty td : TE) : TE := fun σ H Q => ty σ H fun y H1 => td σ H1 fun x H2 => ∃ a b l d, x = .ref a ∧ y = .ref b ∧ H2 a = some (NumO P w a l) ∧ KeyTr K H2 l ∧ TD K H2 (.ref b) d ∧ (nk d).depth ≤ 8 ∧ Q (.bl (decide (nk d ∉ l.map (·.1)))) H2
/-- d[y] -/
def tDGetN (P : Program) (w : World) (K : PySem.W.Frag) (td ty : TE) : TE := fun σ H Q => td σ H fun x H1 => ty σ H1 fun y H2 => ∃ a b l d, x = .ref a ∧ y = .ref b ∧ H2 a = some (NumO P w a l) ∧ KeyTr K H2 l ∧ TD K H2 (.ref b) d ∧ (nk d).depth ≤ 8 ∧ nk d ∈ l.map (·.1) ∧ Q (.int ((l.map (·.1)).idxOf (nk d) : Nat)) H2
/-- d[y] = the next number -/
def sDPutN (P : Program) (w : World) (K : PySem.W.Frag) (td ty tv : TE) : TS := fun D σ H => tv σ H fun v H1 => td σ H1 fun x H2 => ty σ H2 fun y H3 => ∃ a b l d, x = .ref a ∧ y = .ref b ∧ v = .int (l.length : Nat) ∧ H3 a = some (NumO P w a l) ∧ KeyTr K H3 l ∧ TD K H3 (.ref b) d ∧ (nk d).depth ≤ 8 ∧ nk d ∉ l.map (·.1) ∧ l.length < sizeLine ∧
  D.nx σ (upd H3 a (NumO P w a (l ++ [(nk d, b)])))
def rLenN (P : Program) (w : World) (K : PySem.W.Frag) : List V → Hp → VK → Prop := fun xs H Q => ∃ a l, xs = [.ref a] ∧ H a = some (NumO P w a l) ∧ KeyTr K H l ∧ Q (.int (l.length : Nat)) H
section
variable {X : Cx} {pos pos' : Pos} {o i value : Expr} {td ty tv : TE}
theorem pe_dnewN : PE X (.Dict [] [] pos) (tDNewN X.prog X.w) := ⟨fun pins s σ H Q I h =>
  wpAny_Dict_empty ⟨.ref s.heap.objs.size, _, I.laid (a := s.heap.objs.size) (o := NumO X.prog X.w s.heap.objs.size []) (t' := s.toks) (fun _ _ q => Heap.get?_push_of_some _ q) (Nat.le_refl _)
    (num_ok (xs := []) (Nat.zero_le _) (beq_eq_false_iff_ne.mpr (Ne.symm (Nat.ne_of_lt I.big))) List.nodup_nil rfl (fun j x h => by simp at h) (Heap.get?_push_size _ rfl) ⟨rfl, rfl, rfl⟩ rfl rfl), rfl, h _ (I.hok.fresh (Nat.le_refl _))⟩⟩
theorem pc_dnotinN (hu : X.A.units + 64 < cLine) (hi : PE X i ty) (ho : PE X o td) : PC X .NotIn i o (tNotInN X.prog X.w X.K ty td) := by
  refine ⟨fun pins s σ H Q I h => ?_⟩
  refine thn (hi.run pins s σ H _ I h) fun iv s1 ⟨y, H1, I1, ry, q1⟩ => thn (ho.run pins s1 σ H1 _ I1 q1) fun u s2 ⟨x, H2, I2, rx, a, b, l, d, ex, ey, ha, tr, td, dz, q2⟩ => ?_
  subst ex ey
  obtain rfl : u = Value.ref a := rx
  obtain rfl : iv = Value.ref b := ry
  obtain ⟨z, hd, nd, xs, ex, hv, dd⟩ := num_of I2 ha tr
  refine wpAny_notIn_heap (knd := nestedKind X.prog X.w) (k := nk d) (show X.A.units + 1 + 8 < cLine by omega) ⟨nk_is I2 d _ _ td rfl, dz⟩ hd dd ?_
  have : (!(atKey xs (nk d)).isSome) = decide (nk d ∉ l.map (·.1)) := by
    by_cases hk : nk d ∈ l.map (·.1)
    · obtain ⟨p, t, h1, _⟩ := num_at nd ex hv hk
      rw [h1]
      simp only [Option.isSome_some, Bool.not_true]
      exact (decide_eq_false (fun h => h hk)).symm
    · rw [num_no ex hk]
      exact (decide_eq_true hk).symm
  rw [this]
  exact ⟨.bl (decide (nk d ∉ l.map (fun (p : NestedKey × Addr) => p.1))), H2, I2.tok _, rfl, q2⟩
theorem pe_dgetN (hu : X.A.units + 64 < cLine) (ho : PE X o td) (hi : PE X i ty) (hs : NoSl i) : PE X (.Subscript o i pos) (tDGetN X.prog X.w X.K td ty) := by
  refine ⟨fun pins s σ H Q I h => ?_⟩
  refine subD_of PySem.F.slot_dict_getitem.lookup hs (thn (ho.run pins s σ H _ I h) fun u s1 ⟨x, H1, I1, rx, q1⟩ => thn (hi.run pins s1 σ H1 _ I1 q1) fun iv s2 ⟨y, H2, I2, ry, a, b, l, d, ex, ey, ha, tr, td, dz, hk, q2⟩ => ?_)
  subst ex ey
  obtain rfl : u = Value.ref a := rx
  obtain rfl : iv = Value.ref b := ry
  obtain ⟨z, hd, nd, xs, ex, hv, dd⟩ := num_of I2 ha tr
  obtain ⟨p, t, h1, h2⟩ := num_at nd ex hv hk
  refine ⟨dd.typeIs, wpAny_getItem_heap (knd := nestedKind X.prog X.w) (k := nk d) (show X.A.units + 1 + 8 < cLine by omega) ⟨nk_is I2 d _ _ td rfl, dz⟩ dd h1 ?_⟩
  rw [h2]
  exact ⟨.int ((l.map (fun (p : NestedKey × Addr) => p.1)).idxOf (nk d) : Nat), H2, I2.tok _, ⟨t, rfl⟩, q2⟩
theorem ps_dputN (hu : X.A.units + 64 < cLine) (ho : PE X o td) (hi : PE X i ty) (hv : PE X value tv) (hs : swapsWith value (some (.Subscript o i pos')) pos.line X.env = pure false) :
    PS X (.Assign [.Subscript o i pos'] value pos) (sDPutN X.prog X.w X.K td ty tv) := by
  refine ⟨fun pins s σ H D I h => ?_⟩
  refine wpAny_Assign_Subscript (thn (hv.run pins s σ H _ I h) fun r s1 ⟨v, H1, I1, rv, q1⟩ => thn (ho.run pins s1 σ H1 _ I1 q1) fun u s2 ⟨x, H2, I2, rx, q2⟩ => thn (hi.run pins s2 σ H2 _ I2 q2) fun iv s3 ⟨y, H3, I3, ry, a, b, l, d, ex, ey, ev, ha, tr, td, dz, hk, lz, q3⟩ => ?_) hs
  subst ex ey ev
  obtain rfl : u = Value.ref a := rx
  obtain rfl : iv = Value.ref b := ry
  obtain ⟨tk, rfl⟩ : ∃ t, r = .int (l.length : Nat) t := rv
  obtain ⟨z, hd, nd, xs, ex, hv, dd⟩ := num_of I3 ha tr
  have hl : xs.length = l.length := by rw [← ex]; simp
  refine wpAny_setItem_heap (knd := nestedKind X.prog X.w) (k := nk d) (hsz := by rw [hl]; exact z) (show X.A.units + 1 + 8 < cLine by omega) ⟨nk_is I3 d _ _ td rfl, dz⟩ dd fun h' dd' hs => ?_
  rw [storedH_new (num_no ex hk)] at dd'
  obtain ⟨q, es, ep, hq, h2, h3, h4, _, h5⟩ := dd'
  refine ⟨σ, _, d_write I3 (by rw [ha]; exact True.intro) hs ⟨q, hq⟩ (num_ok (xs := xs ++ [(nk d, b, .int (l.length : Nat) tk)]) (by simp; omega) hd ?_ ?_ ?_ hq h2 h3 h4), q3⟩
  · rw [List.map_append, List.nodup_append]
    refine ⟨nd, by simp, fun p hp r hr => ?_⟩
    have : r = nk d := by simpa using hr
    subst this
    rintro rfl
    exact hk hp
  · rw [List.map_append, ex]
    rfl
  · intro j x hx
    by_cases hj : j < xs.length
    · rw [List.getElem?_append_left hj] at hx
      exact hv j x hx
    · rw [List.getElem?_append_right (by omega)] at hx
      have : j = xs.length := by
        have := (List.getElem?_eq_some_iff.mp hx).1
        simp at this
        omega
      subst this
      rw [Nat.sub_self] at hx
      cases hx
      rw [hl]
      exact ⟨tk, rfl⟩
theorem call_lenN : CallR X (.builtin "len") (rLenN X.prog X.w X.K) := by
  intro pins s σ H xs us Q I r h
  obtain ⟨a, l, rfl, ha, tr, q⟩ := h
  obtain ⟨u, rfl, rx⟩ := vals1 r
  obtain rfl : u = .ref a := rx
  obtain ⟨z, hd, nd, ys, ex, hv, dd⟩ := num_of I ha tr
  have hl : ys.length = l.length := by rw [← ex]; simp
  refine call_len_dictH hd dd (by rw [hl]; rw [sizeLine_eq] at z; omega) ?_
  rw [hl]
  exact ⟨.int (l.length : Nat), H, I.tok _, ⟨_, rfl⟩, q⟩
end
end K33
set_option autoImplicit false
set_option Elab.async false
set_option linter.all false
set_option maxRecDepth 100000
set_option maxHeartbeats 4000000
/-! Sets of ints by a comprehension (the road of HandS.SetBool, for ints), sorted. -/
namespace K33
open PySem PySem.Spec PyProof.Rows L2 Evl
/-- {e for tg in ..}, ints: D the new set -/
def tSi (w : World) (wi : TI) (g : TG) (te : TE) (vs : List Nat) : TE := fun σ H Q => wi σ H fun J H1 => ∀ D, H1 D = none → ∃ W : Nat → Nat → Hp → Prop, (∃ m, W 0 m (upd H1 D (SetO w D (fun _ => false) 0))) ∧ ∀ i m H, W i m H →
  (J.stop i H ∧ Q (.ref D) H) ∨ (J.go i H ∧ ∃ Nx : Hp → Prop, (∀ H', Nx H' → ∃ m', m' < m ∧ W (i + 1) m' H') ∧ ∀ x H', J.yld i H x H' → g x (wipe σ vs) H' fun σ2 H2 => wipe σ2 vs = wipe σ vs ∧
    te σ2 H2 fun y H4 => ∃ (c : Int) (S : Int → Bool) (n : Nat), y = .int c ∧ H4 D = some (SetO w D S n) ∧ n + 1 < scanBound ∧ Nx (upd H4 D (SetO w D (fun j => S j || decide (j = c)) (if S c = true then n else n + 1))))
section
variable {X : Cx}
theorem set_add {pins : List (Addr × Obj)} {σ : L2.St} {H : Hp} {s : Shared} {E : Value → Shared → Prop} {D : Addr} {S : Int → Bool} {n : Nat} {k : Int} {tk : Tok} {Q : Value → Shared → Prop} (I : Inv X pins σ H s) (hD : H D = some (SetO X.w D S n)) (room : n + 1 < scanBound)
    (h : ∀ s', Inv X pins σ (upd H D (SetO X.w D (fun j => S j || decide (j = k)) (if S k = true then n else n + 1))) s' → Q .none s') : wpAny (model X.prog X.w) X.A (call (.builtin "set.add") [.ref D, .int k tk]) Q E s :=
  setR_add (setO_get I hD) room fun h' sb new => h _ (I.write (e := D) (t' := s.toks + 1) (by rw [hD]; trivial) (.inl rfl) (fun b u hb hu => (sb.2 b hb).trans hu) (let ⟨o, _, _, _, ho, _⟩ := new; ⟨o, ho⟩) (setO_new new))
/-- the environment of a block that begins in s₀ -/
abbrev blkEnv (X : Cx) (scope : Scope) (s₀ : Shared) : Env := compEnvC scope (cellsFrom (s₀.heap.objs.size + 1) scope.names (cloFrom X.env.cells scope.names [])) s₀.heap.objs.size X.env
/-- a comprehension that stands ahead of its block: its collecting thing is laid, its iterator waits -/
structure Ahead (X : Cx) (pins : List (Addr × Obj)) (σ : L2.St) (scope : Scope) (own : List (PySem.Str × Nat)) (tg : Expr) (J : It) (it : Addr) (fp : List Addr) (tn : Nat → Heap → Prop) (s₀ : Shared) (H₀ : Hp) : Prop where
  calm : X.calm = true
  nd : X.N.Nodup
  inv : Inv X pins σ H₀ s₀
  ok : BlkOk X.N X.env.scope scope own
  turn : Turn X.prog X.w X.K tg J fp it tn
  at0 : tn 0 s₀.heap
  fps : ∀ b ∈ fp, FpOk X pins H₀ b ∧ b < s₀.heap.objs.size
section
variable {pins : List (Addr × Obj)} {σ : L2.St} {scope : Scope} {own : List (PySem.Str × Nat)} {tg : Expr} {J : It} {it : Addr} {fp : List Addr} {tn : Nat → Heap → Prop} {s₀ : Shared} {H₀ : Hp} {i : Nat} {H : Hp} {s : Shared} {E : Value → Shared → Prop}
/-- the block stands between two turns, i of them are done -/
def Between (X : Cx) (σ : L2.St) (scope : Scope) (own : List (PySem.Str × Nat)) (fp : List Addr) (tn : Nat → Heap → Prop) (s₀ : Shared) (H₀ : Hp) (i : Nat) (H : Hp) (s : Shared) : Prop :=
  Inv (X.blk s₀ H₀ scope (blkEnv X scope s₀) fp) [] (wipe σ (own.map (·.2))) H s ∧ tn i s.heap ∧ ∀ b ∈ fp, H b = none
/-- the block is in the midst of a turn that begins at s₁ -/
def Midst (X : Cx) (σ : L2.St) (scope : Scope) (own : List (PySem.Str × Nat)) (fp : List Addr) (s₀ : Shared) (H₀ : Hp) (s₁ : Shared) (σ' : L2.St) (H : Hp) (s : Shared) : Prop :=
  Inv (X.blk s₀ H₀ scope (blkEnv X scope s₀) fp) (pinsAt fp s₁.heap) σ' H s
theorem Ahead.enter (B : Ahead X pins σ scope own tg J it fp tn s₀ H₀) : Between X σ scope own fp tn s₀ H₀ 0 H₀ { s₀ with heap := pushCells (s₀.heap.push { cls := .type "dict", data := .dict #[] }) scope.names } :=
  ⟨block_start B.inv B.ok B.nd B.fps, B.turn.keep 0 _ _ B.at0 fun b _ o e => pushCells_keeps _ _ b o (Heap.get?_push_of_some _ e), fun b hb => (B.fps b hb).1.1⟩
/-- inside the block the iterator's objects are nobody else's -/
theorem blk_fp {pl : List (Addr × Obj)} {σ' : L2.St} (I : Inv (X.blk s₀ H₀ scope (blkEnv X scope s₀) fp) pl σ' H s) (n : ∀ b ∈ fp, H b = none) (e : pl = []) : ∀ b ∈ fp, FpOk (X.blk s₀ H₀ scope (blkEnv X scope s₀) fp) pl H b := by
  subst e
  intro b hb
  obtain ⟨q1, q2⟩ := I.ok.exf b hb
  exact ⟨n b hb, q1, I.ok.exfs b hb, Or.inl hb, q2, by simp⟩
/-- the iterator is at its end: back to the frame around the block -/
theorem Ahead.leave (B : Ahead X pins σ scope own tg J it fp tn s₀ H₀) (b : Between X σ scope own fp tn s₀ H₀ i H s) (stop : J.stop i H) :
    wpAny (model X.prog X.w) X.A (pyNext (.ref it)) (fun r s' => r = none ∧ Inv X pins σ H s' ∧ FpOk X pins H s₀.heap.objs.size ∧ ∃ m, s'.heap.Ns s₀.heap.objs.size m) E s := by
  obtain ⟨I, st, n⟩ := b
  refine thnF (B.turn.done (X.blk s₀ H₀ scope (blkEnv X scope s₀) fp) rfl rfl rfl B.calm i [] s _ H _ I (blk_fp I n rfl) st stop) ?_
  rintro r s' ⟨rfl, I'⟩
  have lone : H s₀.heap.objs.size = none := I'.free
  have back : Inv X pins σ H s' := B.inv.call' I'.os I'.base I'.hok I'.bare fun b hb => by
    obtain ⟨⟨_, q1, _, q2, q3, q4⟩, _⟩ := B.fps b hb
    exact ⟨q2, q1, q3, q4⟩
  exact ⟨rfl, back, B.inv.fpOk (Nat.le_refl _) lone, I'.loc.elim fun m z => ⟨m, z.1⟩⟩
/-- the iterator gives one thing: the turn begins -/
theorem Ahead.take (B : Ahead X pins σ scope own tg J it fp tn s₀ H₀) (b : Between X σ scope own fp tn s₀ H₀ i H s) (go : J.go i H) :
    wpAny (model X.prog X.w) X.A (pyNext (.ref it)) (fun r s' => ∃ u, r = some u ∧ wpAny (model X.prog X.w) X.A (letOwnedTupleGo tg (.ref it) u) (fun _ s₁ => ∃ x H₁, RelV x u ∧ J.yld i H x H₁ ∧
      Midst X σ scope own fp s₀ H₀ s₁ (wipe σ (own.map (·.2))) H₁ s₁ ∧
      ∀ σ₂ H₂ s₂, Midst X σ scope own fp s₀ H₀ s₁ σ₂ H₂ s₂ → wipe σ₂ (own.map (·.2)) = wipe σ (own.map (·.2)) → Between X σ scope own fp tn s₀ H₀ (i + 1) H₂ s₂) (fun _ _ => False) s') E s := by
  obtain ⟨I, st, n⟩ := b
  refine thnF (B.turn.item (X.blk s₀ H₀ scope (blkEnv X scope s₀) fp) rfl rfl rfl B.calm i [] s _ H _ I (blk_fp I n rfl) st go) ?_
  rintro r s' ⟨u, rfl, q⟩
  refine ⟨u, rfl, thnF q ?_⟩
  rintro _ s₁ ⟨x, H₁, I₁, rx, y, st₁, n₁⟩
  have objs := B.turn.obj (i + 1) s₁.heap st₁
  refine ⟨x, H₁, rx, y, I₁.pinned (blk_fp I₁ n₁ rfl) objs, ?_⟩
  intro σ₂ H₂ s₂ I₂ same
  have held (b : Addr) (hb : b ∈ fp) (o : Obj) (e : s₁.heap.get? b = some o) := I₂.pin (b, o) (List.mem_append_right _ (mem_pinsAt hb e))
  have I₃ : Inv (X.blk s₀ H₀ scope (blkEnv X scope s₀) fp) ([] ++ pinsAt fp s₁.heap) σ₂ H₂ s₂ := I₂
  refine ⟨I₃.unpinned.weak (by rw [← same, wipe_length]) fun j v e => ?_, B.turn.keep _ _ _ st₁ fun b hb o e => (held b hb o e).1, fun b hb => ?_⟩
  · exact (wipe_some (same ▸ e)).1
  · obtain ⟨o, e, _⟩ := objs b hb
    exact (held b hb o e).2.1
end
/-- a new set is laid, the block has not begun -/
theorem ahead_set {pins : List (Addr × Obj)} {σ : L2.St} {scope : Scope} {own : List (PySem.Str × Nat)} {tg : Expr} {J : It} {it : Addr} {fp : List Addr} {tn : Nat → Heap → Prop} {s : Shared} {H : Hp} (hc : X.calm = true) (hN : X.N.Nodup) (ok : BlkOk X.N X.env.scope scope own)
    (I : Inv X pins σ H s) (T : Turn X.prog X.w X.K tg J fp it tn) (st : tn 0 s.heap) (f : ∀ b ∈ fp, FpOk X pins H b) :
    Ahead X pins σ scope own tg J it fp tn { s with heap := s.heap.push { cls := .type "set", dict := none, data := .set #[] 0 (.fresh 0 0 (!X.w.params.followText "set-order")) } } (upd H s.heap.objs.size (SetO X.w s.heap.objs.size (fun _ => false) 0)) where
  calm := hc
  nd := hN
  ok := ok
  turn := T
  inv := I.laid (t' := s.toks) (fun _ _ e => Heap.get?_push_of_some _ e) (Nat.le_refl _) (setO_new (setR_fresh X.w))
  at0 := T.keep 0 _ _ st fun _ _ _ e => Heap.get?_push_of_some _ e
  fps b hb := by
    have low : b < s.heap.objs.size := (T.obj 0 _ st b hb).elim fun _ z => Heap.lt_size z.1
    refine ⟨⟨?_, (f b hb).2⟩, ?_⟩
    · rw [upd_ne (Nat.ne_of_lt low), (f b hb).1]
    · rw [Heap.size_push]
      exact Nat.lt_succ_of_lt low
/-- what is promised of each part of a block, wherever it begins -/
def InBlk (X : Cx) (scope : Scope) (P : Cx → Prop) : Prop := ∀ (s : Shared) (H : Hp) (C : Addr) (cl : List (PySem.Str × Addr)) (fp : List Addr), P (X.blk s H scope (compEnvC scope cl C X.env) fp)
theorem pe_si {elt tg iter : Expr} {scope : Scope} {own : List (PySem.Str × Nat)} {pos : Pos} {wi : TI} {g : TG} {te : TE} (hc : X.calm = true) (hN : X.N.Nodup) (hi : PI X tg iter wi) (ok : BlkOk X.N X.env.scope scope own)
    (hg : InBlk X scope fun B => PG B tg g) (he : InBlk X scope fun B => PE B elt te) (hs : ∀ x, foldedSetIterable iter X.env x = pure x := by intro _; rfl) :
    PE X (.SetComp elt [⟨tg, iter, [], 0⟩] scope pos) (tSi X.w wi g te (own.map (·.2))) := by
  constructor
  intro pins s σ H Q I h
  rw [PpSet.eval_SetComp]
  have cells : ∀ y ∈ scope.names, y.2 = .free → ∃ c, X.env.cells.lookup y.1 = some c := fun y hy e => I.ok.has _ (ok.free y hy e)
  refine wpAny_comprehension_free (use := none) rfl hs (closure_ok cells) ok.kind (fun y hy e => e ▸ ok.uniq y hy) (thn (hi.run pins s σ H _ I h) fun _ s₁ q₁ => thn q₁ ?_)
  rintro _ s₂ ⟨it, fp, tn, J, H₂, rfl, I₂, T, st, f, q⟩
  obtain ⟨W, ⟨m₀, w₀⟩, more⟩ := q _ (I₂.hok.fresh (Nat.le_refl _))
  refine PpSet.newSet_ok (newEnv_comp ?_)
  have B := ahead_set hc hN ok I₂ T st f
  generalize s₂.heap.objs.size = D at B w₀ more ⊢
  generalize upd H₂ D (SetO X.w D (fun _ => false) 0) = H₃ at B w₀
  generalize ({ s₂ with heap := s₂.heap.push { cls := .type "set", dict := none, data := .set #[] 0 (.fresh 0 0 (!X.w.params.followText "set-order")) } } : Shared) = s₃ at B ⊢
  have tgt := hg s₃ H₃ s₃.heap.objs.size (cellsFrom (s₃.heap.objs.size + 1) scope.names (cloFrom X.env.cells scope.names [])) fp
  have val := he s₃ H₃ s₃.heap.objs.size (cellsFrom (s₃.heap.objs.size + 1) scope.names (cloFrom X.env.cells scope.names [])) fp
  have first := B.enter
  have loop := PpSet.compLoopS_any (prog := X.prog) (w := X.w) (A := X.A) (R := compPost (model X.prog X.w) X.A X.xe none (fun v s' => ∃ x H', Inv X pins σ H' s' ∧ RelV x v ∧ Q x H') (.ref D) s₃.heap.objs.size) (elt := elt) (target := tg) (iter := iter) (ifs := []) (scope := scope) (pos := pos) (it := .ref it) (acc := .ref D) (env := blkEnv X scope s₃)
    (fun n s' => ∃ i H', Between X σ scope own fp tn s₃ H₃ i H' s' ∧ W i n H') (by
      rintro n s₄ ⟨i, H₄, btw, w⟩
      rcases more i n H₄ w with ⟨stop, out⟩ | ⟨go, Nx, less, step⟩
      · refine thnF (B.leave (E := fun _ _ => False) btw stop) ?_
        rintro _ s₅ ⟨rfl, J₅, ⟨z0, z1, _, z3, z4, z5⟩, m, ns⟩
        exact ⟨m, ns, fun h' sb => ⟨.ref D, H₄, J₅.turned (t' := s₅.toks) (fun b o off e => (sb.2 b off).trans e) z0 z1 z3 z4 z5, rfl, out⟩⟩
      · refine thnF (B.take (E := fun _ _ => False) btw go) ?_
        rintro _ s₅ ⟨u, rfl, q₅⟩
        refine thnF q₅ ?_
        rintro _ s₆ ⟨x, H₆, rx, y, I₆, close⟩
        refine thnF (tgt.run _ s₆ _ H₆ x u _ I₆ rx (step x H₆ y)) ?_
        rintro _ s₇ ⟨σ₇, H₇, I₇, same, q₇⟩
        refine wpAny_pure ?_
        rw [if_pos rfl]
        refine thnF (val.run _ s₇ σ₇ H₇ _ I₇ q₇) ?_
        rintro v s₈ ⟨_, H₈, I₈, rv, c, S, k, rfl, hD, room, nx⟩
        obtain ⟨tk, rfl⟩ : ∃ t, v = .int c t := rv
        refine set_add (X := X.blk s₃ H₃ scope (blkEnv X scope s₃) fp) I₈ hD room fun s₉ I₉ => ?_
        obtain ⟨m, lt, w'⟩ := less _ nx
        exact ⟨m, lt, i + 1, _, close _ _ _ I₉ same, w'⟩) m₀ (s := { s₃ with heap := pushCells (s₃.heap.push { cls := .type "dict", data := .dict #[] }) scope.names }) ⟨0, H₃, first, w₀⟩
  exact PpSet.codeAny_compStart_set loop (T.self X.A 0 _ _ _ first.2.1 loop)
end
theorem k_sset (w : World) {X : Cx} (hc : X.calm = true) (h : X.w = w := by rfl) : CallR X (.builtin "sorted") (rSortedSet w) := h ▸ cr_sortedSet hc
theorem k_si (w : World) {X : Cx} {elt tg iter : Expr} {scope : Scope} {own : List (PySem.Str × Nat)} {pos : Pos} {wi : TI} {g : TG} {te : TE} (hc : X.calm = true) (hN : X.N.Nodup) (hi : PI X tg iter wi) (ok : BlkOk X.N X.env.scope scope own)
    (hg : InBlk X scope fun B => PG B tg g) (he : InBlk X scope fun B => PE B elt te) (hs : ∀ x, foldedSetIterable iter X.env x = pure x := by intro _; rfl) (hw : X.w = w := by rfl) :
    PE X (.SetComp elt [⟨tg, iter, [], 0⟩] scope pos) (tSi w wi g te (own.map (·.2))) := hw ▸ pe_si hc hN hi ok hg he hs
/-- an environment of a scope alone -/
def envS (sc : Scope) : Env := { scope := sc, locals := 0, globals := 0, cells := [], qual := "", func := none, code := .none, frame := none, builtins := 0 }
/-- names of a block in a block -/
theorem blk2 {X : Cx} {N : List PySem.Str} {sc0 scope0 scope : Scope} {own : List (PySem.Str × Nat)} (hN : X.N = N) (hs : X.env.scope = relabel scope0 (envS sc0)) (h : blkC N (relabel scope0 (envS sc0)) scope own = true) : BlkOk X.N X.env.scope scope own := by
  rw [← hN, ← hs] at h
  exact blkOk_by h
end K33
set_option autoImplicit false
set_option Elab.async false
set_option linter.all false
set_option maxRecDepth 100000
set_option maxHeartbeats 4000000
namespace K33
open PySem PySem.Spec PyProof.Rows L2 Evl
section
variable {P : Program} {w : World} {K : PySem.W.Frag} {mg : Str → Option Value} {base : Heap}
abbrev sp_letters_at (K : PySem.W.Frag) : Sp := fun vs H Q _ => ∃ (W : Web Str) (x : Nat), TDs K H vs [dWeb W, .int (x : Int)] ∧ W.marks.length ≤ 100000 ∧ ∀ v H', Ex H H' → TD K H' v (.tuple ((W.marks.filter fun p => decide (x ∈ p.2)).map fun p => PyData.str p.1)) → Q v H'
theorem has_letters_at (D : DefAt K mg "letters_at" st_letters_at ["web", "world"]) (B : Blt mg) : Has P w K mg base CX0 1 "letters_at" ["web", "world"] (sp_letters_at K) := by
  refine D.ok sc_letters_at (fun vs H Q E h => ?_) (fun f cdv A outer s H vs Q E hr h => ?_)
  · obtain ⟨W, x, t, _⟩ := h
    exact t.len
  · obtain ⟨W, x, t, hz, k⟩ := h
    refine ⟨_, pss_one (ps_ret (pe_callTy (k_tuple K) (by rfl) B.b_tuple (by decide +kernel) (pa_cons
      (pe_lc (own := [("word", 2), ("worlds", 3)]) rfl sc_letters_at.nd (k_pit K (pe_ix (k_ixT K) (pv 0) pe_int (fun _ _ => rfl))) (blk (N := ["web", "world", "word", "worlds"]) (sc := defScope st_letters_at) (by decide +kernel))
        (fun _ _ _ _ _ => k_tup K 2 rfl (pgs_cons (pg_name (i := 2) sc_letters_at.nd rfl (.inl rfl)) (pgs_cons (pg_name (i := 3) sc_letters_at.nd rfl (.inl rfl)) pgs_nil)))
        (fun _ _ _ _ _ => pts_one (pt_cmpR (k_in K) (pv 1) (pv 3) (by rfl)))
        (fun _ _ _ _ _ => pv 2)) pa_nil))), ?_⟩
    obtain ⟨vw, r, rfl, tw, t⟩ := t.consI
    obtain ⟨vx, r, rfl, tx, t⟩ := t.consI
    cases t.nilI
    obtain rfl := tx.intI
    refine s_retD (ed_tuple (eld_lc (enc := dMark) (fun p => decide (x ∈ p.2)) (fun p => PyData.str p.1) (src_tup (ed_ix (i := 2) (ed_var rfl tw) ev_c rfl)).ex hz fun p hp v H1 Q' e1 tv k' => ?_)) fun v d H1 e1 t1 p1 => ?_
    · refine tg_pair tv fun v1 v2 t1 t2 => k' _ rfl ?_ fun _ => ed_var rfl t1
      exact et_test (ev_inN (ev_var rfl) (ed_var rfl t2))
    · subst p1
      exact k v H1 e1 t1
end
end K33
set_option autoImplicit false
set_option Elab.async false
set_option linter.all false
set_option maxRecDepth 100000
set_option maxHeartbeats 4000000
namespace K33
open PySem PySem.Spec PyProof.Rows L2 Evl
section
variable {P : Program} {w : World} {K : PySem.W.Frag} {σ : L2.St} {H H' : Hp} {td ty : TE} {D b : Addr} {l : List (NestedKey × Addr)} {d : PyData}
theorem ev_dgetN (hd : Ev td σ H (.ref D)) (hy : Ev ty σ H (.ref b)) (h : H D = some (NumO P w D l)) (tr : KeyTr K H l) (t : TD K H (.ref b) d) (z : (nk d).depth ≤ 8) (m : nk d ∈ l.map (·.1)) : Ev (tDGetN P w K td ty) σ H (.int ((l.map (·.1)).idxOf (nk d) : Nat)) := fun H1 e1 Q q =>
  hd H1 e1 _ fun H2 e2 => hy H2 (e1.trans e2) _ fun H3 e3 => ⟨D, b, l, d, rfl, rfl, (e1.trans (e2.trans e3)) _ _ h, tr.kt (Kt.ex (e1.trans (e2.trans e3))), t.ex (e1.trans (e2.trans e3)), z, m, q H3 (e2.trans e3)⟩
end
section
variable {P : Program} {w : World} {K : PySem.W.Frag} {mg : Str → Option Value} {base : Heap} {C : Addr}
abbrev sp_numbered (K : PySem.W.Frag) : Sp := fun vs H Q _ => ∃ (a : Addr) (xs : List V) (ds : List PyData), vs = [.ref a] ∧ H a = some (.lst xs) ∧ TDs K H xs ds ∧ ds.length ≤ 1000 ∧ (∀ d ∈ ds, (∃ l, d = .tuple l) ∧ (nk d).depth ≤ 8) ∧
  ∀ v H', Ex H H' → TD K H' v (dNats (num (ds.map nk))) → Q v H'
theorem has_numbered (D : DefAt K mg "numbered" st_numbered ["keys"]) (B : Blt mg) : Has P w K mg base CX0 1 "numbered" ["keys"] (sp_numbered K) := by
  refine D.ok sc_numbered (fun vs H Q E h => ?_) (fun f cdv A outer s H vs Q E hr h => ?_)
  · obtain ⟨a, xs, ds, rfl, _⟩ := h
    rfl
  · obtain ⟨a, xs, ds, rfl, ha, ts, hz, hd, k⟩ := h
    have nd := sc_numbered.nd
    have hu := hr.units
    refine ⟨_, pss_cons (ps_set (i := 1) nd rfl (.inl rfl) pe_dnewN)
      (pss_cons (ps_set (i := 2) nd rfl (.inl rfl) (pe_lst pa_nil))
      (pss_cons (ps_for PassesOwn.never rfl (k_pil K (pv 0)) (pg_name (i := 3) nd rfl (.inl rfl))
        (pss_cons (ps_if (pt_cmp (pc_dnotinN hu (pv 3) (pv 1))) (pss_one (ps_dputN hu (pv 1) (pv 3) (pe_callB call_lenN (by rfl) B.b_len (by decide +kernel) (pa_cons (pv 1) pa_nil)) rfl)) pss_nil)
        (pss_one (ps_expr (pe_bm PySem.F.plainAttrs_list PySem.F.slot_list_append PySem.F.type_list_append mt_append (pv 2) (pa_cons (pe_dgetN hu (pv 1) (pv 3) (fun _ _ => rfl)) pa_nil))))))
      (pss_one (ps_ret (pe_callTy (k_tuple K) (by rfl) B.b_tuple (by decide +kernel) (pa_cons (pv 2) pa_nil)))))), ?_⟩
    refine q_raw ?_
    intro Dc nD
    refine q_asgL (el_lst ea_nil (by simp)) fun F H2 nF e2 hF => ?_
    have e1 : Ex H (upd H Dc (NumO P w Dc [])) := Ex.new nD
    have hD2 : H2 Dc = some (NumO P w Dc []) := e2 _ _ upd_same
    have F0 := fresh_back e1 nF
    have DF : Dc ≠ F := fun z => by
      subst z
      rw [upd_same] at nF
      cases nF
    refine q_for (K := K) (src_lstK (H0 := H) (ev_var rfl) (sq_of ha) ts (e1.trans e2)) (fun _ i σ H' => (∃ b, σ = [some (.ref a), some (.ref Dc), some (.ref F), b]) ∧ Ex H H' ∧ ∃ l, H' Dc = some (NumO P w Dc l) ∧ l.map (·.1) = dd ((ds.take i).map nk) ∧ l.length ≤ i ∧ KeyTr K H' l ∧ H' F = some (.lst ((nats (num ((ds.take i).map nk))).map V.int)))
      (fun H3 e3 => ⟨⟨none, rfl⟩, e1.trans (e2.trans e3), [], e3 _ _ hD2, rfl, Nat.zero_le _, (by intro p hp; cases hp), e3 _ _ hF⟩) (fun _ i σ H' p => p.2.1) ?_ ?_
    · rintro H3 i d x σ' H4 H5 e3 hdi ⟨⟨b, rfl⟩, a1, l, a2, a3, a4, a5, a6⟩ e4 tx
      obtain ⟨⟨dl, rfl⟩, dz⟩ := hd d (List.mem_of_getElem? hdi)
      obtain ⟨p, xp, rfl, _, _⟩ := tx.tupI
      have il : i < ds.length := (List.getElem?_eq_some_iff.mp hdi).1
      have tk : (ds.take (i + 1)).map nk = (ds.take i).map nk ++ [nk (.tuple dl)] := by rw [List.take_add_one, hdi, List.map_append]; rfl
      have E4 := a1.trans e4
      have tr5 := a5.kt (Kt.ex e4)
      have nl : (num ((ds.take i).map nk)).length = i := by rw [num_len, List.length_map, List.length_take]; omega
      refine q_when (b := decide (nk (.tuple dl) ∉ l.map (·.1))) (et_bool fun H6 e6 Q6 q6 => ⟨_, rfl, _, rfl, Dc, p, l, _, rfl, rfl, (e4.trans e6) _ _ a2, tr5.kt (Kt.ex e6), tx.ex e6, dz, q6 H6 (Ex.refl _)⟩) (fun hn H6 e6 => ?_) fun hn H6 e6 => ?_
      · have hn := of_decide_eq_true hn
        refine ⟨_, rfl, Dc, l, rfl, (e4.trans e6) _ _ a2, tr5.kt (Kt.ex e6), _, rfl, _, rfl, Dc, p, l, _, rfl, rfl, rfl, (e4.trans e6) _ _ a2, tr5.kt (Kt.ex e6), tx.ex e6, dz, hn, sz_lt (by omega), ?_⟩
        have kt : Kt H6 (upd H6 Dc (NumO P w Dc (l ++ [(nk (.tuple dl), p)]))) := Kt.upd ((e4.trans e6) _ _ a2) rfl
        have tr7 : KeyTr K (upd H6 Dc (NumO P w Dc (l ++ [(nk (.tuple dl), p)]))) (l ++ [(nk (.tuple dl), p)]) := fun r hr => by
          rcases List.mem_append.mp hr with h | h
          · exact (tr5.kt (Kt.ex e6)).kt kt r h
          · have : r = (nk (.tuple dl), p) := by simpa using h
            subst this
            exact ⟨_, rfl, dz, (tx.ex e6).mono kt⟩
        have keys : (l ++ [(nk (.tuple dl), p)]).map (·.1) = dd ((ds.take (i + 1)).map nk) := by
          rw [tk, dd_snoc, if_neg (by rw [← a3]; exact hn), List.map_append, a3]
          rfl
        dsimp only
        refine s_app (v := .int (((l ++ [(nk (.tuple dl), p)]).map (fun (p : NestedKey × Addr) => p.1)).idxOf (nk (.tuple dl)) : Nat)) (by rw [upd_ne DF.symm]; exact (e4.trans e6) _ _ a6) (ev_var rfl) (ev_dgetN (ev_var rfl) (ev_var rfl) upd_same tr7 ((tx.ex e6).mono kt) dz (by rw [List.map_append]; simp)) (by rw [List.length_map, nats, List.length_map, nl]; omega) fun H7 e7 => ?_
        have hF7 : H7 F = some (.lst ((nats (num ((ds.take i).map nk))).map V.int)) := e7 _ _ (by rw [upd_ne DF.symm]; exact (e4.trans e6) _ _ a6)
        refine ⟨⟨_, rfl⟩, Ex.mut ((Ex.mut (E4.trans e6) nD).trans e7) F0, _, by rw [upd_ne DF]; exact e7 _ _ upd_same, keys, by simp; omega, (tr7.kt (Kt.ex e7)).kt (Kt.upd hF7 rfl), ?_⟩
        rw [upd_same, keys, tk, num_snoc, nats_append, List.map_append]
        rfl
      · have hm : nk (.tuple dl) ∈ l.map (·.1) := Classical.not_not.mp (of_decide_eq_false hn)
        have keys : l.map (·.1) = dd ((ds.take (i + 1)).map nk) := by
          rw [tk, dd_snoc, if_pos (by rw [← a3]; exact hm), a3]
        refine s_app (v := .int ((l.map (fun (p : NestedKey × Addr) => p.1)).idxOf (nk (.tuple dl)) : Nat)) ((e4.trans e6) _ _ a6) (ev_var rfl) (ev_dgetN (ev_var rfl) (ev_var rfl) ((e4.trans e6) _ _ a2) (tr5.kt (Kt.ex e6)) (tx.ex e6) dz hm) (by rw [List.length_map, nats, List.length_map, nl]; omega) fun H7 e7 => ?_
        have hF7 : H7 F = some (.lst ((nats (num ((ds.take i).map nk))).map V.int)) := (e4.trans (e6.trans e7)) _ _ a6
        refine ⟨⟨_, rfl⟩, Ex.mut ((E4.trans e6).trans e7) F0, l, by rw [upd_ne DF]; exact e7 _ _ ((e4.trans e6) _ _ a2), keys, by omega, ((tr5.kt (Kt.ex e6)).kt (Kt.ex e7)).kt (Kt.upd hF7 rfl), ?_⟩
        rw [upd_same, keys, tk, num_snoc, nats_append, List.map_append]
        rfl
    · rintro H3 σ' H4 e3 ⟨⟨b, rfl⟩, a1, l, a2, a3, a4, a5, a6⟩
      rw [List.take_length] at a6
      refine s_retD (K := K) (ed_tupleL (ev_var rfl) (sq_of a6) (TDs.ofInts _)) fun v d H5 e5 t5 p5 => ?_
      subst p5
      exact k v H5 (a1.trans e5) t5
end
end K33
set_option autoImplicit false
set_option Elab.async false
set_option linter.all false
set_option maxRecDepth 100000
set_option maxHeartbeats 4000000
namespace K33
open PySem PySem.Spec PyProof.Rows L2 Evl
/-! ### sorted sets -/
/-- the members below 64, rising -/
def canonS (l : List Nat) : List Nat := (List.range 64).filter fun k => decide (k ∈ l)
theorem mem_canonS {l : List Nat} (h : ∀ a ∈ l, a < 64) {k : Nat} : k ∈ canonS l ↔ k ∈ l := by
  unfold canonS
  rw [List.mem_filter, List.mem_range, decide_eq_true_eq]
  exact ⟨fun h => h.2, fun q => ⟨h k q, q⟩⟩
theorem canonS_lt (l : List Nat) : (canonS l).Pairwise (· < ·) := List.Pairwise.filter _ List.pairwise_lt_range
theorem sorted_ext : ∀ {xs ys : List Int}, xs.Pairwise (· < ·) → ys.Pairwise (· < ·) → (∀ k, k ∈ xs ↔ k ∈ ys) → xs = ys
  | [], [], _, _, _ => rfl
  | [], y :: ys, _, _, h => absurd ((h y).mpr (by simp)) (by simp)
  | x :: xs, [], _, _, h => absurd ((h x).mp (by simp)) (by simp)
  | x :: xs, y :: ys, hx, hy, h => by
    rw [List.pairwise_cons] at hx hy
    have e : x = y := by
      rcases List.mem_cons.mp ((h x).mp (by simp)) with e | m1
      · exact e
      · rcases List.mem_cons.mp ((h y).mpr (by simp)) with e | m2
        · exact e.symm
        · have := hy.1 x m1
          have := hx.1 y m2
          omega
    subst e
    congr 1
    refine sorted_ext hx.2 hy.2 fun k => ?_
    constructor
    · intro m
      rcases List.mem_cons.mp ((h k).mp (List.mem_cons_of_mem _ m)) with e | m1
      · have := hx.1 k m
        omega
      · exact m1
    · intro m
      rcases List.mem_cons.mp ((h k).mpr (List.mem_cons_of_mem _ m)) with e | m1
      · have := hy.1 k m
        omega
      · exact m1
theorem canonS_eq {l r : List Nat} (hl : ∀ a ∈ l, a < 64) (hr : ∀ a ∈ r, a < 64) : canonS l = canonS r ↔ ∀ a, a ∈ l ↔ a ∈ r := by
  constructor
  · intro e a
    rw [← mem_canonS hl, e, mem_canonS hr]
  · intro h
    unfold canonS
    congr 1
    funext k
    rw [decide_eq_decide]
    exact h k
section
variable {w : World} {K : PySem.W.Frag} {σ : L2.St} {H H' : Hp} {ta tb te : TE} {wi : TI} {g : TG} {α : Type} {l : List α} {enc : α → PyData}
/-- sorted({e for ..}), numbers below 64 -/
theorem eil_sorted {vs : List Nat} (e : α → Nat) (h : Src Ex K wi σ H (l.map enc)) (hz : l.length < 64) (hb : ∀ a ∈ l, e a < 64)
    (hs : ∀ a ∈ l, ∀ x H1 (Q : L2.St → Hp → Prop), Ex H H1 → TD K H1 x (enc a) → (∀ σ2, wipe σ2 vs = wipe σ vs → Ev te σ2 H1 (.int (e a : Nat)) → Q σ2 H1) → g x (wipe σ vs) H1 Q) :
    ELd K (tCB (rSortedSet w) (tCons (tSi w wi g te vs) tNil)) σ H (· = (nats (canonS (l.map e))).map PyData.int) := fun H0 e0 Q q =>
  h H0 e0 _ fun J H1 e1 wk D hD => by
    refine ⟨fun i m H' => m = l.length - i ∧ i ≤ l.length ∧ Ex H1 H' ∧ ∃ (S : Int → Bool) (n : Nat), H' D = some (SetO w D S n) ∧ (∀ k : Int, S k = true ↔ k ∈ nats ((l.take i).map e)) ∧ n ≤ i, ⟨_, rfl, Nat.zero_le _, Ex.new hD, _, 0, upd_same, fun k => by simp [nats], Nat.le_refl _⟩, ?_⟩
    rintro i m H' ⟨rfl, hi, e2, S, n, hS, hm, hn⟩
    by_cases hlt : i < l.length
    · refine .inr ⟨wk.go i H' e2 (by simpa using hlt), fun H'' => (i + 1) ≤ l.length ∧ Ex H1 H'' ∧ ∃ (S : Int → Bool) (n : Nat), H'' D = some (SetO w D S n) ∧ (∀ k : Int, S k = true ↔ k ∈ nats ((l.take (i + 1)).map e)) ∧ n ≤ i + 1, fun H'' p => ⟨l.length - (i + 1), by omega, rfl, p⟩, fun x H2 y => ?_⟩
      have hli : l[i]? = some l[i] := by simp [hlt]
      obtain ⟨e3, tx⟩ := wk.yld i H' x H2 (enc l[i]) e2 (by rw [List.getElem?_map, hli]; rfl) y
      refine hs l[i] (List.getElem_mem hlt) x H2 _ (e0.trans (e1.trans (e2.trans e3))) tx fun σ2 w2 hv => ⟨w2, ?_⟩
      refine hv H2 (Ex.refl _) _ fun H3 e4 => ⟨_, S, n, rfl, (e3.trans e4) _ _ hS, by unfold scanBound; omega, hlt, Ex.mut (e2.trans (e3.trans e4)) hD, _, _, upd_same, fun k => ?_, ?_⟩
      · have tk : (l.take (i + 1)).map e = (l.take i).map e ++ [e l[i]] := by rw [List.take_add_one, hli, List.map_append]; rfl
        rw [tk, nats_append, List.mem_append, Bool.or_eq_true, hm k, decide_eq_true_eq]
        simp [nats]
      · split <;> omega
    · have : i = l.length := by omega
      subst this
      refine .inl ⟨by have := wk.stop H' e2; rwa [List.length_map] at this, ?_⟩
      rw [List.take_length] at hm
      refine ⟨D, S, n, rfl, hS, by omega, fun ns p pw pm pl np => ?_⟩
      have en : ns = nats (canonS (l.map e)) := by
        have hb' : ∀ a ∈ l.map e, a < 64 := fun a ha => by
          obtain ⟨b, hb1, rfl⟩ := List.mem_map.mp ha
          exact hb b hb1
        refine sorted_ext pw ?_ fun k => ?_
        · unfold nats
          rw [List.pairwise_map]
          exact (canonS_lt _).imp fun h => by omega
        · rw [pm k, hm k]
          constructor
          · intro hk
            unfold nats at hk ⊢
            obtain ⟨a, ha, rfl⟩ := List.mem_map.mp hk
            exact List.mem_map.mpr ⟨a, (mem_canonS hb').mpr ha, rfl⟩
          · intro hk
            unfold nats at hk ⊢
            obtain ⟨a, ha, rfl⟩ := List.mem_map.mp hk
            exact List.mem_map.mpr ⟨a, (mem_canonS hb').mp ha, rfl⟩
      subst en
      refine q p ((nats (canonS (l.map e))).map V.int) _ _ (fresh_back (e1.trans e2) np) ((e1.trans e2).trans (Ex.new np)) upd_same (TDs.ofInts _) rfl
end
/-- the scope of the comprehension that a def gives back in one call -/
def retScope (st : Stmt) : Scope := match defBody st with
  | [.Return (some (.Call _ [.ListComp _ _ s _] _ _)) _] => s
  | _ => defScope st
section
variable {P : Program} {w : World} {K : PySem.W.Frag} {mg : Str → Option Value} {base : Heap} {C : Addr}
/-- the classes to which steps lead -/
def ledCls (W : Web Str) (c : List Nat) (x : Nat) (h : Str) : List Nat := canonS ((ends W h x).map fun y => c.getD y 0)
abbrev sp_led (K : PySem.W.Frag) (C : Addr) : Sp := fun vs H Q _ => ∃ (m : Nat) (W : Web Str) (p a : Addr) (v : V) (c : List Nat) (x : Nat) (hs : List Str), vs = [.ref p, .ref a, v, .int (x : Int)] ∧ ViewAt K C H p W ∧ WebOk m W ∧ H a = some (.lst (hs.map V.str)) ∧ hs.length ≤ 1000 ∧ TD K H v (dNats c) ∧ c.length = W.many ∧ (∀ k ∈ c, k < 64) ∧
  ∀ v H', Ex H H' → TD K H' v (.tuple (hs.map fun h => dNats (ledCls W c x h))) → Q v H'
theorem has_led (D : DefAt K mg "classes_led" st_classes_led ["view", "hands", "classes", "world"]) (B : Blt mg) (VC : ViewC K C) (GL : HasM P w K mg base CX0 1 C "led_from" ["self", "hand", "world"] (sp_led_from K C)) : Has P w K mg base CX0 2 "classes_led" ["view", "hands", "classes", "world"] (sp_led K C) := by
  refine D.ok sc_classes_led (fun vs H Q E h => ?_) (fun f cdv A outer s H vs Q E hr h => ?_)
  · obtain ⟨m, W, p, a, v, c, x, hs, rfl, _⟩ := h
    rfl
  · obtain ⟨m, W, p, a, v, c, x, hs, rfl, vw, ok, ha, hz, tv, cl, cb, k⟩ := h
    have nd := sc_classes_led.nd
    refine ⟨_, pss_one (ps_ret (pe_callTy (k_tuple K) (by rfl) B.b_tuple (by decide +kernel) (pa_cons
      (pe_lc (own := [("hand", 4)]) (g := gName 4) rfl nd (k_pil K (pv 1)) (blk (N := ["view", "hands", "classes", "world", "hand", "end"]) (sc := defScope st_classes_led) (by decide +kernel))
        (fun _ _ _ _ _ => pg_name (i := 4) nd rfl (.inl rfl)) (fun _ _ _ _ _ => pts_nil)
        (fun _ _ _ _ _ => pe_callTy (k_tuple K) (by rfl) B.b_tuple (by decide +kernel) (pa_cons (pe_callB (k_sset w rfl) (by rfl) B.b_sorted (by decide +kernel) (pa_cons
          (k_si w (own := [("end", 5)]) (g := gName 5) rfl nd (k_pil K (pe_hasM VC.cl GL hr (pv 0) pass0 (pa_cons (pv 4) (pa_cons (pv 3) pa_nil)))) (blk2 (N := ["view", "hands", "classes", "world", "hand", "end"]) (sc0 := defScope st_classes_led) rfl rfl (by decide +kernel))
            (fun _ _ _ _ _ => pg_name (i := 5) nd rfl (.inl rfl)) (fun _ _ _ _ _ => pe_ix (k_ixT K) (pv 2) (pv 5) (fun _ _ => rfl))) pa_nil)) pa_nil))) pa_nil))), ?_⟩
    refine s_retD (K := K) (P := (· = .tuple (hs.map fun h => dNats (ledCls W c x h)))) (ed_tuple (eld_lcA (K := K) (l := hs) (enc := PyData.str) (fun h => dNats (ledCls W c x h)) (src_lst (ev_var rfl) (sq_of ha) (TDs.ofStrs hs)) (by omega) fun h hh y H1 Q1 e1 ty ky => ?_)) fun v d H5 e5 t5 p5 => ?_
    · obtain rfl := ty.strI
      refine ky _ rfl (ed_tuple (eil_sorted (w := w) (K := K) (l := ends W h x) (enc := fun (y : Nat) => PyData.int (y : Int)) (fun y => c.getD y 0) (src_il (eil_led (vw.ex e1) (ev_var rfl) (ev_var rfl) (ev_var rfl))) (by have := ok.ends_len h x; omega) (fun y hy => ?_) fun y hy u H2 Q2 e2 tu ku => ?_))
      · have yl := ok.wf.ends hy
        rw [← cl] at yl
        rw [List.getD_eq_getElem?_getD, List.getElem?_eq_getElem yl]
        exact cb _ (List.getElem_mem yl)
      · obtain rfl := tu.intI
        have yl := ok.wf.ends hy
        rw [← cl] at yl
        refine ku _ rfl (ev_int (ed_ix (i := y) (ed_var rfl (tv.ex (e1.trans e2))) (ev_var rfl) ?_))
        rw [nats, List.map_map, List.getElem?_map, List.getElem?_eq_getElem yl, List.getD_eq_getElem?_getD, List.getElem?_eq_getElem yl]
        rfl
    · subst p5
      exact k v H5 e5 t5
end
/-! ### keys -/
mutual
theorem nk_depth : ∀ d : PyData, (nk d).depth ≤ d.depth
  | .none => by simp [nk, NestedKey.depth]
  | .bool b => by simp [nk, NestedKey.depth]
  | .int i => by simp [nk, NestedKey.depth]
  | .str x => by simp [nk, NestedKey.depth]
  | .list l => by simp [nk, NestedKey.depth]
  | .dict l => by simp [nk, NestedKey.depth]
  | .tuple ds => by
    have := nks_depth ds
    simp [nk, NestedKey.depth, PyData.depth]
    omega
theorem nks_depth : ∀ ds : List PyData, NestedKey.depthAll (nks ds) ≤ PyData.depthAll ds
  | [] => by simp [nks, NestedKey.depthAll]
  | d :: ds => by
    have h1 := nk_depth d
    have h2 := nks_depth ds
    simp [nks, NestedKey.depthAll, PyData.depthAll]
    omega
end
theorem nk_tup (ds : List PyData) : nk (.tuple ds) = .tup (ds.map nk) := by rw [nk, nks_eq]
theorem map_inj {α β : Type} {f : α → β} (hf : ∀ a b, f a = f b → a = b) : ∀ {l r : List α}, l.map f = r.map f → l = r
  | [], [], _ => rfl
  | [], _ :: _, h => by simp at h
  | _ :: _, [], h => by simp at h
  | a :: l, b :: r, h => by
    simp only [List.map_cons, List.cons.injEq] at h
    rw [hf a b h.1, map_inj hf h.2]
theorem nk_nats {l r : List Nat} (h : nk (dNats l) = nk (dNats r)) : l = r := by
  unfold dNats nats at h
  rw [nk_tup, nk_tup, List.map_map, List.map_map, List.map_map, List.map_map] at h
  have h := NestedKey.tup.inj h
  refine map_inj (fun a b e => ?_) h
  simp only [Function.comp, nk] at e
  have := NestedKey.num.inj e
  omega
theorem nk_strs {l r : List Str} (h : nk (.tuple (l.map .str)) = nk (.tuple (r.map .str))) : l = r := by
  rw [nk_tup, nk_tup, List.map_map, List.map_map] at h
  have h := NestedKey.tup.inj h
  refine map_inj (fun a b e => ?_) h
  simp only [Function.comp, nk] at e
  exact NestedKey.text.inj e
theorem dd_le {κ : Type} [DecidableEq κ] (l : List κ) : (dd l).length ≤ l.length := by
  rw [(num_canon l).2]
  exact least_le _ _
theorem num_lt {κ : Type} [DecidableEq κ] {l : List κ} {k : Nat} (h : k ∈ num l) : k < l.length := by
  unfold num at h
  obtain ⟨a, ha, rfl⟩ := List.mem_map.mp h
  exact Nat.lt_of_lt_of_le (List.idxOf_lt_length_of_mem (mem_dd.mpr ha)) (dd_le l)
/-- a world's key in the next round -/
def keyD (W : Web Str) (c : List Nat) (x : Nat) : PyData := .tuple [.int (c.getD x 0 : Nat), .tuple ((hands W).map fun h => dNats (ledCls W c x h))]
theorem keyD_eq {W : Web Str} {c : List Nat} (wf : Wf W) (cl : c.length = W.many) (cb : ∀ k ∈ c, k < 64) {x y : Nat} : nk (keyD W c x) = nk (keyD W c y) ↔ c.getD x 0 = c.getD y 0 ∧ SameC W c x y := by
  have bnd : ∀ h z, ∀ a ∈ (ends W h z).map (fun y => c.getD y 0), a < 64 := fun h z a ha => by
    obtain ⟨y, hy, rfl⟩ := List.mem_map.mp ha
    have yl := wf.ends hy
    rw [← cl] at yl
    rw [List.getD_eq_getElem?_getD, List.getElem?_eq_getElem yl]
    exact cb _ (List.getElem_mem yl)
  unfold keyD
  rw [nk_tup, nk_tup]
  simp only [List.map_cons, List.map_nil, nk, nks_eq, List.map_map]
  constructor
  · intro h
    have h := NestedKey.tup.inj h
    simp only [List.cons.injEq, NestedKey.num.injEq, NestedKey.tup.injEq, and_true] at h
    refine ⟨by omega, fun hd hh a => ?_⟩
    have := List.map_inj_left.mp h.2 hd hh
    simp only [Function.comp] at this
    exact (canonS_eq (bnd hd x) (bnd hd y)).mp (nk_nats this) a
  · rintro ⟨h1, h2⟩
    rw [h1]
    have e : (hands W).map (nk ∘ fun h => dNats (ledCls W c x h)) = (hands W).map (nk ∘ fun h => dNats (ledCls W c y h)) := by
      apply List.map_congr_left
      intro hd hh
      simp only [Function.comp]
      have := (canonS_eq (bnd hd x) (bnd hd y)).mpr (h2 hd hh)
      unfold ledCls
      rw [this]
    rw [e]
theorem range_get {α : Type} (f : Nat → α) {n i : Nat} (h : i < n) : ∃ hi, ((List.range n).map f)[i]'hi = f i := ⟨by simpa using h, by simp⟩
theorem keyD_nxt {W : Web Str} {c : List Nat} (wf : Wf W) (cl : c.length = W.many) (cb : ∀ k ∈ c, k < 64) : Nxt W c (num (((List.range W.many).map (keyD W c)).map nk)) where
  len := by simp [num_len]
  can := (num_canon _).1
  eq := fun x y hx hy => by
    rw [num_eq (by simpa using hx) (by simpa using hy)]
    simp only [List.getElem_map, List.getElem_range]
    exact keyD_eq wf cl cb
def keyL (W : Web Str) (x : Nat) : PyData := .tuple ((W.marks.filter fun p => decide (x ∈ p.2)).map fun p => PyData.str p.1)
theorem keyL_eq {W : Web Str} (wf : Wf W) {x y : Nat} : nk (keyL W x) = nk (keyL W y) ↔ ∀ w, (x ∈ getL W.marks w ↔ y ∈ getL W.marks w) := by
  have mk : ∀ z w, w ∈ ((W.marks.filter fun p => decide (z ∈ p.2)).map (·.1)) ↔ z ∈ getL W.marks w := fun z w => by
    rw [List.mem_map]
    constructor
    · rintro ⟨p, hp, rfl⟩
      obtain ⟨h1, h2⟩ := List.mem_filter.mp hp
      rw [getL_mem wf.ndm (v := p.2) h1]
      exact of_decide_eq_true h2
    · intro h
      exact ⟨_, List.mem_filter.mpr ⟨mem_getL h, decide_eq_true h⟩, rfl⟩
  have e : ∀ z, keyL W z = .tuple (((W.marks.filter fun p => decide (z ∈ p.2)).map (·.1)).map .str) := fun z => by unfold keyL; rw [List.map_map]; rfl
  constructor
  · intro h w
    rw [e, e] at h
    rw [← mk x, ← mk y, nk_strs h]
  · intro h
    rw [e, e]
    congr 4
    apply List.filter_congr
    intro p hp
    rw [decide_eq_decide]
    have := h p.1
    rw [getL_mem wf.ndm (v := p.2) hp] at this
    exact this
theorem keyL_fst {W : Web Str} (wf : Wf W) : Fst W (num (((List.range W.many).map (keyL W)).map nk)) where
  len := by simp [num_len]
  can := (num_canon _).1
  eq := fun x y hx hy => by
    rw [num_eq (by simpa using hx) (by simpa using hy)]
    simp only [List.getElem_map, List.getElem_range]
    exact keyL_eq wf
theorem eqv_nats (a b : List Nat) : PyData.eqv (dNats a) (dNats b) = decide (a = b) := by
  unfold dNats nats
  rw [PyData.eqv, List.map_map, List.map_map]
  induction a generalizing b with
  | nil => cases b <;> simp [PyData.eqvAll]
  | cons x r ih =>
    cases b with
    | nil => simp [PyData.eqvAll]
    | cons y s =>
      simp only [List.map_cons, PyData.eqvAll, ih, Function.comp, PyData.eqv]
      rw [Bool.eq_iff_iff]
      simp
      omega
end K33
set_option autoImplicit false
set_option Elab.async false
set_option linter.all false
set_option maxRecDepth 100000
set_option maxHeartbeats 4000000
namespace K33
open PySem PySem.Spec PyProof.Rows L2 Evl
section
variable {P : Program} {w : World} {K : PySem.W.Frag} {mg : Str → Option Value} {base : Heap} {C : Addr}
theorem c_one {sp : Sp} {E : XK} {te : TE} {σ : L2.St} {H : Hp} {Q : VK} (h : te σ H fun v H1 => sp [v] H1 Q E) : tCall sp [] E (tCons te tNil) σ H Q := h
theorem getD_at {c : List Nat} {i : Nat} (h : i < c.length) : ((nats c).map PyData.int)[i]? = some (.int (c.getD i 0 : Nat)) := by
  rw [nats, List.map_map, List.getElem?_map, List.getElem?_eq_getElem h, List.getD_eq_getElem?_getD, List.getElem?_eq_getElem h]
  rfl
abbrev sp_next (K : PySem.W.Frag) : Sp := fun vs H Q _ => ∃ (m : Nat) (W : Web Str) (v u : V) (c : List Nat), vs = [v, u] ∧ TD K H v (dWeb W) ∧ WebOk m W ∧ TD K H u (dNats c) ∧ c.length = W.many ∧ (∀ k ∈ c, k < 64) ∧
  ∀ v H' d, Ex H H' → TD K H' v (dNats d) → Nxt W c d → (∀ k ∈ d, k < 64) → Q v H'
theorem has_next (D : DefAt K mg "next_round" st_next_round ["web", "classes"]) (B : Blt mg) (VC : ViewC K C) (GV : HasC P w K mg base CX0 2 "WebView" C ["self", "web"] (sp_view K C)) (GL : Has P w K mg base CX0 2 "classes_led" ["view", "hands", "classes", "world"] (sp_led K C)) (GN : Has P w K mg base CX0 1 "numbered" ["keys"] (sp_numbered K)) :
    Has P w K mg base CX0 4 "next_round" ["web", "classes"] (sp_next K) := by
  refine D.ok sc_next_round (fun vs H Q E h => ?_) (fun f cdv A outer s H vs Q E hr h => ?_)
  · obtain ⟨m, W, v, u, c, rfl, _⟩ := h
    rfl
  · obtain ⟨m, W, v, u, c, rfl, tv, ok, tu, cl, cb, k⟩ := h
    have nd := sc_next_round.nd
    refine ⟨_, pss_cons (ps_set (i := 2) nd rfl (.inr rfl) (pe_hasC GV hr (by rfl) pass0 (pa_cons (pv 0) pa_nil)))
      (pss_cons (ps_set (i := 3) nd rfl (.inr rfl) (pe_lc (own := [("hand", 5), ("pairs", 6)]) rfl nd (k_pit K (pe_ix (k_ixT K) (pv 0) pe_int (fun _ _ => rfl))) (blk (N := ["web", "classes", "view", "hands", "keys", "hand", "pairs", "world"]) (sc := defScope st_next_round) (by decide +kernel))
          (fun _ _ _ _ _ => k_tup K 2 rfl (pgs_cons (pg_name (i := 5) nd rfl (.inl rfl)) (pgs_cons (pg_name (i := 6) nd rfl (.inl rfl)) pgs_nil))) (fun _ _ _ _ _ => pts_nil) (fun _ _ _ _ _ => pv 5)))
      (pss_cons (ps_setLc (i := 4) (own := [("world", 7)]) (g := gName 7) rfl nd rfl rfl (sw_true rfl rfl rfl (by decide +kernel)) (pi_range1 (by rfl) B.b_range (pa_cons (pe_ix (k_ixT K) (pv 0) pe_int (fun _ _ => rfl)) pa_nil)) (blk (N := ["web", "classes", "view", "hands", "keys", "hand", "pairs", "world"]) (sc := defScope st_next_round) (by decide +kernel))
          (fun _ _ _ _ _ => pg_name (i := 7) nd rfl (.inl rfl)) (fun _ _ _ _ _ => pts_nil)
          (fun _ _ _ _ _ => pe_tup (pa_cons (pe_ix (k_ixT K) (pv 1) (pv 7) (fun _ _ => rfl)) (pa_cons (pe_has GL (hr.mono (by omega)) (by rfl) pass0 (pa_cons (pv 2) (pa_cons (pv 3) (pa_cons (pv 1) (pa_cons (pv 7) pa_nil))))) pa_nil))))
      (pss_one (ps_ret (pe_has GN (hr.mono (by omega)) (by rfl) pass0 (pa_cons (pv 4) pa_nil)))))), ?_⟩
    have mz : W.many ≤ 7 := Nat.le_trans ok.many ok.lim
    refine q_view ok (ed_var rfl tv) fun p H1 np e1 vw op => ?_
    refine q_asgLd (K := K) (eld_lcA (K := K) (l := W.steps) (enc := dStep) (fun q => .str q.1) (src_tup (ed_ix (i := 1) (ed_var rfl (tv.ex e1)) ev_c rfl)).ex (by have := ok.hl; omega) fun q hq x H2 Q2 e2 tx kx => ?_) fun a xs ds H2 na e2 ha txs hds => ?_
    · exact tg_pair tx fun v w tv tw => kx _ rfl (ed_var rfl tv)
    · subst hds
      have eds : (W.steps.map fun q => PyData.str q.1) = (hands W).map PyData.str := by unfold hands; rw [List.map_map]; rfl
      rw [eds] at txs
      obtain rfl := txs.strs
      have E2 := e1.trans e2
      refine q_asgLd (K := K) (eld_lcA (K := K) (l := List.range W.many) (enc := fun (y : Nat) => PyData.int (y : Int)) (keyD W c) (src_rng (n := W.many) (ev_int (ed_ix (i := 0) (ed_var rfl (tv.ex E2)) ev_c rfl)) (by omega)).ex (by rw [List.length_range]; omega) fun x hx y H3 Q3 e3 ty ky => ?_) fun b ys ds H3 nb e3 hb tys hds => ?_
      · obtain rfl := ty.intI
        have hx := List.mem_range.mp hx
        refine ky _ rfl (ed_tup (eds_c (ed_ix (i := x) (ed_var rfl (tu.ex (E2.trans e3))) (ev_var rfl) (getD_at (by omega))) (eds_c (fun H4 e4 Q4 q4 => ?_) eds_nil)) (by simp))
        refine ⟨_, rfl, _, rfl, _, rfl, _, rfl, m, W, p, a, u, c, x, hands W, rfl, vw.ex (e2.trans (e3.trans e4)), ok, (e3.trans e4) _ _ ha, by have := ok.hl; unfold hands; rw [List.length_map]; omega, tu.ex (E2.trans (e3.trans e4)), cl, cb, fun v5 H5 e5 t5 => q4 v5 H5 _ e5 t5 rfl⟩
      · subst hds
        refine ⟨_, rfl, b, ys, _, rfl, hb, tys, by simp; omega, fun d hd => ?_, fun v5 H5 e5 t5 => k v5 H5 _ (E2.trans (e3.trans e5)) t5 (keyD_nxt ok.wf cl cb) fun j hj => ?_⟩
        · obtain ⟨x, hx, rfl⟩ := List.mem_map.mp hd
          refine ⟨⟨_, rfl⟩, Nat.le_trans (nk_depth _) ?_⟩
          have : Shp 3 (keyD W c x) := shp_tup (n := 2) fun d hd => by
            rcases List.mem_cons.mp hd with rfl | hd
            · exact shp_int _
            · rcases List.mem_cons.mp hd with rfl | hd
              · exact shp_tup (n := 1) fun d hd => by
                  obtain ⟨h, _, rfl⟩ := List.mem_map.mp hd
                  exact shp_nats _
              · cases hd
          exact Nat.le_trans this.2 (by decide)
        · have := num_lt hj
          simp at this
          omega
theorem rows_snoc {W : Web Str} {rs : List (List Nat)} {c d : List Nat} (R : Rows W (rs ++ [c])) (n : Nxt W c d) (ne : d ≠ c) : Rows W (rs ++ [c] ++ [d]) where
  pos := by simp
  fst := by
    have := R.fst
    have l : 0 < (rs ++ [c]).length := by simp
    rw [List.getD_eq_getElem?_getD, List.getElem?_append_left l, ← List.getD_eq_getElem?_getD]
    exact this
  nxt := fun i hi => by
    have hi : i < (rs ++ [c]).length := by simpa using hi
    by_cases h : i + 1 < (rs ++ [c]).length
    · have := R.nxt i h
      rw [List.getD_eq_getElem?_getD, List.getElem?_append_left hi, List.getD_eq_getElem?_getD, List.getElem?_append_left h, ← List.getD_eq_getElem?_getD, ← List.getD_eq_getElem?_getD]
      exact this
    · have e : i = rs.length := by simp at h hi; omega
      subst e
      have e1 : (rs ++ [c] ++ [d]).getD rs.length [] = c := by rw [List.getD_eq_getElem?_getD]; simp
      have e2 : (rs ++ [c] ++ [d]).getD (rs.length + 1) [] = d := by
        rw [List.getD_eq_getElem?_getD, List.getElem?_append_right (by simp)]
        simp
      rw [e1, e2]
      exact ⟨n, ne⟩
theorem last_getD {rs : List (List Nat)} {c : List Nat} : (rs ++ [c]).getD ((rs ++ [c]).length - 1) [] = c := by
  rw [List.getD_eq_getElem?_getD]
  simp
section
variable {σ : L2.St} {H : Hp} {ta : TE} {p : Addr} {xs : List V} {v : V} {d : PyData}
theorem ed_last (h : Ev ta σ H (.ref p)) (hl : SqL K H p (xs ++ [v])) (t : TD K H v d) : ED K (tOp (rIxL K) ta (tUn (rU fun i => V.int (-i)) (tC (.int 1)))) σ H (· = d) := fun H1 a Q q =>
  h H1 a _ fun H2 e2 => ⟨1, rfl, p, _, -1, v, rfl, rfl, ex_l (a.trans e2) hl, atI_last xs v, q v H2 d e2 (t.ex (a.trans e2)) rfl⟩
end
abbrev sp_rounds (K : PySem.W.Frag) : Sp := fun vs H Q _ => ∃ (m : Nat) (W : Web Str), TDs K H vs [dWeb W] ∧ WebOk m W ∧ 0 < W.many ∧
  ∀ v H' rs, Ex H H' → TD K H' v (.tuple (rs.map dNats)) → Rounds W rs → (∀ c ∈ rs, ∀ k ∈ c, k < 64) → Q v H'
theorem has_rounds (D : DefAt K mg "class_rounds" st_class_rounds ["web"]) (B : Blt mg) (GX : Has P w K mg base CX0 4 "next_round" ["web", "classes"] (sp_next K)) (GN : Has P w K mg base CX0 1 "numbered" ["keys"] (sp_numbered K)) (GL : Has P w K mg base CX0 1 "letters_at" ["web", "world"] (sp_letters_at K)) :
    Has P w K mg base CX0 5 "class_rounds" ["web"] (sp_rounds K) := by
  refine D.ok sc_class_rounds (fun vs H Q E h => ?_) (fun f cdv A outer s H vs Q E hr h => ?_)
  · obtain ⟨m, W, t, _⟩ := h
    exact t.len
  · obtain ⟨m, W, t, ok, pos, k⟩ := h
    obtain ⟨v, r, rfl, tv, t⟩ := t.consI
    cases t.nilI
    have nd := sc_class_rounds.nd
    have hu := hr.units
    refine ⟨_, pss_cons (ps_set (i := 1) nd rfl (.inl rfl) (pe_lst (pa_cons (pe_has GN (hr.mono (by omega)) (by rfl) pass0 (pa_cons (pe_lc (own := [("world", 3)]) (g := gName 3) rfl nd (pi_range1 (by rfl) B.b_range (pa_cons (pe_ix (k_ixT K) (pv 0) pe_int (fun _ _ => rfl)) pa_nil)) (blk (N := ["web", "found", "later", "world"]) (sc := defScope st_class_rounds) (by decide +kernel))
          (fun _ _ _ _ _ => pg_name (i := 3) nd rfl (.inl rfl)) (fun _ _ _ _ _ => pts_nil) (fun _ _ _ _ _ => pe_has GL (hr.mono (by omega)) (by rfl) pass0 (pa_cons (pv 0) (pa_cons (pv 3) pa_nil)))) pa_nil)) pa_nil)))
      (pss_cons (ps_set (i := 2) nd rfl (.inl rfl) (pe_has GX hr (by rfl) pass0 (pa_cons (pv 0) (pa_cons (pe_ix (k_ixL K) (pv 1) (pe_un un_neg pe_int) (fun _ _ => rfl)) pa_nil))))
      (pss_cons (ps_while PassesOwn.never (pt_cmpR (k_neD K hu) (pv 2) (pe_ix (k_ixL K) (pv 1) (pe_un un_neg pe_int) (fun _ _ => rfl)) (nomark _))
        (pss_cons (ps_expr (pe_bm PySem.F.plainAttrs_list PySem.F.slot_list_append PySem.F.type_list_append mt_append (pv 1) (pa_cons (pv 2) pa_nil)))
        (pss_one (ps_set (i := 2) nd rfl (.inl rfl) (pe_has GX hr (by rfl) pass0 (pa_cons (pv 0) (pa_cons (pe_ix (k_ixL K) (pv 1) (pe_un un_neg pe_int) (fun _ _ => rfl)) pa_nil)))))))
      (pss_one (ps_ret (pe_callTy (k_tuple K) (by rfl) B.b_tuple (by decide +kernel) (pa_cons (pv 1) pa_nil)))))), ?_⟩
    have mz : W.many ≤ 7 := Nat.le_trans ok.many ok.lim
    have last : ∀ {xs : List V} {rs : List (List Nat)} {c : List Nat} {H1 : Hp}, TDs K H1 xs ((rs ++ [c]).map dNats) → ∃ ys u, xs = ys ++ [u] ∧ TD K H1 u (dNats c) := fun {xs rs c H1} t => by
      have hl := t.len
      have hne : xs ≠ [] := by rintro rfl; simp at hl
      obtain ⟨u, hu, tu⟩ := t.get (i := rs.length) (d := dNats c) (by simp)
      refine ⟨xs.dropLast, u, ?_, tu⟩
      conv => lhs; rw [← List.dropLast_concat_getLast hne]
      rw [List.getLast_eq_getElem]
      have : xs.length - 1 = rs.length := by simp at hl; omega
      simp only [this]
      have h3 := (List.getElem?_eq_some_iff.mp hu).2
      rw [h3]
    refine q_asgLd (K := K) (R := (· = [dNats (num (((List.range W.many).map (keyL W)).map nk))])) (eld_lst (ds := []) (eds_c (fun H0 e0 Q0 q0 => ?_) eds_nil) (by rintro l rfl; simp)) fun F xs0 ds0 H2 F0 e2 hF0 tF0 hds0 => ?_
    · refine c_one ?_
      refine eld_lcA (K := K) (l := List.range W.many) (enc := fun (y : Nat) => PyData.int (y : Int)) (keyL W) ?_ (by rw [List.length_range]; omega) (fun x hx y H3 Q3 e3 ty ky => ?_) H0 e0 _ fun b ys ds H1 nb e1 hb tys hds => ?_
      · exact (src_rng (n := W.many) (ev_int (ed_ix (i := 0) (ed_var rfl tv) ev_c rfl)) (by omega)).ex
      · obtain rfl := ty.intI
        exact ky _ rfl fun H4 e4 Q4 q4 => ⟨_, rfl, _, rfl, W, x, .cons (tv.ex (e3.trans e4)) (.cons (.int _) .nil), by have := ok.ml; omega, fun v5 H5 e5 t5 => q4 v5 H5 _ e5 t5 rfl⟩
      · subst hds
        refine ⟨b, ys, _, rfl, hb, tys, by simp; omega, fun d hd => ?_, fun v1 H2 e2 t2 => q0 v1 H2 _ (e1.trans e2) t2 rfl⟩
        obtain ⟨x, hx, rfl⟩ := List.mem_map.mp hd
        refine ⟨⟨_, rfl⟩, ?_⟩
        have : ∀ l : List Str, (nk (.tuple (l.map .str))).depth ≤ 8 := fun l => by
          rw [nk_tup, NestedKey.depth]
          have : ∀ l : List Str, NestedKey.depthAll ((l.map PyData.str).map nk) = 0 := fun l => by
            induction l with
            | nil => simp [NestedKey.depthAll]
            | cons a r ih =>
              rw [List.map_cons, List.map_cons, NestedKey.depthAll, ih]
              simp [nk, NestedKey.depth]
          rw [this]
          decide
        have e : keyL W x = .tuple (((W.marks.filter fun p => decide (x ∈ p.2)).map (·.1)).map .str) := by unfold keyL; rw [List.map_map]; rfl
        rw [e]
        exact this _
    · subst hds0
      · obtain ⟨v1, r1, rfl, t2, tF0⟩ := tF0.consI
        cases tF0.nilI
        have R0 : Rows W ([] ++ [num (((List.range W.many).map (keyL W)).map nk)]) := ⟨by simp, keyL_fst ok.wf, fun i hi => by simp at hi⟩
        have nxt : ∀ {σ : L2.St} {H1 : Hp} {xs : List V} {rs : List (List Nat)} {c : List Nat}, σ[0]? = some (some v) → σ[1]? = some (some (.ref F)) → Ex H H1 → H1 F = some (.lst xs) → TDs K H1 xs ((rs ++ [c]).map dNats) → Rows W (rs ++ [c]) → (∀ k ∈ c, k < 64) →
            ED K (tCall (sp_next K) [] E0 (tCons (tVar 0) (tCons (tOp (rIxL K) (tVar 1) (tUn (rU fun i => V.int (-i)) (tC (.int 1)))) tNil))) σ H1 (fun dd => ∃ d, dd = dNats d ∧ Nxt W c d ∧ ∀ k ∈ d, k < 64) := fun {σ H1 xs rs c} h0 h1 e hF t R cb H5 e5 Q5 q5 => by
          obtain ⟨ys, u, rfl, tu⟩ := last t
          refine ⟨_, h0, ?_⟩
          refine ed_last (ev_var h1) (sq_of hF) tu H5 e5 _ fun u2 H6 d6 e6 t6 p6 => ?_
          subst p6
          have cl : c.length = W.many := by
            have := (R.row (i := (rs ++ [c]).length - 1) (by simp)).1
            rwa [last_getD] at this
          exact ⟨m, W, v, u2, c, rfl, tv.ex (e.trans (e5.trans e6)), ok, t6, cl, cb, fun v7 H7 d7 e7 t7 n7 b7 => q5 v7 H7 _ (e6.trans e7) t7 ⟨d7, rfl, n7, b7⟩⟩
        have tF : TDs K H2 [v1] (([] ++ [num (((List.range W.many).map (keyL W)).map nk)]).map dNats) := .cons t2 .nil
        refine q_asgD (K := K) (nxt rfl rfl e2 hF0 tF R0 fun k hk => by have := num_lt hk; simp at this; omega) fun vl dl H3 e3 t3 p3 => ?_
        obtain ⟨d, rfl, n3, b3⟩ := p3
        refine q_while (fun μ σ' H' => ∃ vl b rs c d xs, σ' = [some v, some (.ref F), some vl, b] ∧ Ex H H' ∧ H' F = some (.lst xs) ∧ TDs K H' xs ((rs ++ [c]).map dNats) ∧ TD K H' vl (dNats d) ∧ Rows W (rs ++ [c]) ∧ Nxt W c d ∧ (∀ c' ∈ rs ++ [c], ∀ k ∈ c', k < 64) ∧ (∀ k ∈ d, k < 64) ∧ μ = W.many - (rs ++ [c]).length) _ ⟨vl, none, [], _, d, _, rfl, e2.trans e3, e3 _ _ hF0, tF.ex e3, t3, R0, n3, fun c' hc k hk => ?_, b3, rfl⟩ ?_
        · have : c' = num (((List.range W.many).map (keyL W)).map nk) := by simpa using hc
          subst this
          have := num_lt hk
          simp at this
          omega
        · rintro μ σ' H4 ⟨vl, b, rs, c, d, xs, rfl, E4, hF, tF, tl, R, n4, bc, bd, hμ⟩
          obtain ⟨ys, u, rfl, tu⟩ := last tF
          refine ⟨!decide (d = c), et_test (ev_is (ev_neD (ed_var rfl tl) (ed_last (ev_var rfl) (sq_of hF) tu) ((shp_nats _).shaped (by decide)) ((shp_nats _).shaped (by decide))) (by rw [eqv_nats])), fun hb H5 e5 => ?_, fun hb H5 e5 => ?_⟩
          · have ne : d ≠ c := by simpa using hb
            have R2 := rows_snoc R n4 ne
            have l2 := R2.len pos
            refine ⟨fun σ2 H' => ∃ μ', μ' < μ ∧ ∃ vl b rs c d xs, σ2 = [some v, some (.ref F), some vl, b] ∧ Ex H H' ∧ H' F = some (.lst xs) ∧ TDs K H' xs ((rs ++ [c]).map dNats) ∧ TD K H' vl (dNats d) ∧ Rows W (rs ++ [c]) ∧ Nxt W c d ∧ (∀ c' ∈ rs ++ [c], ∀ k ∈ c', k < 64) ∧ (∀ k ∈ d, k < 64) ∧ μ' = W.many - (rs ++ [c]).length, fun _ _ h => h, ?_⟩
            have yl := tF.len
            refine q_app (e5 _ _ hF) (ev_var rfl) (ev_var (v := vl) rfl) (by simp at yl l2 ⊢; omega) fun H6 e6 => ?_
            have hF6 : H6 F = some (.lst (ys ++ [u])) := e6 _ _ (e5 _ _ hF)
            have kt : Kt H6 (upd H6 F (.lst (ys ++ [u] ++ [vl]))) := Kt.upd hF6 rfl
            have tF7 : TDs K (upd H6 F (.lst (ys ++ [u] ++ [vl]))) (ys ++ [u] ++ [vl]) ((rs ++ [c] ++ [d]).map dNats) := by
              rw [List.map_append]
              exact ((tF.ex (e5.trans e6)).mono kt).app (.cons ((tl.ex (e5.trans e6)).mono kt) .nil)
            have E7 : Ex H (upd H6 F (.lst (ys ++ [u] ++ [vl]))) := Ex.mut (E4.trans (e5.trans e6)) F0
            refine s_asgD (K := K) (nxt rfl rfl E7 upd_same tF7 R2 bd) fun vn dn H8 e8 t8 p8 => ?_
            obtain ⟨d8, rfl, n8, b8⟩ := p8
            refine ⟨W.many - (rs ++ [c] ++ [d]).length, by rw [hμ]; simp at l2 ⊢; omega, vn, b, rs ++ [c], d, d8, _, rfl, E7.trans e8, e8 _ _ upd_same, tF7.ex e8, t8, R2, n8, fun c' hc => ?_, b8, rfl⟩
            rcases List.mem_append.mp hc with h | h
            · exact bc c' h
            · rw [List.mem_singleton.mp h]; exact bd
          · have e : d = c := by simpa using hb
            subst e
            refine s_retD (K := K) (ed_tupleL (ev_var rfl) (sq_of (e5 _ _ hF)) (tF.ex e5)) fun v9 dd H9 e9 t9 p9 => ?_
            subst p9
            exact k v9 H9 _ (E4.trans (e5.trans e9)) t9 ⟨R, by rw [last_getD]; exact n4⟩ bc
end
end K33
set_option autoImplicit false
set_option Elab.async false
set_option linter.all false
set_option maxRecDepth 100000
set_option maxHeartbeats 4000000
/-! sorted(d.items()) of a dict of texts, its values data. -/
namespace K33
open PySem PySem.Spec PyProof.Rows L2 Evl
section
variable {X : Cx} {pins : List (Addr × Obj)} {σ : L2.St} {H : Hp} {s : Shared}
mutual
/-- data without lists reads off no list -/
theorem td_reads (I : Inv X pins σ H s) : ∀ (d : PyData) (v : V) (u : Value), TD X.K H v d → RelV v u → Reads s.heap u d []
  | .none, _, u, .non, r => by
    obtain rfl : u = .none := r
    exact .none
  | .bool b, _, u, .bl _, r => by
    obtain rfl : u = .bool b := r
    exact .bool b
  | .int i, _, u, .int _, r => by
    obtain ⟨t, rfl⟩ : ∃ t, u = .int i t := r
    exact .int i t
  | .str x, _, u, .str _, r => by
    obtain ⟨t, rfl⟩ : ∃ t, u = .str x t := r
    exact .str x t
  | .tuple ds, _, u, .tup hs ts, r => by
    obtain rfl : u = .ref _ := r
    obtain ⟨its, rv, ⟨o, ho, hc, n, hd⟩, _⟩ := I.tuple hs
    exact .tuple ho hc hd (by simpa using td_readsAll I ds _ its ts rv)
theorem td_readsAll (I : Inv X pins σ H s) : ∀ (ds : List PyData) (vs : List V) (us : List Value), TDs X.K H vs ds → Vals vs us → ReadsAll s.heap us ds []
  | [], _, us, .nil, r => by
    cases r
    exact .nil
  | d :: ds, _, us, .cons t ts, r => by
    cases r with
    | cons r rr => exact .cons (as := []) (bs := []) (td_reads I d _ _ t r) (td_readsAll I ds _ _ ts rr)
end
end
theorem tds_map {K : PySem.W.Frag} {H : Hp} {α : Type} {f : α → V} {g : α → PyData} : ∀ {l : List α}, (∀ z ∈ l, TD K H (f z) (g z)) → TDs K H (l.map f) (l.map g)
  | [], _ => .nil
  | z :: l, h => .cons (h z (by simp)) (tds_map fun y hy => h y (List.mem_cons_of_mem _ hy))
theorem pairs_get {P : Program} {w : World} : ∀ {es : List DictEntry} {kvs : List (Key × Value)}, Pairs (mixKind P w) es kvs → ∀ {j : Nat} {kv : Key × Value}, kvs[j]? = some kv → ∃ e, es[j]? = some e ∧ (mixKind P w).is kv.1 e.key = true ∧ e.val = kv.2
  | _, _, .nil, j, kv, h => by simp at h
  | _, _, .cons h1 h2 t, 0, kv, h => by
    simp at h
    subst h
    exact ⟨_, rfl, h1, h2⟩
  | _, _, .cons h1 h2 t, j + 1, kv, h => by
    simp at h
    obtain ⟨e, a, b⟩ := pairs_get t h
    exact ⟨e, by simpa using a, b⟩
/-- d.items() -/
def rItemsK : V → List V → Hp → VK → Prop := fun x xs H Q => ∃ (a : Addr) (kvs : List (Key × V)), x = .ref a ∧ xs = [] ∧ H a = some (.dK kvs) ∧ ∀ p, H p = none → Q (.ref p) (upd H p (DX.itemsO p a))
/-- sorted(d.items()) -/
def rSortedIt (K : PySem.W.Frag) : List V → Hp → VK → Prop := fun vs H Q => ∃ (p a : Addr) (kvs : List (Key × V)) (ds : List (Str × PyData)), vs = [.ref p] ∧ H p = some (DX.itemsO p a) ∧ H a = some (.dK kvs) ∧ kvs.map (·.1) = ds.map (fun e => Sum.inr e.1) ∧
  TDs K H (kvs.map (·.2)) (ds.map (·.2)) ∧ kvs.length ≤ 1000 ∧ (∀ e ∈ ds, ∀ f ∈ ds, PySem.W.alike e.2 f.2 = true) ∧ (∀ e ∈ ds, e.2.depth ≤ 8) ∧
  ∀ l H' xs (es : List (Str × PyData)), Ex H H' → H l = none → H' l = some (.lst xs) → TDs K H' xs (es.map fun e => .tuple [.str e.1, e.2]) → es.Perm ds → Q (.ref l) H'
section
variable {X : Cx}
theorem mt_itemsK : MtR X "dict.items" rItemsK := by
  rintro pins s σ H _ _ v us Q I rx rxs ⟨a, kvs, rfl, rfl, ha, q⟩
  obtain rfl : v = Value.ref a := rx
  obtain rfl : us = [] := by cases rxs; rfl
  have dict := dk_of I.hok ha
  obtain ⟨_, hd, _, _, o, es, ep, ho, hx, hdat, _⟩ := dict
  have laid := I.laid (t' := s.toks) (o := DX.itemsO s.heap.objs.size a) (fun b u e => Heap.get?_push_of_some _ e) (Nat.le_refl _) (DX.itemsO_ok (Heap.get?_push_size s.heap rfl))
  exact DT.callItems hd ⟨o, ho, hx, hdat⟩ ⟨.ref s.heap.objs.size, _, laid, rfl, q _ (I.hok.fresh (Nat.le_refl s.heap.objs.size))⟩
theorem cr_sortedIt (hc : X.calm = true) (hu : X.A.units + 64 < cLine) : CallR X (.builtin "sorted") (rSortedIt X.K) := by
  intro pins s σ H xs us Q I r h
  obtain ⟨p, a, kvs, ds, rfl, hp, ha, hk1, hts, hz, hal, hdp, q⟩ := h
  obtain rfl := Vals.ref1 r
  have view : s.heap.IsItemsView p a := (show ObjOk X.prog X.w H s.heap p (DX.itemsO p a) from I.hok p _ hp).1
  obtain ⟨z, hd, vs, rel, o, es, ep, ho, hx, hdat, hko, hpr, hnd⟩ := dk_of I.hok ha
  have l1 : kvs.length = vs.length := Paired.length rel
  have l2 : es.size = vs.length := by have := hpr.length; simpa using this
  have ld : ds.length = kvs.length := by have := congrArg List.length hk1; simpa using this.symm
  refine DT.sortedI (es := es) (ep := ep) (I.ok.hd hc) view ⟨o, ho, hx, hdat⟩ (by rw [sizeLine_eq]; omega) fun h' tk as hk hlt hl hG => ?_
  have lak : as.length = ds.length := by omega
  have nd : as.Nodup := hG.rise.imp Nat.ne_of_lt
  -- the pairs that were made
  have pr : ∀ (j : Nat) (b : Addr), as[j]? = some b → ∃ (e : Str × PyData) (v : V) (key u : Value), ds[j]? = some e ∧ TD X.K H v e.2 ∧ RelV (.str e.1) key ∧ RelV v u ∧ h'.get? b = some { cls := .type "tuple", data := .seq #[key, u] } := by
    intro j b hj
    have jl : j < ds.length := by rw [← lak]; exact (List.getElem?_eq_some_iff.mp hj).1
    obtain ⟨en, he, hg⟩ := hG.pairs j b hj
    have hkv : kvs[j]? = some kvs[j] := List.getElem?_eq_getElem (by omega)
    obtain ⟨x, hx, rx⟩ : ∃ x, vs[j]? = some x ∧ (kvs[j]).1 = x.1 ∧ RelV (kvs[j]).2 x.2 := by
      have hx : vs[j]? = some vs[j] := List.getElem?_eq_getElem (by omega)
      obtain ⟨y, h1, h2⟩ := DX.pget rel hx
      rw [hkv] at h1
      cases h1
      exact ⟨_, hx, h2⟩
    obtain ⟨e2, he2, hi, hv⟩ := pairs_get hpr hx
    rw [Array.getElem?_toList, he] at he2
    cases he2
    have hk2 : (kvs[j]).1 = Sum.inr (ds[j]).1 := by
      have h1 : (kvs.map (·.1))[j]? = some (kvs[j]).1 := by rw [List.getElem?_map, hkv]; rfl
      rw [hk1, List.getElem?_map, List.getElem?_eq_getElem jl] at h1
      exact (Option.some.inj h1).symm
    obtain ⟨v, hv1, hv2⟩ := hts.get (i := j) (d := (ds[j]).2) (by rw [List.getElem?_map, List.getElem?_eq_getElem jl]; rfl)
    rw [List.getElem?_map, hkv] at hv1
    cases hv1
    refine ⟨ds[j], _, en.key, en.val, List.getElem?_eq_getElem jl, hv2, ?_, by rw [hv]; exact rx.2, hg⟩
    have : keyIs (.inr (ds[j]).1) en.key = true := by rw [← hk2, rx.1]; exact hi
    exact relV_key this
  -- the new list, ahead of the sort
  obtain ⟨h2, e2, hob, old⟩ : ∃ h2 : Heap, h2 = h'.push { cls := .type "list", data := .seq (as.map Value.ref).toArray } ∧ h2.get? h'.objs.size = some (seqObj "list" (as.map Value.ref).toArray 0) ∧
      ∀ b o, h'.get? b = some o → h2.get? b = some o ∧ b ≠ h'.objs.size :=
    ⟨_, rfl, Heap.get?_push_size _ rfl, fun b o e => ⟨Heap.get?_push_of_some _ e, Nat.ne_of_lt (Heap.lt_size e)⟩⟩
  rw [← e2]
  have each : PySem.W.EachIs (fun (v : Value) (b : Addr × Str × PyData) => v = .ref b.1 ∧ b ∈ as.zip ds) (as.map Value.ref) (as.zip ds) := by
    have go : ∀ (as : List Addr) (ds : List (Str × PyData)) (L : List (Addr × Str × PyData)), as.length = ds.length → (∀ b ∈ as.zip ds, b ∈ L) → PySem.W.EachIs (fun (v : Value) (b : Addr × Str × PyData) => v = .ref b.1 ∧ b ∈ L) (as.map Value.ref) (as.zip ds) := by
      intro as
      induction as with
      | nil => intro ds L _ _; exact .nil
      | cons a as ih =>
        intro ds L hl hm
        cases ds with
        | nil => simp at hl
        | cons d ds => exact .cons ⟨rfl, hm _ (by simp)⟩ (ih ds L (by simpa using hl) fun b hb => hm b (by simp [hb]))
    exact go as ds _ lak fun b hb => hb
  have idx : ∀ b : Addr × Str × PyData, b ∈ as.zip ds → ∃ j : Nat, as[j]? = some b.1 ∧ ds[j]? = some b.2 := by
    intro b hb
    refine (List.mem_iff_getElem?.mp hb).imp fun j hj => ?_
    exact List.getElem?_zip_eq_some.mp hj
  have reads : ∀ b : Addr × Str × PyData, b ∈ as.zip ds → Reads h2 (.ref b.1) (.tuple [.str b.2.1, b.2.2]) [] := by
    intro b hb
    obtain ⟨j, j1, j2⟩ := idx b hb
    obtain ⟨e, v, key, u, he, tv, rk, ru, hg⟩ := pr j b.1 j1
    rw [he] at j2
    cases j2
    obtain ⟨t, rfl⟩ : ∃ t, key = .str b.2.1 t := rk
    refine .tuple (old _ _ hg).1 rfl rfl (.cons (as := []) (bs := []) (.str _ _) (.cons (as := []) (bs := []) ?_ .nil))
    exact PyProof.Rows.Reads.keeps (fun b' o e => (old b' o (hk b' o e)).1) (td_reads I b.2.2 v u tv ru)
  refine PySem.W.list_sort_data (enc := fun b : Addr × Str × PyData => .tuple [.str b.2.1, b.2.2]) (R := fun (v : Value) (b : Addr × Str × PyData) => v = .ref b.1 ∧ b ∈ as.zip ds) (bs := as.zip ds) (vs := as.map Value.ref) hob each (each.mono fun v b h => by
    obtain ⟨hv, hb⟩ := h
    subst hv
    exact ⟨[], reads b hb, by simp⟩) ?_ ?_ ?_ ?_ ?_
  · intro d hd d' hd'
    obtain ⟨b, hb, rfl⟩ := List.mem_map.mp hd
    obtain ⟨b', hb', rfl⟩ := List.mem_map.mp hd'
    obtain ⟨j, _, j2⟩ := idx b hb
    obtain ⟨j', _, j2'⟩ := idx b' hb'
    have := hal _ (List.mem_of_getElem? j2) _ (List.mem_of_getElem? j2')
    simp [PySem.W.alike, PySem.W.alikeAll, this]
  · refine .inl fun d hd => ?_
    obtain ⟨b, hb, rfl⟩ := List.mem_map.mp hd
    exact ⟨_, _, rfl⟩
  · rw [List.length_zip, sizeLine_eq]
    omega
  · intro b hb
    obtain ⟨j, _, j2⟩ := idx b hb
    have := hdp _ (List.mem_of_getElem? j2)
    show X.A.units + 1 + 1 + PyData.depth (.tuple [.str b.2.1, b.2.2]) < cLine
    simp [PyData.depth, PyData.depthAll]
    omega
  · intro out ol oe
    generalize hzs : (as.zip ds).mergeSort (PySem.W.dataLe false fun b => .tuple [.str b.2.1, b.2.2]) = zs at oe
    have pz : zs.Perm (as.zip ds) := by rw [← hzs]; exact List.mergeSort_perm _ _
    have hout : out = zs.map fun z => Value.ref z.1 := by
      clear ol hzs pz
      induction oe with
      | nil => rfl
      | cons h t ih => rw [h.1, ih]; rfl
    have hperm : (zs.map (·.2)).Perm ds := by
      have e := pz.map (·.2)
      have m2 : (as.zip ds).map (·.2) = ds := List.map_snd_zip (by rw [lak]; exact Nat.le_refl _)
      rw [m2] at e
      exact e
    -- behind the sort
    obtain ⟨h3, e3⟩ : ∃ h3, h3 = sortedHeap h2 h'.objs.size (as.map Value.ref) out.toArray := ⟨_, rfl⟩
    have kept3 (b : Addr) (o : Obj) (e : h'.get? b = some o) : h3.get? b = some o := by
      rw [e3]
      exact (PyProof.Rows.sortedHeap_old (old b o e).2 (Heap.lt_size (old b o e).1)).trans (old b o e).1
    obtain ⟨epoch, at3⟩ : ∃ ep, h3.get? h'.objs.size = some (seqObj "list" out.toArray ep) := e3 ▸ PyProof.Rows.sortedHeap_at (vs := as.map Value.ref) (out := out.toArray) hob
    have top : s.heap.objs.size ≤ h'.objs.size := Nat.le_of_lt hlt
    have none3 : H h'.objs.size = none := I.hok.fresh top
    have few : (zs.map fun z => V.ref z.1).length ≤ sizeLine := by
      have e := hperm.length_eq
      simp only [List.length_map, sizeLine_eq] at e ⊢
      omega
    have rv : Vals (zs.map fun z => V.ref z.1) out := hout ▸ vals_maps (fun z : Addr × Str × PyData => V.ref z.1) (fun z => Value.ref z.1) zs fun _ _ => rfl
    have I1 : Inv X pins σ H { s with heap := h3, toks := tk } := I.kept fun b o e => kept3 b o (hk b o e)
    have I2 := I1.take (t' := tk) (it := h'.objs.size) (o := .lst (zs.map fun z => V.ref z.1)) (fun b ob _ e => e) (I.fpOk top none3) ⟨few, out, epoch, rv, at3⟩
    rw [← e3]
    have put2 : ∀ b o, h'.get? b = some o → upd H h'.objs.size (.lst (zs.map fun z => V.ref z.1)) b = H b := fun b o e => upd_ne (old b o e).2
    obtain ⟨H2, I3, g, qt⟩ := DX.takeT (P := fun b vs => ∃ (j : Nat) (e : Str × PyData) (v : V), as[j]? = some b ∧ ds[j]? = some e ∧ vs = [.str e.1, v] ∧ TD X.K H v e.2) I as _ I2 nd fun b hb => by
      obtain ⟨j, hj⟩ := List.getElem?_of_mem hb
      obtain ⟨e, v, key, u, he, tv, rk, ru, hg⟩ := pr j b hj
      have above : s.heap.objs.size ≤ b := Nat.le_of_lt (hG.above b hb)
      exact ⟨above, (put2 b _ hg).trans (I.hok.fresh above), [.str e.1, v], ⟨j, e, v, hj, he, rfl, tv⟩, fun H3 => ⟨(by simp [sizeLine_eq]), [key, u], .cons rk (.cons ru .nil), ⟨_, kept3 _ _ hg, rfl, 0, rfl⟩⟩⟩
    have gr : Ex H H2 := fun b o e => g b o ((upd_ne (ne_of_none e none3)).trans e)
    refine ⟨.ref h'.objs.size, H2, I3, rfl, q h'.objs.size H2 _ (zs.map (·.2)) gr none3 (g _ _ upd_same) ?_ hperm⟩
    rw [List.map_map]
    refine tds_map fun z' hz' => ?_
    obtain ⟨i, i1, i2⟩ := idx z' (pz.mem_iff.mp hz')
    obtain ⟨vs', ⟨j, e, v, j1, j2, ev, tv⟩, hH⟩ := qt z'.1 (List.mem_of_getElem? i1)
    obtain rfl : i = j := by
      obtain ⟨li, _⟩ := List.getElem?_eq_some_iff.mp i1
      exact (List.getElem?_inj li nd).mp (by rw [i1, j1])
    rw [i2] at j2
    cases j2
    subst ev
    exact .tup (st_of hH) (.cons (.str _) (.cons (tv.ex gr) .nil))
theorem k_sortedIt (K : PySem.W.Frag) (hc : X.calm = true) (hu : X.A.units + 64 < cLine) (h : X.K = K := by rfl) : CallR X (.builtin "sorted") (rSortedIt K) := h ▸ cr_sortedIt hc hu
end
end K33
set_option autoImplicit false
set_option Elab.async false
set_option linter.all false
set_option maxRecDepth 100000
set_option maxHeartbeats 4000000
namespace K33
open PySem PySem.Spec PyProof.Rows L2 Evl
/-! ### rows by words, put together -/
section
variable {β : Type}
def rowD (ec : β → PyData) (e : Str × List β) : PyData := .tuple [.str e.1, .tuple (e.2.map ec)]
def putL (ds : List (Str × List β)) (w : Str) (l : List β) : List (Str × List β) := if (ds.any fun e => decide (e.1 = w)) = true then ds.map (fun e => if e.1 = w then (e.1, l) else e) else ds ++ [(w, l)]
theorem any_keys {ds : List (Str × List β)} {w : Str} : (ds.any fun e => decide (e.1 = w)) = true ↔ w ∈ ds.map (·.1) := by
  rw [List.any_eq_true, List.mem_map]
  exact ⟨fun ⟨e, h1, h2⟩ => ⟨e, h1, of_decide_eq_true h2⟩, fun ⟨e, h1, h2⟩ => ⟨e, h1, decide_eq_true h2⟩⟩
theorem putL_keys {ds : List (Str × List β)} {w : Str} {l : List β} (nd : (ds.map (·.1)).Nodup) : ((putL ds w l).map (·.1)).Nodup ∧ (∀ h, h ∈ (putL ds w l).map (·.1) ↔ h ∈ ds.map (·.1) ∨ h = w) ∧ (putL ds w l).length ≤ ds.length + 1 := by
  unfold putL
  by_cases h : (ds.any fun e => decide (e.1 = w)) = true
  · rw [if_pos h]
    have e : (ds.map fun e => if e.1 = w then (e.1, l) else e).map (·.1) = ds.map (·.1) := by
      rw [List.map_map]
      apply List.map_congr_left
      intro e _
      simp only [Function.comp]
      split <;> rfl
    rw [e]
    exact ⟨nd, fun x => ⟨.inl, fun q => q.elim id fun q => q ▸ any_keys.mp h⟩, by simp⟩
  · rw [if_neg h]
    have hn : w ∉ ds.map (·.1) := fun q => h (any_keys.mpr q)
    refine ⟨?_, fun x => by simp [List.map_append], by simp⟩
    rw [List.map_append, List.nodup_append]
    refine ⟨nd, by simp, fun a ha b hb => ?_⟩
    have : b = w := by simpa using hb
    rintro rfl
    exact hn (this ▸ ha)
theorem getL_map {ds : List (Str × List β)} {w : Str} {l : List β} : ∀ h, getL (ds.map fun e => if e.1 = w then (e.1, l) else e) h = if h = w ∧ h ∈ ds.map (·.1) then l else getL ds h := by
  intro h
  induction ds with
  | nil => simp [getL]
  | cons e r ih =>
    obtain ⟨k, v⟩ := e
    rw [List.map_cons]
    by_cases hk : k = w
    · rw [if_pos hk]
      by_cases hh : k = h
      · subst hh
        simp [getL, hk]
      · have hn : ¬ h = w := fun e => hh (hk.trans e.symm)
        simp only [getL, if_neg hh, ih, hn, false_and, if_false]
    · rw [if_neg hk]
      by_cases hh : k = h
      · subst hh
        simp [getL, hk]
      · have : ¬ h = k := fun e => hh e.symm
        simp only [getL, if_neg hh, ih, List.map_cons, List.mem_cons, this, false_or]
theorem getL_snoc {ds : List (Str × List β)} {w : Str} {l : List β} (h : Str) : getL (ds ++ [(w, l)]) h = if h ∈ ds.map (·.1) then getL ds h else if h = w then l else [] := by
  induction ds with
  | nil =>
    simp only [List.nil_append, getL, List.map_nil, List.not_mem_nil, if_false]
    by_cases e : w = h
    · rw [if_pos e, if_pos e.symm]
    · rw [if_neg e, if_neg fun q => e q.symm]
  | cons e r ih =>
    obtain ⟨k, v⟩ := e
    simp only [List.cons_append, getL]
    by_cases hh : k = h
    · subst hh
      simp
    · have : ¬ h = k := fun e => hh e.symm
      simp only [if_neg hh, ih, List.map_cons, List.mem_cons, this, false_or]
theorem getL_put {ds : List (Str × List β)} {w : Str} {l : List β} (h : Str) : getL (putL ds w l) h = if h = w then l else getL ds h := by
  unfold putL
  by_cases hp : (ds.any fun e => decide (e.1 = w)) = true
  · rw [if_pos hp, getL_map]
    by_cases e : h = w
    · subst e
      rw [if_pos ⟨rfl, any_keys.mp hp⟩, if_pos rfl]
    · rw [if_neg (fun q => e q.1), if_neg e]
  · rw [if_neg hp, getL_snoc]
    have hn : w ∉ ds.map (·.1) := fun q => hp (any_keys.mpr q)
    by_cases e : h = w
    · subst e
      rw [if_neg hn, if_pos rfl, if_pos rfl]
    · rw [if_neg e]
      by_cases m : h ∈ ds.map (·.1)
      · rw [if_pos m, if_neg e]
      · rw [if_neg m, if_neg e, getL_none m]
/-- the dict of rows -/
def RelD (K : PySem.W.Frag) (H : Hp) (ec : β → PyData) (kvs : List (Key × V)) (ds : List (Str × List β)) : Prop :=
  kvs.map (·.1) = ds.map (fun e => (Sum.inr e.1 : Key)) ∧ ∀ (i : Nat) e kv, ds[i]? = some e → kvs[i]? = some kv → TD K H kv.2 (.tuple (e.2.map ec))
variable {K : PySem.W.Frag} {H H' : Hp} {ec : β → PyData} {kvs : List (Key × V)} {ds : List (Str × List β)}
theorem RelD.kt (e : Kt H H') (h : RelD K H ec kvs ds) : RelD K H' ec kvs ds := ⟨h.1, fun i a kv h1 h2 => (h.2 i a kv h1 h2).mono e⟩
theorem inr_nodup (nd : (ds.map (·.1)).Nodup) : (ds.map (fun e => (Sum.inr e.1 : Key))).Nodup := by
  have : (ds.map fun e => (Sum.inr e.1 : Key)) = (ds.map (·.1)).map Sum.inr := by rw [List.map_map]; rfl
  rw [this]
  exact nd.map _ fun a b n e => n (Sum.inr.inj e)
theorem RelD.get (h : RelD K H ec kvs ds) (nd : (ds.map (·.1)).Nodup) (w : Str) : (valV kvs (Sum.inr w) = none ∧ getL ds w = []) ∨ ∃ v, valV kvs (Sum.inr w) = some v ∧ TD K H v (.tuple ((getL ds w).map ec)) := by
  by_cases hw : w ∈ ds.map (·.1)
  · right
    obtain ⟨e, he, rfl⟩ := List.mem_map.mp hw
    obtain ⟨i, hi⟩ := List.getElem?_of_mem he
    obtain ⟨v, h1, h2⟩ := dk_get (key := fun e : Str × List β => (Sum.inr e.1 : Key)) h.1 (inr_nodup nd) hi
    refine ⟨v, h1, ?_⟩
    have := h.2 i e _ hi h2
    rw [getL_mem nd (v := e.2) he]
    exact this
  · left
    refine ⟨?_, getL_none hw⟩
    cases q : valV kvs (Sum.inr w) with
    | none => rfl
    | some v =>
      have m : (Sum.inr w : Key) ∈ kvs.map (·.1) := List.mem_map.mpr ⟨_, valV_mem q, rfl⟩
      rw [h.1] at m
      obtain ⟨e, he, e2⟩ := List.mem_map.mp m
      exact (hw (List.mem_map.mpr ⟨e, he, Sum.inr.inj e2⟩)).elim
theorem RelD.put (h : RelD K H ec kvs ds) {w : Str} {l : List β} {v : V} (tv : TD K H v (.tuple (l.map ec))) : RelD K H ec (putK kvs (Sum.inr w) v) (putL ds w l) := by
  have ea : (kvs.any fun kv => decide (kv.1 = (Sum.inr w : Key))) = (ds.any fun e => decide (e.1 = w)) := by
    have h1 : (kvs.any fun kv => decide (kv.1 = (Sum.inr w : Key))) = (kvs.map (·.1)).any fun k => decide (k = (Sum.inr w : Key)) := by rw [List.any_map]; rfl
    rw [h1, h.1, List.any_map]
    congr 1
    funext e
    simp only [Function.comp, Sum.inr.injEq]
  have len : kvs.length = ds.length := by have := congrArg List.length h.1; simpa using this
  unfold putK putL
  rw [ea]
  by_cases hp : (ds.any fun e => decide (e.1 = w)) = true
  · rw [if_pos hp, if_pos hp]
    refine ⟨?_, fun i e kv hi hk => ?_⟩
    · refine Eq.trans (b := kvs.map (·.1)) ?_ (h.1.trans ?_)
      · rw [List.map_map]
        apply List.map_congr_left
        intro e _
        simp only [Function.comp]
        split <;> rfl
      · rw [List.map_map]
        apply List.map_congr_left
        intro e _
        simp only [Function.comp]
        split <;> rfl
    · rw [List.getElem?_map] at hi hk
      cases q1 : ds[i]? with
      | none => rw [q1] at hi; cases hi
      | some e1 =>
        cases q2 : kvs[i]? with
        | none => rw [q2] at hk; cases hk
        | some k1 =>
          rw [q1] at hi
          rw [q2] at hk
          cases hi
          cases hk
          have hk1 : k1.1 = Sum.inr e1.1 := by
            have h1 : (kvs.map (·.1))[i]? = some k1.1 := by rw [List.getElem?_map, q2]; rfl
            rw [h.1, List.getElem?_map, q1] at h1
            exact (Option.some.inj h1).symm
          dsimp only
          by_cases e : e1.1 = w
          · rw [if_pos e, if_pos (by rw [hk1, e])]
            exact tv
          · rw [if_neg e, if_neg (by rw [hk1]; exact fun q => e (Sum.inr.inj q))]
            exact h.2 i e1 k1 q1 q2
  · rw [if_neg hp, if_neg hp]
    refine ⟨by rw [List.map_append, List.map_append, h.1]; rfl, fun i e kv hi hk => ?_⟩
    by_cases hl : i < ds.length
    · rw [List.getElem?_append_left hl] at hi
      rw [List.getElem?_append_left (by omega)] at hk
      exact h.2 i e kv hi hk
    · rw [List.getElem?_append_right (by omega)] at hi
      rw [List.getElem?_append_right (by omega)] at hk
      have : i = ds.length := by
        have := (List.getElem?_eq_some_iff.mp hi).1
        simp at this
        omega
      subst this
      rw [Nat.sub_self] at hi
      rw [len, Nat.sub_self] at hk
      cases hi
      cases hk
      exact tv
end
section
variable {K : PySem.W.Frag} {σ : L2.St} {H H' : Hp} {ta tb : TE}
/-- t + u, of tuples -/
theorem ed_catA {ds es : List PyData} (h1 : ED K ta σ H (· = .tuple ds)) (h2 : ED K tb σ H (· = .tuple es)) (hz : ds.length + es.length ≤ 100000) : ED K (tOp (rCatA K) ta tb) σ H (· = .tuple (ds ++ es)) := fun H1 a Q q =>
  h1 H1 a _ fun v H2 d e2 t2 p2 => h2 H2 (a.trans e2) _ fun w H3 d3 e3 t3 p3 => by
    subst p2 p3
    obtain ⟨p, xs, rfl, hs, ts⟩ := t2.tupI
    obtain ⟨p', ys, rfl, hs', ts'⟩ := t3.tupI
    have l1 := ts.len
    have l2 := ts'.len
    refine ⟨p, p', xs, ys, rfl, rfl, ex_t e3 hs, hs', sz_of (by omega), fun e => ?_, fun _ e => ?_, fun _ _ l nl => q (.ref l) _ _ ((e2.trans e3).trans (Ex.new nl)) (.tup (st_of upd_same) ((ts.ex (e3.trans (Ex.new nl))).app (ts'.ex (Ex.new nl)))) rfl⟩
    · subst e
      have : ds = [] := List.length_eq_zero_iff.mp (by simpa using l1.symm)
      subst this
      exact q (.ref p') H3 _ (e2.trans e3) (.tup hs' ts') rfl
    · subst e
      have : es = [] := List.length_eq_zero_iff.mp (by simpa using l2.symm)
      subst this
      exact q (.ref p) H3 _ (e2.trans e3) (.tup (ex_t e3 hs) (ts.ex e3)) (by simp)
theorem k_catA (K : PySem.W.Frag) {X : Cx} (h : X.K = K := by rfl) : OpR X (binaryOp .Add) (rCatA K) := h ▸ op_catA
theorem ev_addN {i j : Nat} (h1 : Ev ta σ H (.int (i : Int))) (h2 : Ev tb σ H (.int (j : Int))) : Ev (tOp (rI0 fun i j => V.int (i + j)) ta tb) σ H (.int ((i + j : Nat) : Int)) := ev_op h1 h2 rv_I0
theorem ev_add {i j : Int} (h1 : Ev ta σ H (.int i)) (h2 : Ev tb σ H (.int j)) : Ev (tOp (rI0 fun i j => V.int (i + j)) ta tb) σ H (.int (i + j)) := ev_op h1 h2 rv_I0
end
section
variable {P : Program} {w : World} {K : PySem.W.Frag} {mg : Str → Option Value} {base : Heap} {C : Addr}
abbrev sp_moved (K : PySem.W.Frag) : Sp := fun vs H Q _ => ∃ (v : V) (ps : List (Nat × Nat)) (n : Nat), vs = [v, .int (n : Int)] ∧ TD K H v (dPairs ps) ∧ ps.length ≤ 1000 ∧ ∀ v H', Ex H H' → TD K H' v (dPairs (ps.map fun p => (p.1 + n, p.2 + n))) → Q v H'
theorem has_moved (D : DefAt K mg "moved_pairs" st_moved_pairs ["pairs", "by"]) (B : Blt mg) : Has P w K mg base CX0 1 "moved_pairs" ["pairs", "by"] (sp_moved K) := by
  refine D.ok sc_moved_pairs (fun vs H Q E h => ?_) (fun f cdv A outer s H vs Q E hr h => ?_)
  · obtain ⟨v, ps, n, rfl, _⟩ := h
    rfl
  · obtain ⟨v, ps, n, rfl, tv, hz, k⟩ := h
    have nd := sc_moved_pairs.nd
    refine ⟨_, pss_one (ps_ret (pe_callTy (k_tuple K) (by rfl) B.b_tuple (by decide +kernel) (pa_cons (pe_lc (own := [("x", 2), ("y", 3)]) rfl nd (k_pit K (pv 0)) (blk (N := ["pairs", "by", "x", "y"]) (sc := defScope st_moved_pairs) (by decide +kernel))
      (fun _ _ _ _ _ => k_tup K 2 rfl (pgs_cons (pg_name (i := 2) nd rfl (.inl rfl)) (pgs_cons (pg_name (i := 3) nd rfl (.inl rfl)) pgs_nil))) (fun _ _ _ _ _ => pts_nil)
      (fun _ _ _ _ _ => pe_tup (pa_cons (pe_op op_add (pv 2) (pv 1)) (pa_cons (pe_op op_add (pv 3) (pv 1)) pa_nil)))) pa_nil))), ?_⟩
    refine s_retD (K := K) (P := (· = dPairs (ps.map fun p => (p.1 + n, p.2 + n)))) ((ed_tuple (eld_lcA (K := K) (l := ps) (enc := dPair) (fun p => dPair (p.1 + n, p.2 + n)) (src_tup (ed_var (v := v) rfl tv)).ex (by omega) fun p hp y H1 Q1 e1 ty ky => ?_)).imp fun d hd => by rw [hd]; unfold dPairs; rw [List.map_map]; rfl) fun v d H5 e5 t5 p5 => ?_
    · refine tg_pair ty fun a b ta tb => ?_
      obtain rfl := ta.intI
      obtain rfl := tb.intI
      exact ky _ rfl (ed_tup (eds_c (ed_i (ev_addN (ev_var rfl) (ev_var rfl))) (eds_c (ed_i (ev_addN (ev_var rfl) (ev_var rfl))) eds_nil)) (by simp))
    · subst p5
      exact k v H5 e5 t5
abbrev sp_joined (K : PySem.W.Frag) : Sp := fun vs H Q _ => ∃ (β : Type) (ec : β → PyData) (l1 l2 : List (Str × List β)) (v : V) (a : Addr) (xs : List V), vs = [v, .ref a] ∧ TD K H v (.tuple (l1.map (rowD ec))) ∧ H a = some (.lst xs) ∧ TDs K H xs (l2.map (rowD ec)) ∧
  (l1.map (·.1)).Nodup ∧ (l2.map (·.1)).Nodup ∧ l1.length ≤ 100 ∧ l2.length ≤ 100 ∧ (∀ e ∈ l1, e.2.length ≤ 1000) ∧ (∀ e ∈ l2, e.2.length ≤ 1000) ∧ (∀ x y, PySem.W.alike (ec x) (ec y) = true) ∧ (∀ x, (ec x).depth ≤ 4) ∧
  ∀ v H' (es : List (Str × List β)), Ex H H' → TD K H' v (.tuple (es.map (rowD ec))) → (es.map (·.1)).Nodup → (∀ h, getL es h = getL l1 h ++ getL l2 h) → (∀ h ∈ es.map (·.1), h ∈ l1.map (·.1) ∨ h ∈ l2.map (·.1)) → Q v H'
theorem alike_rows {β : Type} {ec : β → PyData} (h : ∀ x y, PySem.W.alike (ec x) (ec y) = true) (a b : List β) : PySem.W.alike (.tuple (a.map ec)) (.tuple (b.map ec)) = true := by
  show PySem.W.alike (.tuple _) (.tuple _) = true
  rw [PySem.W.alike]
  induction a generalizing b with
  | nil => simp [PySem.W.alikeAll]
  | cons x r ih =>
    cases b with
    | nil => simp [PySem.W.alikeAll]
    | cons y s => rw [List.map_cons, List.map_cons, PySem.W.alikeAll, h, ih]; rfl
theorem depth_rows {β : Type} {ec : β → PyData} (h : ∀ x, (ec x).depth ≤ 4) (a : List β) : PyData.depth (.tuple (a.map ec)) ≤ 5 := by
  rw [PyData.depth]
  have : PyData.depthAll (a.map ec) ≤ 4 := by
    induction a with
    | nil => simp [PyData.depthAll]
    | cons x r ih => have := h x; simp [PyData.depthAll]; omega
  omega
theorem has_joined (D : DefAt K mg "joined_named" st_joined_named ["one", "other"]) (B : Blt mg) : Has P w K mg base CX0 1 "joined_named" ["one", "other"] (sp_joined K) := by
  refine D.ok sc_joined_named (fun vs H Q E h => ?_) (fun f cdv A outer s H vs Q E hr h => ?_)
  · obtain ⟨β, ec, l1, l2, v, a, xs, rfl, _⟩ := h
    rfl
  · obtain ⟨β, ec, l1, l2, v, a, xs, rfl, tv, ha, txs, nd1, nd2, z1, z2, y1, y2, al, dp, k⟩ := h
    have nd := sc_joined_named.nd
    have hu := hu_of hr
    refine ⟨_, pss_cons (ps_setDc (i := 2) (own := [("word", 3), ("some", 4)]) rfl nd rfl rfl (sw_trueD rfl rfl rfl (by decide +kernel)) (k_pit K (pv 0)) (blk (N := ["one", "other", "found", "word", "some"]) (sc := defScope st_joined_named) (by decide +kernel))
        (fun _ _ _ _ _ => k_tup K 2 rfl (pgs_cons (pg_name (i := 3) nd rfl (.inl rfl)) (pgs_cons (pg_name (i := 4) nd rfl (.inl rfl)) pgs_nil))) (fun _ _ _ _ _ => pts_nil) (fun _ _ _ _ _ => pv 3) (fun _ _ _ _ _ => pv 4))
      (pss_cons (ps_for PassesOwn.never rfl (k_pil K (pv 1)) (k_tup K 2 rfl (pgs_cons (pg_name (i := 3) nd rfl (.inl rfl)) (pgs_cons (pg_name (i := 4) nd rfl (.inl rfl)) pgs_nil)))
        (pss_one (ps_dput hu (pv 2) (pv 3) (pe_op (k_catA K) (pe_dget2 hu (pv 2) (pv 3) (pe_tup pa_nil) ⟨rfl, rfl, rfl, rfl⟩) (pv 4)) rfl)))
      (pss_one (ps_ret (pe_callTy (k_tuple K) (by rfl) B.b_tuple (by decide +kernel) (pa_cons (pe_callB (k_sortedIt K rfl hr.units) (by rfl) B.b_sorted (by decide +kernel) (pa_cons (pe_bm0 PySem.F.plainAttrs_dict PySem.F.slot_dict_items PySem.F.type_dict_items mt_itemsK (pv 2)) pa_nil)) pa_nil))))), ?_⟩
    refine q_raw ?_
    refine dc_data (K := K) (l := l1) (enc := rowD ec) (fun e => Sum.inr e.1) (fun e => .tuple (e.2.map ec)) (inr_nodup nd1) (by omega) ?_ ?_ ?_
    · exact (src_tup (ed_var (v := v) rfl tv)).ex
    · intro e he x H2 Q2 e2 tx kx
      refine tg_pair tx fun u w tu tw => ?_
      obtain rfl := tu.strI
      exact kx _ rfl (ev_var rfl) (ed_var rfl tw)
    · intro F H1 kv1 nF e1 hF hm hf
      have R1 : RelD K H1 ec kv1 l1 := ⟨hm, hf⟩
      refine q_for (K := K) (src_lstK (H0 := H) (ev_var rfl) (sq_of ha) txs e1) (fun _ i σ H' => (∃ b c, σ = [some v, some (.ref a), some (.ref F), b, c]) ∧ Ex H H' ∧ ∃ kvs ds, H' F = some (.dK kvs) ∧ RelD K H' ec kvs ds ∧ (ds.map (·.1)).Nodup ∧ (∀ h, getL ds h = getL l1 h ++ getL (l2.take i) h) ∧ (∀ h ∈ ds.map (·.1), h ∈ l1.map (·.1) ∨ h ∈ l2.map (·.1)) ∧ ds.length ≤ 100 + i)
        (fun H3 e3 => ⟨⟨none, none, rfl⟩, e1.trans e3, kv1, l1, e3 _ _ hF, R1.kt (Kt.ex e3), nd1, fun h => by simp [getL], fun h hh => .inl hh, z1⟩) (fun _ i σ H' p => p.2.1) ?_ ?_
      · rintro H3 i d x σ' H4 H5 e3 hd ⟨⟨b, c, rfl⟩, a1, kvs, ds, a2, R, nds, gl, ks, zl⟩ e4 tx
        rw [List.getElem?_map] at hd
        cases hqi : l2[i]? with
        | none => rw [hqi] at hd; cases hd
        | some q =>
          rw [hqi] at hd
          cases hd
          have qm := List.mem_of_getElem? hqi
          have il := (List.getElem?_eq_some_iff.mp hqi).1
          refine tg_pair tx fun u z tu tz => ?_
          obtain rfl := tu.strI
          have R5 := R.kt (Kt.ex e4)
          have hF5 : H5 F = some (.dK kvs) := e4 _ _ a2
          have lk : kvs.length = ds.length := by have := congrArg List.length R.1; simpa using this
          have nq : getL (l2.take i) q.1 = [] := getL_none fun hm => by
            have nt : ((l2.take (i + 1)).map (·.1)).Nodup := by
              rw [List.map_take]
              exact nd2.sublist (List.take_sublist _ _)
            have : l2.take (i + 1) = l2.take i ++ [q] := by rw [List.take_add_one, hqi]; rfl
            rw [this, List.map_append, List.nodup_append] at nt
            exact nt.2.2 _ hm _ (by simp) rfl
          have gq : getL ds q.1 = getL l1 q.1 := by rw [gl, nq, List.append_nil]
          have lz : (getL ds q.1).length ≤ 1000 := by
            rw [gq]
            by_cases hm : q.1 ∈ l1.map (·.1)
            · obtain ⟨e, he, e2⟩ := List.mem_map.mp hm
              rw [← e2, getL_mem nd1 (v := e.2) he]
              exact y1 e he
            · rw [getL_none hm]
              simp
          -- the value
          have val : ED K (tOp (rCatA K) (tDGet2 (tVar 2) (tVar 3) (tTup tNil)) (tVar 4)) (([some v, some (.ref a), some (.ref F), b, c].set 3 (some (.str q.1))).set 4 (some z)) H5 (· = .tuple (((getL ds q.1) ++ q.2).map ec)) := by
            rw [List.map_append]
            refine ed_catA (fun H6 e6 Q6 q6 => ?_) (ed_var rfl tz) (by have := y2 q qm; simp; omega)
            refine ⟨_, rfl, F, rfl, .inl ⟨kvs, .inl (e6 _ _ hF5)⟩, _, rfl, sz_of (by simp), fun t0 nt => ?_⟩
            rcases (R5.kt (Kt.ex e6)).get nds q.1 with ⟨g1, g2⟩ | ⟨v0, g1, g2⟩
            · refine ⟨none, .inl ⟨kvs, Sum.inr q.1, .inl (Ex.new nt _ _ (e6 _ _ hF5)), rfl, g1.symm⟩, ?_⟩
              rw [g2] at q6
              exact q6 _ _ _ (Ex.new nt) (.tup (st_of upd_same) .nil) rfl
            · exact ⟨some v0, .inl ⟨kvs, Sum.inr q.1, .inl (Ex.new nt _ _ (e6 _ _ hF5)), rfl, g1.symm⟩, q6 v0 _ _ (Ex.new nt) (g2.ex (Ex.new nt)) rfl⟩
          refine val H5 (Ex.refl _) _ fun vn H6 dn e6 tn pn => ?_
          subst pn
          have hF6 := e6 _ _ hF5
          have kt : Kt H6 (upd H6 F (.dK (putK kvs (Sum.inr q.1) vn))) := Kt.upd hF6 rfl
          obtain ⟨p1, p2, p3⟩ := putL_keys (l := getL ds q.1 ++ q.2) (w := q.1) nds
          refine ⟨_, rfl, _, rfl, F, _, rfl, .inl ⟨kvs, Sum.inr q.1, hF6, rfl, sz_lt (by omega), rfl⟩, ⟨_, _, rfl⟩, Ex.mut (a1.trans (e4.trans e6)) nF, _, _, upd_same, ((R5.kt (Kt.ex e6)).kt kt).put (tn.mono kt), p1, fun h => ?_, fun h hh => ?_, by omega⟩
          · have tk : l2.take (i + 1) = l2.take i ++ [q] := by rw [List.take_add_one, hqi]; rfl
            rw [getL_put, tk]
            have e1 := getL_snoc (ds := l2.take i) (w := q.1) (l := q.2) h
            rw [show ([q] : List (Str × List β)) = [(q.1, q.2)] from rfl, e1]
            by_cases e : h = q.1
            · subst e
              have hn : q.1 ∉ (l2.take i).map (·.1) := fun hm => by
                have nt : ((l2.take (i + 1)).map (·.1)).Nodup := by
                  rw [List.map_take]
                  exact nd2.sublist (List.take_sublist _ _)
                rw [tk, List.map_append, List.nodup_append] at nt
                exact nt.2.2 _ hm _ (by simp) rfl
              rw [if_pos rfl, if_neg hn, if_pos rfl, gq]
            · rw [if_neg e, if_neg e, gl]
              by_cases m : h ∈ (l2.take i).map (·.1)
              · rw [if_pos m]
              · rw [if_neg m, getL_none m]
          · rcases (p2 h).mp hh with h1 | h1
            · exact ks h h1
            · exact .inr (h1 ▸ List.mem_map.mpr ⟨q, qm, rfl⟩)
      · rintro H3 σ' H4 e3 ⟨⟨b, c, rfl⟩, a1, kvs, ds, a2, R, nds, gl, ks, zl⟩
        rw [List.length_map] at zl gl
        rw [List.take_length] at gl
        have lk : kvs.length = ds.length := by have := congrArg List.length R.1; simpa using this
        refine s_retD (K := K) (P := fun d => ∃ es : List (Str × List β), d = .tuple (es.map (rowD ec)) ∧ es.Perm ds) ((ed_tupleP (R := fun l => ∃ es : List (Str × List β), l = es.map (rowD ec) ∧ es.Perm ds) fun H6 e6 Q6 q6 => ?_).imp fun d ⟨l, h1, es, h2, h3⟩ => ⟨es, by rw [h1, h2], h3⟩) fun v9 d9 H9 e9 t9 p9 => ?_
        · refine ⟨_, rfl, .inr (.inr (.inl ⟨rfl, .inl ⟨kvs, e6 _ _ a2⟩⟩)), F, kvs, rfl, rfl, e6 _ _ a2, fun p np => ?_⟩
          refine ⟨p, F, kvs, ds.map fun e => (e.1, .tuple (e.2.map ec)), rfl, upd_same, Ex.new np _ _ (e6 _ _ a2), by rw [R.1, List.map_map]; rfl, ?_, by omega, ?_, ?_, fun l H' xs es e7 nl hl txl pm => ?_⟩
          · have go : ∀ (ds : List (Str × List β)) (kvs : List (Key × V)), kvs.length = ds.length → (∀ (i : Nat) e kv, ds[i]? = some e → kvs[i]? = some kv → TD K (upd H6 p (DX.itemsO p F)) kv.2 (.tuple (e.2.map ec))) → TDs K (upd H6 p (DX.itemsO p F)) (kvs.map (·.2)) ((ds.map fun e => (e.1, PyData.tuple (e.2.map ec))).map (·.2)) := by
              intro ds
              induction ds with
              | nil =>
                intro kvs hl _
                have : kvs = [] := List.length_eq_zero_iff.mp hl
                subst this
                exact .nil
              | cons e r ih =>
                intro kvs hl hf
                cases kvs with
                | nil => simp at hl
                | cons kv s => exact .cons (hf 0 e kv rfl rfl) (ih s (by simpa using hl) fun i a b h1 h2 => hf (i + 1) a b (by simpa using h1) (by simpa using h2))
            exact go ds kvs lk fun i e kv h1 h2 => (R.2 i e kv h1 h2).ex (e6.trans (Ex.new np))
          · intro e he f hf
            obtain ⟨e', _, rfl⟩ := List.mem_map.mp he
            obtain ⟨f', _, rfl⟩ := List.mem_map.mp hf
            exact alike_rows al _ _
          · intro e he
            obtain ⟨e', _, rfl⟩ := List.mem_map.mp he
            exact Nat.le_trans (depth_rows dp _) (by decide)
          · -- the pairs as rows
            obtain ⟨es', he2, he1⟩ : ∃ es' : List (Str × List β), es'.Perm ds ∧ es'.map (fun e => (e.1, PyData.tuple (e.2.map ec))) = es := perm_lift _ pm ds rfl
            subst he1
            refine q6 l xs H' _ (fresh_back (Ex.new np) nl) ((Ex.new np).trans e7) hl txl ⟨es', ?_, he2⟩
            rw [List.map_map]
            rfl
        · obtain ⟨es, rfl, pm⟩ := p9
          have ndk : (es.map (·.1)).Nodup := (pm.map (·.1)).nodup_iff.mpr nds
          refine k v9 H9 es (a1.trans e9) t9 ndk (fun h => ?_) fun h hh => ks h ((pm.map (·.1)).mem_iff.mp hh)
          rw [← gl h]
          by_cases hm : h ∈ ds.map (·.1)
          · obtain ⟨e, he, rfl⟩ := List.mem_map.mp hm
            rw [getL_mem nds (v := e.2) he, getL_mem ndk (v := e.2) (pm.mem_iff.mpr he)]
          · rw [getL_none hm, getL_none fun q => hm ((pm.map (·.1)).mem_iff.mp q)]
end
end K33
set_option autoImplicit false
set_option Elab.async false
set_option linter.all false
set_option maxRecDepth 100000
set_option maxHeartbeats 4000000
namespace K33
open PySem PySem.Spec PyProof.Rows L2 Evl
theorem dStep_row (p : Str × List (Nat × Nat)) : dStep p = rowD dPair p := rfl
def ecN (y : Nat) : PyData := .int (y : Int)
theorem dNats_row (ys : List Nat) : dNats ys = .tuple (ys.map ecN) := by
  unfold dNats nats
  rw [List.map_map]
  rfl
theorem dMark_row (p : Str × List Nat) : dMark p = rowD ecN p := by
  unfold dMark rowD
  rw [dNats_row]
theorem both_ok {m n : Nat} {W V B : Web Str} (oW : WebOk m W) (oV : WebOk n V) (l : m + n ≤ 7) (b : IsBoth W V B) (hh : ∀ h ∈ hands B, h ∈ hands W ∨ h ∈ hands V) (hm : ∀ z ∈ B.marks.map (·.1), z ∈ W.marks.map (·.1) ∨ z ∈ V.marks.map (·.1)) : WebOk (m + n) B where
  wf := b.wf oW.wf oV.wf
  lim := l
  many := by rw [b.many]; have := oW.many; have := oV.many; omega
  hnd := fun h q => (hh h q).elim (oW.hnd h) (oV.hnd h)
  mrk := fun z q => (hm z q).elim (oW.mrk z) (oV.mrk z)
  ps := fun q hq => by
    have e := getL_mem b.nds (v := q.2) hq
    rw [← e, b.steps, List.length_append, List.length_map]
    have g1 : (getL W.steps q.1).length ≤ m * m := by
      by_cases hm : q.1 ∈ hands W
      · obtain ⟨p, hp, e2⟩ := List.mem_map.mp hm
        rw [← e2, getL_mem oW.wf.nds (v := p.2) hp]
        exact oW.ps p hp
      · rw [getL_none hm]; exact Nat.zero_le _
    have g2 : (getL V.steps q.1).length ≤ n * n := by
      by_cases hm : q.1 ∈ hands V
      · obtain ⟨p, hp, e2⟩ := List.mem_map.mp hm
        rw [← e2, getL_mem oV.wf.nds (v := p.2) hp]
        exact oV.ps p hp
      · rw [getL_none hm]; exact Nat.zero_le _
    have : (m + n) * (m + n) = m * m + n * n + 2 * (m * n) := by rw [Nat.add_mul, Nat.mul_add, Nat.mul_add, Nat.mul_comm n m]; omega
    omega
  ys := fun q hq => by
    have e := getL_mem b.ndm (v := q.2) hq
    rw [← e, b.marks, List.length_append, List.length_map]
    have g1 : (getL W.marks q.1).length ≤ m := by
      by_cases hm : q.1 ∈ W.marks.map (·.1)
      · obtain ⟨p, hp, e2⟩ := List.mem_map.mp hm
        rw [← e2, getL_mem oW.wf.ndm (v := p.2) hp]
        exact oW.ys p hp
      · rw [getL_none hm]; exact Nat.zero_le _
    have g2 : (getL V.marks q.1).length ≤ n := by
      by_cases hm : q.1 ∈ V.marks.map (·.1)
      · obtain ⟨p, hp, e2⟩ := List.mem_map.mp hm
        rw [← e2, getL_mem oV.wf.ndm (v := p.2) hp]
        exact oV.ys p hp
      · rw [getL_none hm]; exact Nat.zero_le _
    omega
theorem getL_rows {α β : Type} (f : List α → List β) (hf : f [] = []) (l : List (Str × List α)) (h : Str) : getL (l.map fun e => (e.1, f e.2)) h = f (getL l h) := by
  induction l with
  | nil => simp [getL, hf]
  | cons e r ih =>
    obtain ⟨k, v⟩ := e
    simp only [List.map_cons, getL]
    by_cases hk : k = h
    · rw [if_pos hk, if_pos hk]
    · rw [if_neg hk, if_neg hk, ih]
section
variable {P : Program} {w : World} {K : PySem.W.Frag} {mg : Str → Option Value} {base : Heap} {C : Addr}
abbrev sp_both (K : PySem.W.Frag) : Sp := fun vs H Q _ => ∃ (m n : Nat) (W V : Web Str) (v u : L2.V), vs = [v, u] ∧ TD K H v (dWeb W) ∧ TD K H u (dWeb V) ∧ WebOk m W ∧ WebOk n V ∧ m + n ≤ 7 ∧
  ∀ v H' B, Ex H H' → TD K H' v (dWeb B) → IsBoth W V B → WebOk (m + n) B → Q v H'
theorem has_both (D : DefAt K mg "both_webs" st_both_webs ["web", "other"]) (B : Blt mg) (GM : Has P w K mg base CX0 1 "moved_pairs" ["pairs", "by"] (sp_moved K)) (GJ : Has P w K mg base CX0 1 "joined_named" ["one", "other"] (sp_joined K)) : Has P w K mg base CX0 2 "both_webs" ["web", "other"] (sp_both K) := by
  refine D.ok sc_both_webs (fun vs H Q E h => ?_) (fun f cdv A outer s H vs Q E hr h => ?_)
  · obtain ⟨m, n, W, V, v, u, rfl, _⟩ := h
    rfl
  · obtain ⟨m, n, W, V, v, u, rfl, tv, tu, oW, oV, hl, k⟩ := h
    have nd := sc_both_webs.nd
    refine ⟨_, pss_cons (ps_set (i := 2) nd rfl (.inr rfl) (pe_ix (k_ixT K) (pv 0) pe_int (fun _ _ => rfl)))
      (pss_cons (ps_setLc (i := 3) (own := [("hand", 5), ("pairs", 6)]) rfl nd rfl rfl (sw_true rfl rfl rfl (by decide +kernel)) (k_pit K (pe_ix (k_ixT K) (pv 1) pe_int (fun _ _ => rfl))) (blk (N := ["web", "other", "by", "steps", "marks", "hand", "pairs", "word", "worlds", "world"]) (sc := defScope st_both_webs) (by decide +kernel))
        (fun _ _ _ _ _ => k_tup K 2 rfl (pgs_cons (pg_name (i := 5) nd rfl (.inl rfl)) (pgs_cons (pg_name (i := 6) nd rfl (.inl rfl)) pgs_nil))) (fun _ _ _ _ _ => pts_nil)
        (fun _ _ _ _ _ => pe_tup (pa_cons (pv 5) (pa_cons (pe_has GM hr (by rfl) pass0 (pa_cons (pv 6) (pa_cons (pv 2) pa_nil))) pa_nil))))
      (pss_cons (ps_setLc (i := 4) (own := [("word", 7), ("worlds", 8)]) rfl nd rfl rfl (sw_true rfl rfl rfl (by decide +kernel)) (k_pit K (pe_ix (k_ixT K) (pv 1) pe_int (fun _ _ => rfl))) (blk (N := ["web", "other", "by", "steps", "marks", "hand", "pairs", "word", "worlds", "world"]) (sc := defScope st_both_webs) (by decide +kernel))
        (fun _ _ _ _ _ => k_tup K 2 rfl (pgs_cons (pg_name (i := 7) nd rfl (.inl rfl)) (pgs_cons (pg_name (i := 8) nd rfl (.inl rfl)) pgs_nil))) (fun _ _ _ _ _ => pts_nil)
        (fun _ _ _ _ _ => pe_tup (pa_cons (pv 7) (pa_cons (pe_callTy (k_tuple K) (by rfl) B.b_tuple (by decide +kernel) (pa_cons (pe_lc (own := [("world", 9)]) (g := gName 9) rfl nd (k_pit K (pv 8)) (blk2 (N := ["web", "other", "by", "steps", "marks", "hand", "pairs", "word", "worlds", "world"]) (sc0 := defScope st_both_webs) rfl rfl (by decide +kernel))
          (fun _ _ _ _ _ => pg_name (i := 9) nd rfl (.inl rfl)) (fun _ _ _ _ _ => pts_nil) (fun _ _ _ _ _ => pe_op op_add (pv 9) (pv 2))) pa_nil)) pa_nil))))
      (pss_one (ps_ret (pe_tup (pa_cons (pe_op op_add (pv 2) (pe_ix (k_ixT K) (pv 1) pe_int (fun _ _ => rfl))) (pa_cons (pe_has GJ hr (by rfl) pass0 (pa_cons (pe_ix (k_ixT K) (pv 0) pe_int (fun _ _ => rfl)) (pa_cons (pv 3) pa_nil)))
        (pa_cons (pe_has GJ hr (by rfl) pass0 (pa_cons (pe_ix (k_ixT K) (pv 0) pe_int (fun _ _ => rfl)) (pa_cons (pv 4) pa_nil))) pa_nil)))))))), ?_⟩
    refine q_asg (v := .int (W.many : Int)) (ev_int (ed_ix (i := 0) (ed_var rfl tv) ev_c rfl)) fun H1 e1 => ?_
    refine q_asgLd (K := K) (eld_lcA (K := K) (l := V.steps) (enc := dStep) (fun q => rowD dPair (q.1, q.2.map fun p => (p.1 + W.many, p.2 + W.many))) (src_tup (ed_ix (i := 1) (ed_var rfl (tu.ex e1)) ev_c rfl)).ex (by have := oV.hl; omega) fun q hq x H2 Q2 e2 tx kx => ?_) fun a xs ds H2 na e2 ha txs hds => ?_
    · refine tg_pair tx fun a b ta tb => ?_
      obtain rfl := ta.strI
      refine kx _ rfl (ed_tup (eds_c (ed_s (ev_var rfl)) (eds_c (fun H3 e3 Q3 q3 => ?_) eds_nil)) (by simp))
      exact ⟨_, rfl, _, rfl, b, q.2, W.many, rfl, tb.ex e3, by have := oV.pl q hq; omega, fun v4 H4 e4 t4 => q3 v4 H4 _ e4 t4 rfl⟩
    · subst hds
      have E2 := e1.trans e2
      refine q_asgLd (K := K) (eld_lcA (K := K) (l := V.marks) (enc := dMark) (fun q => rowD ecN (q.1, q.2.map fun y => y + W.many)) (src_tup (ed_ix (i := 2) (ed_var rfl (tu.ex E2)) ev_c rfl)).ex (by have := oV.ml; omega) fun q hq x H3 Q3 e3 tx kx => ?_) fun b ys ds H3 nb e3 hb tys hds => ?_
      · refine tg_pair tx fun a b ta tb => ?_
        obtain rfl := ta.strI
        rw [dNats_row] at tb
        refine kx _ rfl (ed_tup (eds_c (ed_s (ev_var rfl)) (eds_c ((ed_tuple (eld_lcA (K := K) (l := q.2) (enc := ecN) (fun y => ecN (y + W.many)) (src_tup (ed_var rfl tb)).ex (by have := oV.yl q hq; omega) fun y hy z H4 Q4 e4 tz kz => ?_)).imp fun d hd => by rw [hd, List.map_map]; rfl) eds_nil)) (by simp))
        obtain rfl := tz.intI
        exact kz _ rfl (ed_i (ev_addN (ev_var rfl) (ev_var rfl)))
      · subst hds
        have E3 := E2.trans e3
        have nk1 : ((V.steps.map fun q => (q.1, q.2.map fun p => (p.1 + W.many, p.2 + W.many))).map (·.1)).Nodup := by rw [List.map_map]; exact oV.wf.nds
        have nk2 : ((V.marks.map fun q => (q.1, q.2.map fun y => y + W.many)).map (·.1)).Nodup := by rw [List.map_map]; exact oV.wf.ndm
        refine s_retD (K := K) (P := fun d => ∃ B, d = dWeb B ∧ IsBoth W V B ∧ WebOk (m + n) B) (fun H4 e4 Q4 q4 => ?_) fun v9 d9 H9 e9 t9 p9 => ?_
        · refine ev_addN (j := V.many) (ev_var rfl) (ev_int (ed_ix (i := 0) (ed_var rfl (tu.ex E3)) ev_c rfl)) H4 e4 _ fun H5 e5 => ?_
          have E5 := E3.trans (e4.trans e5)
          refine ed_ix (K := K) (i := 1) (d := dSteps W.steps) (ed_var (v := v) rfl (tv.ex E5)) ev_c rfl H5 (Ex.refl _) _ fun v6 H6 d6 e6 t6 p6 => ?_
          subst p6
          refine ⟨_, rfl, Nat × Nat, dPair, W.steps, V.steps.map fun q => (q.1, q.2.map fun p => (p.1 + W.many, p.2 + W.many)), v6, a, xs, rfl, t6, (e3.trans (e4.trans (e5.trans e6))) _ _ ha, by rw [List.map_map]; exact txs.ex (e3.trans (e4.trans (e5.trans e6))), oW.wf.nds, nk1, by have := oW.hl; omega, by have := oV.hl; simp; omega, fun e he => by have := oW.pl e he; omega, fun e he => ?_, fun x y => ?_, fun x => ?_, fun v7 H7 es e7 t7 ns gs ks => ?_⟩
          · obtain ⟨q, hq, rfl⟩ := List.mem_map.mp he
            have := oV.pl q hq
            simp
            omega
          · simp [dPair, PySem.W.alike, PySem.W.alikeAll]
          · simp [dPair, PyData.depth, PyData.depthAll]
          · have E7 := E5.trans (e6.trans e7)
            refine ed_ix (K := K) (i := 2) (d := dMarks W.marks) (ed_var (v := v) rfl (tv.ex E7)) ev_c rfl H7 (Ex.refl _) _ fun v8 H8 d8 e8 t8 p8 => ?_
            subst p8
            have eM : dMarks W.marks = .tuple (W.marks.map (rowD ecN)) := by
              unfold dMarks
              congr 1
              apply List.map_congr_left
              intro p _
              exact dMark_row p
            rw [eM] at t8
            refine ⟨_, rfl, Nat, ecN, W.marks, V.marks.map fun q => (q.1, q.2.map fun y => y + W.many), v8, b, ys, rfl, t8, (e4.trans (e5.trans (e6.trans (e7.trans e8)))) _ _ hb, by rw [List.map_map]; exact tys.ex (e4.trans (e5.trans (e6.trans (e7.trans e8)))), oW.wf.ndm, nk2, by have := oW.ml; omega, by have := oV.ml; simp; omega, fun e he => by have := oW.yl e he; omega, fun e he => ?_, fun x y => ?_, fun x => ?_, fun v9 H9 fs e9 t9 nfs gf kf => ?_⟩
            · obtain ⟨q, hq, rfl⟩ := List.mem_map.mp he
              have := oV.yl q hq
              simp
              omega
            · simp [ecN, PySem.W.alike]
            · simp [ecN, PyData.depth]
            · have ib : IsBoth W V ⟨W.many + V.many, es, fs⟩ := ⟨rfl, ns, nfs, fun h => by
                rw [gs h, getL_rows (fun l : List (Nat × Nat) => l.map fun p => (p.1 + W.many, p.2 + W.many)) rfl], fun z => by
                rw [gf z, getL_rows (fun l : List Nat => l.map fun y => y + W.many) rfl]⟩
              have okB : WebOk (m + n) ⟨W.many + V.many, es, fs⟩ := both_ok oW oV hl ib (fun h hh => (ks h hh).imp id fun q => by rw [List.map_map] at q; exact q) fun z hz => (kf z hz).imp id fun q => by rw [List.map_map] at q; exact q
              refine ⟨sz_of (by simp), fun t nt => q4 (.ref t) _ (dWeb ⟨W.many + V.many, es, fs⟩) (e5.trans (e6.trans (e7.trans (e8.trans (e9.trans (Ex.new nt)))))) (.tup (st_of upd_same) (.cons (.int _) (.cons (t7.ex (e8.trans (e9.trans (Ex.new nt)))) (.cons ?_ .nil)))) ⟨_, rfl, ib, okB⟩⟩
              have eF : dMarks fs = .tuple (fs.map (rowD ecN)) := by
                unfold dMarks
                congr 1
                apply List.map_congr_left
                intro p _
                exact dMark_row p
              rw [eF]
              exact t9.ex (Ex.new nt)
        · obtain ⟨B', rfl, ib, okB⟩ := p9
          exact k v9 H9 B' (E3.trans e9) t9 ib okB
end
end K33
set_option autoImplicit false
set_option Elab.async false
set_option linter.all false
set_option maxRecDepth 100000
set_option maxHeartbeats 4000000
namespace K33
open PySem PySem.Spec PyProof.Rows L2 Evl
section
variable {K : PySem.W.Frag} {σ : L2.St} {H H' : Hp} {ta tb te : TE} {u : TT}
theorem cb_one {r : List L2.V → Hp → VK → Prop} {Q : VK} (h : te σ H fun v H1 => r [v] H1 Q) : tCB r (tCons te tNil) σ H Q := h
/-- a range's numbers -/
theorem wk_rngT {n : Nat} : Wk K (Itr 0 n) (fun _ => True) ((List.range n).map fun (i : Nat) => PyData.int (i : Int)) :=
  ⟨fun i H' _ l => (wk_rng (K := K) (H := H')).go i H' (Kt.refl _) l, fun H' _ => (wk_rng (K := K) (H := H')).stop H' (Kt.refl _), fun i H' x H'' d _ a b => (wk_rng (K := K) (H := H')).yld i H' x H'' d (Kt.refl _) a b⟩
/-- [e for x in range(n) for y in range(m) if ..]: a new list, whatever stands in it -/
theorem lc2_any (K : PySem.W.Frag) {vs vs1 : List Nat} {j k n m : Nat} {wi1 : TI} (hw : wi1 = iRng1 (tCons tb tNil)) (hn : n ≤ 50) (hm : m ≤ 50) (h1 : Ev ta σ H (.int (n : Int)))
    (w1 : ∀ x, wipe ((wipe σ vs).set j (some x)) vs = wipe σ vs) (w2 : ∀ x y, wipe ((wipe ((wipe σ vs).set j (some x)) vs1).set k (some y)) vs1 = wipe ((wipe σ vs).set j (some x)) vs1)
    (h2 : ∀ (a : Nat), a < n → ∀ H1, Ex H H1 → Ev tb ((wipe σ vs).set j (some (.int (a : Int)))) H1 (.int (m : Int)))
    (h3 : ∀ (a b : Nat), a < n → b < m → ∀ H1, Ex H H1 → ∃ c, EvT u ((wipe ((wipe σ vs).set j (some (.int (a : Int)))) vs1).set k (some (.int (b : Int)))) H1 c ∧ ∀ H2, Ex H1 H2 → ∀ Q : VK, (∀ v H3, Ex H2 H3 → Q v H3) → te ((wipe ((wipe σ vs).set j (some (.int (a : Int)))) vs1).set k (some (.int (b : Int)))) H2 Q)
    {Q : VK} (hq : ∀ D H' acc, H D = none → Ex H H' → H' D = some (.lst acc) → Q (.ref D) H') : tLc2 (iRng1 (tCons ta tNil)) (gName j) tYes wi1 (gName k) u te vs vs1 σ H Q :=
  h1 H (Ex.refl _) _ fun H1 e1 => ⟨(n : Int), rfl, by omega, by omega, fun D hD => by
    have D0 := fresh_back e1 hD
    refine ⟨fun i μ H' => μ = n - i ∧ i ≤ n ∧ Ex H H' ∧ ∃ acc, H' D = some (.lst acc) ∧ acc.length ≤ 50 * i, ⟨n, rfl, Nat.zero_le _, e1.trans (Ex.new hD), [], upd_same, by simp⟩, ?_⟩
    rintro i μ H2 ⟨rfl, hi, e2, acc, ha, hl⟩
    by_cases hlt : i < n
    · refine .inr ⟨(wk_rngT (K := K) (n := n)).go i H2 True.intro (by simpa using hlt), fun H' => i + 1 ≤ n ∧ Ex H H' ∧ ∃ acc, H' D = some (.lst acc) ∧ acc.length ≤ 50 * (i + 1), fun H' p => ⟨n - (i + 1), by omega, rfl, p⟩, fun x H3 y => ?_⟩
      obtain ⟨e3, tx⟩ := (wk_rngT (K := K) (n := n)).yld i H2 x H3 (.int (i : Int)) True.intro (by rw [List.getElem?_map, List.getElem?_range hlt]; rfl) y
      obtain rfl := tx.intI
      have E3 := e2.trans e3
      refine ⟨w1 _, ?_⟩
      show wi1 _ _ _
      rw [hw]
      refine h2 i hlt H3 E3 H3 (Ex.refl _) _ fun H4 e4 => ⟨(m : Int), rfl, by omega, by omega, ?_⟩
      refine ⟨fun i2 μ H' => μ = m - i2 ∧ i2 ≤ m ∧ Ex H H' ∧ ∃ acc, H' D = some (.lst acc) ∧ acc.length ≤ 50 * i + i2, ⟨m, rfl, Nat.zero_le _, E3.trans e4, acc, e4 _ _ (e3 _ _ ha), by omega⟩, ?_⟩
      rintro i2 μ H5 ⟨rfl, hi2, e5, acc2, ha2, hl2⟩
      by_cases hlt2 : i2 < m
      · refine .inr ⟨(wk_rngT (K := K) (n := m)).go i2 H5 True.intro (by simpa using hlt2), fun H' => i2 + 1 ≤ m ∧ Ex H H' ∧ ∃ acc, H' D = some (.lst acc) ∧ acc.length ≤ 50 * i + (i2 + 1), fun H' p => ⟨m - (i2 + 1), by omega, rfl, p⟩, fun x H6 y => ?_⟩
        obtain ⟨e6, tx⟩ := (wk_rngT (K := K) (n := m)).yld i2 H5 x H6 (.int (i2 : Int)) True.intro (by rw [List.getElem?_map, List.getElem?_range hlt2]; rfl) y
        obtain rfl := tx.intI
        have E6 := e5.trans e6
        obtain ⟨c, hc, he⟩ := h3 i i2 hlt hlt2 H6 E6
        refine ⟨w2 _ _, hc H6 (Ex.refl _) _ fun H7 e7 => ?_⟩
        cases c with
        | true =>
          rw [if_pos rfl]
          refine he H7 e7 _ fun v H8 e8 => ⟨acc2, e8 _ _ (e7 _ _ (e6 _ _ ha2)), sz_lt (by omega), hlt2, Ex.mut (E6.trans (e7.trans e8)) D0, _, upd_same, by simp; omega⟩
        | false =>
          rw [if_neg Bool.false_ne_true]
          exact ⟨hlt2, E6.trans e7, acc2, e7 _ _ (e6 _ _ ha2), by omega⟩
      · have : i2 = m := by omega
        subst this
        exact .inl ⟨by have := (wk_rngT (K := K) (n := i2)).stop H5 True.intro; simpa using this, hlt, e5, acc2, ha2, by omega⟩
    · have : i = n := by omega
      subst this
      exact .inl ⟨by have := (wk_rngT (K := K) (n := i)).stop H2 True.intro; simpa using this, hq D H2 acc D0 e2 ha⟩⟩
end
/-- the worlds' sayings alike -/
def Alike (W V : Web Str) (x y : Nat) : Prop := ∀ s, Holds W s x = Holds V s y
theorem alike_iff {W V B : Web Str} {rs : List (List Nat)} (wW : Wf W) (wV : Wf V) (b : IsBoth W V B) (R : Rounds B rs) {x y : Nat} (hx : x < W.many) (hy : y < V.many) :
    (rs.getD (rs.length - 1) []).getD x 0 = (rs.getD (rs.length - 1) []).getD (W.many + y) 0 ↔ Alike W V x y := by
  have wB := b.wf wW wV
  rw [R.iff wB (x := x) (y := W.many + y) (by rw [b.many]; omega) (by rw [b.many]; omega)]
  exact ⟨fun h s => by rw [b.left wW s hx, b.right wW wV s hy]; exact h s, fun h s => by rw [← b.left wW s hx, ← b.right wW wV s hy]; exact h s⟩
theorem getD_last {rs : List (List Nat)} (h : 0 < rs.length) : rs[rs.length - 1]? = some (rs.getD (rs.length - 1) []) := by
  rw [List.getD_eq_getElem?_getD, List.getElem?_eq_getElem (by omega)]
  rfl
section
variable {K : PySem.W.Frag} {σ : L2.St} {H H' : Hp} {ta tb te : TE}
/-- rounds[-1] -/
theorem ed_lastT {rs : List (List Nat)} (h : ED K ta σ H (· = .tuple (rs.map dNats))) (hp : 0 < rs.length) : ED K (tOp (rIxT K) ta (tUn (rU fun i => V.int (-i)) (tC (.int 1)))) σ H (· = dNats (rs.getD (rs.length - 1) [])) := fun H1 a Q q =>
  h H1 a _ fun v H2 d e t p => by
    subst p
    obtain ⟨p, xs, rfl, hs, ts⟩ := t.tupI
    have hl := ts.len
    rw [List.length_map] at hl
    obtain ⟨w, hw, tw⟩ := ts.get (i := rs.length - 1) (d := dNats (rs.getD (rs.length - 1) [])) (by rw [List.getElem?_map, getD_last hp]; rfl)
    have hne : xs ≠ [] := by rintro rfl; simp at hl; omega
    have hx : xs = xs.dropLast ++ [w] := by
      conv => lhs; rw [← List.dropLast_concat_getLast hne]
      rw [List.getLast_eq_getElem]
      have h3 := (List.getElem?_eq_some_iff.mp hw).2
      simp only [hl, h3]
    refine ⟨1, rfl, p, xs, -1, w, rfl, rfl, hs, ?_, q w H2 _ e tw rfl⟩
    rw [hx]
    exact atI_last _ _
/-- .. a new thing, told with its rounds -/
theorem ed_lastTP {R : List (List Nat) → Prop} {H1 : Hp} {Q : VK} (h : ∀ H2, Ex H1 H2 → ∀ Q : VK, (∀ v H3 rs, Ex H2 H3 → TD K H3 v (.tuple (rs.map dNats)) → 0 < rs.length → R rs → Q v H3) → ta σ H2 Q) (H2 : Hp) (e : Ex H1 H2) (q : ∀ v H3 d, Ex H2 H3 → TD K H3 v d → (∃ rs, d = dNats (rs.getD (rs.length - 1) []) ∧ R rs) → Q v H3) :
    tOp (rIxT K) ta (tUn (rU fun i => V.int (-i)) (tC (.int 1))) σ H2 Q := h H2 e _ fun v H3 rs e3 t3 hp r => ed_lastT (σ := [some v]) (ta := tVar 0) (ed_var rfl t3) hp H3 (Ex.refl _) Q (fun v4 H4 d e4 t4 p4 => q v4 H4 d (e3.trans e4) t4 ⟨rs, p4, r⟩) |> fun z => by
      obtain ⟨v', hv, z⟩ := z
      cases hv
      exact z
/-- classes[i] -/
theorem ev_cls {c : List Nat} {i : Nat} (h : ED K ta σ H (· = dNats c)) (hi : Ev tb σ H (.int (i : Int))) (hl : i < c.length) : Ev (tOp (rIxT K) ta tb) σ H (.int (c.getD i 0 : Nat)) := ev_int (ed_ix h hi (getD_at hl))
theorem ev_neN {a b : Nat} (h1 : Ev ta σ H (.int (a : Int))) (h2 : Ev tb σ H (.int (b : Int))) : Ev (tOp rNe ta tb) σ H (.bl (!decide (a = b))) := by
  refine ev_is (ev_op h1 h2 (rv_ne (x := .int a) (y := .int b) rfl)) ?_
  congr 2
  by_cases e : a = b
  · rw [e]; simp
  · rw [decide_eq_false e, decide_eq_false fun q => e (by have := V.int.inj q; omega)]
theorem ev_eqN {a b : Nat} (h1 : Ev ta σ H (.int (a : Int))) (h2 : Ev tb σ H (.int (b : Int))) : Ev (tOp rEq ta tb) σ H (.bl (decide (a = b))) := ev_eqI h1 h2 (by
  by_cases e : a = b
  · rw [e]; simp
  · rw [decide_eq_false e, decide_eq_false (by omega)])
theorem ev_many0 {W : Web Str} (h : ED K ta σ H (· = dWeb W)) : Ev (tOp (rIxT K) ta (tC (.int 0))) σ H (.int (W.many : Int)) := ev_int (ed_ix (i := 0) h ev_c rfl)
end
section
variable {P : Program} {w : World} {K : PySem.W.Frag} {mg : Str → Option Value} {base : Heap} {C : Addr}
abbrev sp_needB (K : PySem.W.Frag) : Sp := fun vs H Q _ => ∃ (W V : Web Str) (v u : L2.V) (x y : Nat), vs = [v, .int (x : Int), u, .int (y : Int)] ∧ TD K H v (dWeb W) ∧ TD K H u (dWeb V) ∧ x < W.many ∧ y < V.many ∧ ∀ H', Ex H H' → Q .non H'
theorem has_needB (D : DefAt K mg "need_both" st_need_both ["web", "world", "other", "second"]) (GN : Has P w K mg base CX0 1 "need_world" ["web", "world"] (sp_need K)) : Has P w K mg base CX0 2 "need_both" ["web", "world", "other", "second"] (sp_needB K) := by
  refine D.ok sc_need_both (fun vs H Q E h => ?_) (fun f cdv A outer s H vs Q E hr h => ?_)
  · obtain ⟨W, V, v, u, x, y, rfl, _⟩ := h
    rfl
  · obtain ⟨W, V, v, u, x, y, rfl, tv, tu, hx, hy, k⟩ := h
    refine ⟨_, pss_cons (ps_expr (pe_has GN hr (by rfl) pass0 (pa_cons (pv 0) (pa_cons (pv 1) pa_nil)))) (pss_one (ps_expr (pe_has GN hr (by rfl) pass0 (pa_cons (pv 2) (pa_cons (pv 3) pa_nil))))), ?_⟩
    exact ⟨_, rfl, _, rfl, W, v, x, rfl, tv, hx, fun H1 e1 => ⟨_, rfl, _, rfl, V, u, y, rfl, tu.ex e1, hy, fun H2 e2 => k H2 (e1.trans e2)⟩⟩
/-- what both ask for -/
structure TwoAt (K : PySem.W.Frag) (H : Hp) (v u : L2.V) (m n : Nat) (W V : Web Str) (x y : Nat) : Prop where
  tv : TD K H v (dWeb W)
  tu : TD K H u (dWeb V)
  oW : WebOk m W
  oV : WebOk n V
  le : m + n ≤ 7
  hx : x < W.many
  hy : y < V.many
theorem TwoAt.ex {H H' : Hp} {v u : L2.V} {m n : Nat} {W V : Web Str} {x y : Nat} (e : Ex H H') (t : TwoAt K H v u m n W V x y) : TwoAt K H' v u m n W V x y := ⟨t.tv.ex e, t.tu.ex e, t.oW, t.oV, t.le, t.hx, t.hy⟩
abbrev sp_paper (K : PySem.W.Frag) : Sp := fun vs H Q _ => ∃ (m n : Nat) (W V : Web Str) (v u : L2.V) (x y : Nat), vs = [v, .int (x : Int), u, .int (y : Int)] ∧ TwoAt K H v u m n W V x y ∧
  (∀ H', Ex H H' → ¬ Alike W V x y → Q .non H') ∧ ∀ l H', Ex H H' → Alike W V x y → Q (.ref l) H'
theorem has_paper (D : DefAt K mg "pair_paper" st_pair_paper ["web", "world", "other", "second"]) (B : Blt mg) (GN : Has P w K mg base CX0 2 "need_both" ["web", "world", "other", "second"] (sp_needB K)) (GB : Has P w K mg base CX0 2 "both_webs" ["web", "other"] (sp_both K)) (GR : Has P w K mg base CX0 5 "class_rounds" ["web"] (sp_rounds K)) :
    Has P w K mg base CX0 6 "pair_paper" ["web", "world", "other", "second"] (sp_paper K) := by
  refine D.ok sc_pair_paper (fun vs H Q E h => ?_) (fun f cdv A outer s H vs Q E hr h => ?_)
  · obtain ⟨m, n, W, V, v, u, x, y, rfl, _⟩ := h
    rfl
  · obtain ⟨m, n, W, V, v, u, x, y, rfl, t, k1, k2⟩ := h
    have nd := sc_pair_paper.nd
    refine ⟨_, pss_cons (ps_expr (pe_has GN (hr.mono (by omega)) (by rfl) pass0 (pa_cons (pv 0) (pa_cons (pv 1) (pa_cons (pv 2) (pa_cons (pv 3) pa_nil))))))
      (pss_cons (ps_set (i := 4) nd rfl (.inr rfl) (pe_ix (k_ixT K) (pe_has GR hr (by rfl) pass0 (pa_cons (pe_has GB (hr.mono (by omega)) (by rfl) pass0 (pa_cons (pv 0) (pa_cons (pv 2) pa_nil))) pa_nil)) (pe_un un_neg pe_int) (fun _ _ => rfl)))
      (pss_cons (ps_if (pt_cmpR op_ne (pe_ix (k_ixT K) (pv 4) (pv 1) (fun _ _ => rfl)) (pe_ix (k_ixT K) (pv 4) (pe_op op_add (pe_ix (k_ixT K) (pv 0) pe_int (fun _ _ => rfl)) (pv 3)) (fun _ _ => rfl)) (nomark _)) (pss_one (ps_ret pe_non)) pss_nil)
      (pss_cons (ps_set (i := 5) nd rfl (.inr rfl) (pe_ix (k_ixT K) (pv 0) pe_int (fun _ _ => rfl)))
      (pss_one (ps_ret (pe_callTy (k_tuple K) (by rfl) B.b_tuple (by decide +kernel) (pa_cons (pe_lc2 (own := [("x", 6), ("y", 7)]) (vs1 := [7]) (g := gName 6) (g1 := gName 7) rfl nd (pi_range1 (by rfl) B.b_range (pa_cons (pv 5) pa_nil)) (blk (N := ["web", "world", "other", "second", "classes", "by", "x", "y"]) (sc := defScope st_pair_paper) (by decide +kernel)) (by decide)
        (fun _ _ _ _ _ => pg_name (i := 6) nd rfl (.inl rfl)) (fun _ _ _ _ _ => pts_nil)
        (fun _ _ _ _ _ => pi_range1 (by rfl) B.b_range (pa_cons (pe_ix (k_ixT K) (pv 2) pe_int (fun _ _ => rfl)) pa_nil)) (fun _ _ _ _ _ => pg_name (i := 7) nd rfl (.inl rfl))
        (fun _ _ _ _ _ => pts_one (pt_cmpR op_eq (pe_ix (k_ixT K) (pv 4) (pv 6) (fun _ _ => rfl)) (pe_ix (k_ixT K) (pv 4) (pe_op op_add (pv 5) (pv 7)) (fun _ _ => rfl)) (nomark _)))
        (fun _ _ _ _ _ => pe_tup (pa_cons (pv 6) (pa_cons (pv 7) pa_nil)))) pa_nil))))))), ?_⟩
    refine ⟨_, rfl, _, rfl, _, rfl, _, rfl, W, V, v, u, x, y, rfl, t.tv, t.tu, t.hx, t.hy, fun H1 e1 => ?_⟩
    have t1 := t.ex e1
    have mz : W.many ≤ 7 := Nat.le_trans t.oW.many t.oW.lim
    have nz : V.many ≤ 7 := Nat.le_trans t.oV.many t.oV.lim
    dsimp only
    refine q_asgD (K := K) (P := fun d => ∃ B rs, d = dNats (rs.getD (rs.length - 1) []) ∧ IsBoth W V B ∧ Rounds B rs) (fun H2 e2 Q2 q2 => ?_) fun vc dc H3 e3 t3 p3 => ?_
    · refine ed_lastTP (R := fun rs => ∃ B, IsBoth W V B ∧ Rounds B rs) (fun H3 e3 Q3 q3 => ?_) H2 (Ex.refl _) fun v3 H3 d3 e3 t3 p3 => q2 v3 H3 d3 e3 t3 (by obtain ⟨rs, h1, B', h2, h3⟩ := p3; exact ⟨B', rs, h1, h2, h3⟩)
      refine ⟨_, rfl, _, rfl, m, n, W, V, v, u, rfl, t1.tv.ex (e2.trans e3), t1.tu.ex (e2.trans e3), t.oW, t.oV, t.le, fun v4 H4 B' e4 t4 ib okB => ?_⟩
      exact ⟨m + n, B', .cons t4 .nil, okB, by rw [ib.many]; have := t.hx; omega, fun v5 H5 rs e5 t5 R5 b5 => q3 v5 H5 rs (e4.trans e5) t5 R5.pos ⟨B', ib, R5⟩⟩
    · obtain ⟨B', rs, rfl, ib, R⟩ := p3
      have cl : (rs.getD (rs.length - 1) []).length = W.many + V.many := by rw [(R.row (i := rs.length - 1) (by have := R.pos; omega)).1, ib.many]
      have iff := alike_iff t.oW.wf t.oV.wf ib R t.hx t.hy
      generalize rs.getD (rs.length - 1) [] = c at *
      have t3' := t1.ex e3
      have hx := t.hx
      have hy := t.hy
      have E3 := e1.trans e3
      refine q_when (b := !decide (c.getD x 0 = c.getD (W.many + y) 0)) (et_test (ev_neN (ev_cls (ed_var rfl t3) (ev_var rfl) (by omega)) (ev_cls (ed_var rfl t3) (ev_addN (ev_many0 (ed_var (v := v) rfl t3'.tv)) (ev_var rfl)) (by omega)))) (fun hb H4 e4 => ?_) fun hb H4 e4 => ?_
      · exact k1 H4 (E3.trans e4) fun al => by
          have := iff.mpr al
          simp at hb
          exact hb this
      · have al : Alike W V x y := iff.mp (by simpa using hb)
        refine q_asg (v := .int (W.many : Int)) (ev_many0 (ed_var (v := v) rfl (t3'.tv.ex e4))) fun H5 e5 => ?_
        refine r_raw ?_
        refine cb_one ?_
        refine lc2_any K rfl (n := W.many) (m := V.many) (by omega) (by omega) ?_ (fun x0 => ?_) (fun x0 y0 => ?_) (fun a ha H6 e6 => ?_) (fun a b ha hb H6 e6 => ?_) fun D H6 acc hD e6 hl => ?_
        · exact ev_var rfl
        · rfl
        · rfl
        · exact ev_many0 (ed_var (v := u) rfl (t3'.tu.ex (e4.trans (e5.trans e6))))
        · refine ⟨_, et_test (ev_eqN (ev_cls (i := a) (ed_var rfl (t3.ex (e4.trans (e5.trans e6)))) (ev_var rfl) (by omega)) (ev_cls (i := W.many + b) (ed_var rfl (t3.ex (e4.trans (e5.trans e6)))) (ev_addN (ev_var rfl) (ev_var rfl)) (by omega))), fun H7 e7 Q7 q7 => ?_⟩
          exact ⟨_, rfl, _, rfl, sz_of (by simp), fun p np => q7 _ _ (Ex.new np)⟩
        · exact ⟨D, acc, rfl, .inl ⟨sq_of hl, fun l nl => k2 l _ (E3.trans (e4.trans (e5.trans (e6.trans (Ex.new nl))))) al⟩⟩
end
end K33
set_option autoImplicit false
set_option Elab.async false
set_option linter.all false
set_option maxRecDepth 100000
set_option maxHeartbeats 4000000
/-! enumerate(a tuple). -/
namespace K33
open PySem PySem.Spec PyProof.Rows L2 Evl
/-- enumerate of one thing that begins its walk with the object o -/
theorem enum_new1 {v : Value} {o : Obj} {G : Heap → Prop} (B : Begins v o G) :
    Meets (Builtin.«enumerate.__new__» ⟨[.type "enumerate", v], []⟩) (fun _ R s => G s.heap ∧
      R (.ok (.ret (.ref (s.heap.push o).objs.size))) { s with heap := (s.heap.push o).push { cls := .type "enumerate", data := .fields #[.none, .bool false, .ref s.heap.objs.size, rawInt 0, .none, .none] } }) := by
  apply Meets.of_wp
  rintro P w A R ⟨hp, gs, dr, tk, os⟩ ⟨here, out⟩
  have sub := sub_enumerate
  have begin_ {A' : Around} {E : Value → Shared → Prop} {Q : Value → Shared → Prop} (q : Q (.ref hp.objs.size) ⟨hp.push o, gs, dr, tk, os⟩) : wpAny (model P w) A' (pyIter v) Q E ⟨hp, gs, dr, tk, os⟩ :=
    B.iter P w A' E _ Q here q
  wp_walk using begin_
  apply wpAny_stack_any
  intro st
  apply wpAny_pure
  split <;> try (rename_i c _ _ _ _ _; cases (c == Value.type "enumerate"))
  all_goals
    wp_walk using begin_
    exact ⟨_, rfl, out⟩
theorem enum_tup {prog : Program} {w : World} {A : Around} {E : Value → Shared → Prop} {s : Shared} {t : Addr} {items : Array Value} {Q : Value → Shared → Prop} (ht : s.heap.IsTuple t items)
    (h : ∀ h', IsEnum h' (s.heap.objs.size + 1) s.heap.objs.size 0 .none → h'.IsTupleIter s.heap.objs.size t 0 → (∀ b o, s.heap.get? b = some o → h'.get? b = some o) → Q (.ref (s.heap.objs.size + 1)) { s with heap := h' }) :
    wpAny (model prog w) A (call (.type "enumerate") [.ref t]) Q E s := by
  let o₁ : Obj := { cls := .type "tuple_iterator", data := .fields #[.ref t, .int 0 0] }
  let o₂ : Obj := { cls := .type "enumerate", data := .fields #[.none, .bool false, .ref s.heap.objs.size, rawInt 0, .none, .none] }
  have at₂ : IsEnum ((s.heap.push o₁).push o₂) (s.heap.objs.size + 1) s.heap.objs.size 0 .none := by
    rw [← Heap.size_push s.heap o₁]
    exact Heap.get?_push_size (s.heap.push o₁) (o := o₂) rfl
  have at₁ : ((s.heap.push o₁).push o₂).get? s.heap.objs.size = some o₁ := Heap.get?_push_of_some _ (Heap.get?_push_size s.heap (o := o₁) rfl)
  have out := h _ at₂ ⟨o₁, at₁, rfl, rfl⟩ fun b o x => Heap.get?_push_of_some _ (Heap.get?_push_of_some _ x)
  apply callType_new F.called_enumerate (by decide) (F.typeCall_enumerate_1 _) (F.newCall_enumerate_1 _) (fun obj => F.args_object_init_2 obj _) F.entry_enumerate_new (enum_new1 (begins_tuple t items))
  refine ⟨ht, ?_⟩
  show _ ∧ _
  rw [Heap.size_push]
  exact ⟨⟨_, at₂, rfl⟩, out⟩
/-- a walk of the heap that hands out tuples, one new tuple a turn, read as turns: `go` and `stop` tell which walk it is, once the state is known -/
theorem turn_pairs {P : Program} {w : World} {K : PySem.W.Frag} {elts : List Expr} {kk : Nat} {tpos : Pos} {J : It} {fp : List Addr} {e : Addr} {tn : Nat → Heap → Prop} (mem : e ∈ fp)
    (obj : ∀ i h, tn i h → ∀ b ∈ fp, ∃ o, h.get? b = some o ∧ ∀ v, o.data ≠ .cell v) (keep : ∀ i h h', tn i h → (∀ b ∈ fp, ∀ o, h.get? b = some o → h'.get? b = some o) → tn i h')
    (self : ∀ (A : Around) (i : Nat) (s : Shared) (Q : Value → Shared → Prop) (E : Value → Shared → Prop), tn i s.heap → Q (.ref e) s → wpAny (model P w) A (pyIter (.ref e)) Q E s)
    (go : ∀ (X : Cx), X.prog = P → X.w = w → X.K = K → X.calm = true → ∀ (i : Nat) (pins : List (Addr × Obj)) (s : Shared) (σ : L2.St) (H : Hp), Inv X pins σ H s → tn i s.heap → J.go i H →
      ∃ n fq Pt St Mid, WalksT P w X.A e fq fp n Pt St Mid ∧ i < n ∧ St i s.heap ∧ (∀ h, St (i + 1) h → tn (i + 1) h) ∧ ∀ vals T, Pt i vals → H T = none → ∃ xs, Vals xs vals.toList ∧ xs.length ≤ sizeLine ∧ J.yld i H (.ref T) (upd H T (.tup xs)))
    (stop : ∀ (X : Cx), X.prog = P → X.w = w → X.K = K → X.calm = true → ∀ (i : Nat) (pins : List (Addr × Obj)) (s : Shared) (σ : L2.St) (H : Hp), Inv X pins σ H s → tn i s.heap → J.stop i H →
      ∃ fq Pt St Mid, WalksT P w X.A e fq fp i Pt St Mid ∧ St i s.heap) : Turn P w K (.Tuple elts kk tpos) J fp e tn where
  mem := mem
  obj := obj
  keep := keep
  self := self
  item X hP hw hK hc i pins s σ H E I hf st hg := by
    obtain ⟨n, fq, Pt, St, Mid, W, hi, here, onn, tells⟩ := go X hP hw hK hc i pins s σ H I st hg
    refine W.item i s _ E hi here fun T vals h₁ tk pt new tup mid k₁ => ⟨.ref T, rfl, ?_⟩
    refine W.go elts kk tpos i T { s with heap := h₁, toks := tk } _ E mid fun h₂ nxt k₂ => ?_
    have out : T ∉ fp := W.apart i T h₁ mid
    have free : H T = none := I.hok.fresh new
    obtain ⟨xs, vs, len, y⟩ := tells vals T pt free
    have laid : ObjOk X.prog X.w (upd H T (.tup xs)) h₂ T (.tup xs) := ⟨len, vals.toList, vs, tup.at fun o q => k₂ T o out q⟩
    refine ⟨.ref T, upd H T (.tup xs), I.turnedNew (t' := tk) (fun b o off q => k₂ b o off (k₁ b o off q)) hf new laid, rfl, y, onn h₂ nxt, fun b hb => ?_⟩
    have apart : b ≠ T := fun z => out (z ▸ hb)
    rw [upd_ne apart]
    exact (hf b hb).1
  done X hP hw hK hc i pins s σ H E I hf st hg := by
    obtain ⟨fq, Pt, St, Mid, W, here⟩ := stop X hP hw hK hc i pins s σ H I st hg
    exact W.done s _ E here fun h₁ tk k₁ => ⟨rfl, I.turnedL k₁ hf⟩
/-- the tuple at a, each item in a new pair -/
def Itet (K : PySem.W.Frag) (a : Addr) : It :=
  ⟨fun i H => ∃ (xs : List V) (x : V), SqT K H a xs ∧ xs[i]? = some x, fun i H v H' => ∃ T x, v = .ref T ∧ H T = none ∧ H' = upd H T (.tup [.int (i : Nat), x]) ∧ ∀ xs, SqT K H a xs → xs[i]? = some x, fun i H => ∃ xs : List V, SqT K H a xs ∧ xs.length = i⟩
theorem turn_enumT {P : Program} {w : World} {K : PySem.W.Frag} {elts : List Expr} {kk : Nat} {tpos : Pos} (a e it : Addr) :
    Turn P w K (.Tuple elts kk tpos) (Itet K a) [e, it] e (fun i h => (∃ old, IsEnum h e it ((i : Nat) : Int) old) ∧ h.IsTupleIter it a i ∧ e ≠ it ∧ a ≠ it ∧ a ≠ e) := by
  have walk {A : Around} (hh : A.handled = none) (its : Array Value) (n1 : e ≠ it) (n2 : a ≠ it) (n3 : a ≠ e) :=
    WalksT.enumerateD (prog := P) (w := w) (A := A) (Draws.tuple (A := A.in1) hh it a n2 its) e n1 (by simp [n1, Ne.symm n3]) (by simp)
  refine turn_pairs (by simp) ?_ ?_ ?_ ?_ ?_
  · rintro i h ⟨⟨old, q1⟩, ⟨o, q2, _, q3⟩, _⟩ b hb
    simp only [List.mem_cons, List.not_mem_nil, or_false] at hb
    rcases hb with z | z <;> subst z
    · exact ⟨_, q1, fun _ z => nomatch z⟩
    · exact ⟨o, q2, fun _ z => by rw [q3] at z; cases z⟩
  · rintro i h h' ⟨⟨old, q1⟩, q2, n⟩ k
    exact ⟨⟨old, k e (by simp) _ q1⟩, q2.at (k it (by simp)), n⟩
  · rintro A i s Q E ⟨⟨old, q1⟩, _⟩ q
    exact wpAny_pyIter_enum q1 q
  · rintro X rfl rfl rfl hc i pins s σ H I ⟨q1, q2, n1, n2, n3⟩ ⟨xs, x, hq, hx⟩
    obtain ⟨its, vs, tup, _⟩ := I.tuple hq
    obtain ⟨u, hu, ru⟩ := vs.get hx
    refine ⟨_, _, _, _, _, walk (I.ok.hd hc) its.toArray n1 n2 n3, ?_, ⟨q1, q2, tup⟩, fun h z => ⟨z.1, z.2.1, n1, n2, n3⟩, ?_⟩
    · simpa using (List.getElem?_eq_some_iff.mp hu).1
    · rintro _ T ⟨tk, y, hy, rfl⟩ free
      have same : y = u := by
        have hy : its.toArray[i]? = some y := hy
        simpa [hu] using hy.symm
      subst same
      exact ⟨[.int (i : Nat), x], .cons ⟨tk, rfl⟩ (.cons ru .nil), by simp [sizeLine_eq], T, x, rfl, free, rfl, fun ys z => by rw [I.tuple_inj z hq]; exact hx⟩
  · rintro X rfl rfl rfl hc i pins s σ H I ⟨q1, q2, n1, n2, n3⟩ ⟨xs, hq, len⟩
    obtain ⟨its, vs, tup, _⟩ := I.tuple hq
    have size : its.toArray.size = i := by simp [← len, vs.length]
    exact ⟨_, _, _, _, size ▸ walk (I.ok.hd hc) its.toArray n1 n2 n3, q1, q2, tup⟩
def iEnumT (K : PySem.W.Frag) (ta : TA) : TI := fun σ H R => ta σ H fun vs H1 => ∃ a xs, vs = [.ref a] ∧ SqT K H1 a xs ∧ R (Itet K a) H1
theorem pi_enumT {X : Cx} {e : Expr} {ta : TA} {p pos tpos : Pos} {elts : List Expr} {kk : Nat} (hg : Gl X "enumerate") (hm : X.mg "enumerate" = none) (ha : PA X [e] ta) (hs : starEach [e] X.env = [(false, eval e X.env)] := by rfl) :
    PI X (.Tuple elts kk tpos) (.Call (.Name "enumerate" p) [e] [] pos) (iEnumT X.K ta) := by
  constructor
  intro pins s σ H R I h
  refine Call_ (ld_blt I hg hm boot_enumerate (PyProof.Rows.callWith_type1 ?_ hs rfl))
  refine thn (ha.run pos pins s σ H _ I h) ?_
  rintro _ s₁ ⟨_, H₁, J, vals, a, xs, rfl, hq, q⟩
  obtain ⟨v, rfl, rv⟩ := vals1 vals
  obtain rfl : v = Value.ref a := rv
  obtain ⟨its, _, tup, _⟩ := J.tuple hq
  have low : a < s₁.heap.objs.size := tup.elim fun _ z => Heap.lt_size z.1
  refine enum_tup tup fun h' at₂ at₁ kp => wpAny_pyIter_enum at₂ ?_
  refine ⟨_, _, _, _, H₁, rfl, J.kept (t' := s₁.toks) kp, turn_enumT a (s₁.heap.objs.size + 1) s₁.heap.objs.size, ⟨⟨.none, at₂⟩, at₁, Nat.succ_ne_self _, Nat.ne_of_lt low, Nat.ne_of_lt (Nat.lt_succ_of_lt low)⟩, fun b hb => ?_, q⟩
  have high : s₁.heap.objs.size ≤ b := by
    simp only [List.mem_cons, List.not_mem_nil, or_false] at hb
    rcases hb with z | z <;> subst z
    · exact Nat.le_succ _
    · exact Nat.le_refl _
  exact J.fpOk high (J.hok.fresh high)
theorem k_enumT (K : PySem.W.Frag) {X : Cx} {e : Expr} {ta : TA} {p pos tpos : Pos} {elts : List Expr} {kk : Nat} (hg : Gl X "enumerate") (hm : X.mg "enumerate" = none) (ha : PA X [e] ta) (hs : starEach [e] X.env = [(false, eval e X.env)] := by rfl) (h : X.K = K := by rfl) :
    PI X (.Tuple elts kk tpos) (.Call (.Name "enumerate" p) [e] [] pos) (iEnumT K ta) := h ▸ pi_enumT hg hm ha hs
section
variable {K : PySem.W.Frag} {σ : L2.St} {H : Hp} {te : TE} {ds : List PyData}
theorem wk_enumT {a : Addr} {xs : List V} (h : SqT K H a xs) (ts : TDs K H xs ds) : Wk K (Itet K a) (Kt H) (ds.zipIdx.map fun p => PyData.tuple [.int (p.2 : Int), p.1]) where
  go := fun i H1 g l => by
    have l : i < ds.length := by simpa using l
    obtain ⟨v, hv, _⟩ := ts.get (i := i) (d := ds[i]) (by simp [l])
    exact ⟨xs, v, kt_t g h, hv⟩
  stop := fun H1 g => ⟨xs, kt_t g h, by rw [ts.len]; simp⟩
  yld := fun i H1 x H2 d g e y => by
    obtain ⟨T, w, rfl, hT, rfl, y⟩ := y
    rw [List.getElem?_map] at e
    have hw := y xs (kt_t g h)
    obtain ⟨c, hc, tc⟩ := ts.got hw
    have e1 : ds.zipIdx[i]? = some (c, i) := by
      rw [List.getElem?_zipIdx, hc]
      simp
    rw [e1] at e
    cases e
    exact ⟨Ex.new hT, .tup (st_of upd_same) (.cons (.int _) (.cons ((tc.mono g).ex (Ex.new hT)) .nil))⟩
theorem src_enumT (h : ED K te σ H (· = .tuple ds)) : Src Kt K (iEnumT K (tCons te tNil)) σ H (ds.zipIdx.map fun p => PyData.tuple [.int (p.2 : Int), p.1]) := fun H1 e1 R q =>
  h H1 e1 _ fun v H2 d e t p => by
    subst p
    obtain ⟨a, xs, rfl, hs, ts⟩ := t.tupI
    exact ⟨a, xs, rfl, hs, q _ H2 e (wk_enumT hs ts)⟩
end
end K33
set_option autoImplicit false
set_option Elab.async false
set_option linter.all false
set_option maxRecDepth 100000
set_option maxHeartbeats 4000000
namespace K33
open PySem PySem.Spec PyProof.Rows L2 Evl
/-! ### sayings as data: their shape, alike ones -/
theorem wordOk_str {z : Str} (h : WordOk z) : PyData.strOk z = true := by
  unfold PyData.strOk
  rw [Array.all_eq_true']
  intro c hc
  have := h.2.2 c (by simpa using hc)
  have l : ∀ c ∈ lettersS.cps.toList, c < 0x110000 := by decide +kernel
  exact decide_eq_true (l c this)
theorem shp_str {n : Nat} {z : Str} (h : PyData.strOk z = true) : Shp n (.str z) := ⟨by simp [PyData.canLay0, h], by simp [PyData.depth]⟩
theorem shp_say {s : Say Str} : ∀ {n : Nat}, Good WordOk n s → Shp (2 * n) (dSay s) := by
  have lits : ∀ {k : Nat} {d : PyData}, d ∈ ([.str "letter", .str "not", .str "and", .str "or", .str "must", .str "may"] : List PyData) → Shp k d := fun {k d} h => by
    simp only [List.mem_cons, List.not_mem_nil, or_false] at h
    rcases h with rfl | rfl | rfl | rfl | rfl | rfl <;> exact shp_str (by decide +kernel)
  induction s using Say.ind with
  | h1 w =>
    intro n g
    cases g with
    | letter q =>
      rw [dSay_letter]
      refine (shp_tup (n := 0) fun d hd => ?_).mono (by omega)
      rcases List.mem_cons.mp hd with rfl | hd
      · exact lits (by simp)
      · rw [List.mem_singleton.mp hd]
        exact shp_str (wordOk_str q)
  | h2 s ih =>
    intro n g
    cases g with
    | @neg m _ q =>
      rw [dSay_neg]
      refine (shp_tup (n := 2 * m) fun d hd => ?_).mono (by omega)
      rcases List.mem_cons.mp hd with rfl | hd
      · exact lits (by simp)
      · rw [List.mem_singleton.mp hd]
        exact ih q
  | h3 r ih =>
    intro n g
    cases g with
    | @conj m _ z q =>
      rw [dSay_conj]
      refine (shp_tup (n := 2 * m + 1) fun d hd => ?_).mono (by omega)
      rcases List.mem_cons.mp hd with rfl | hd
      · exact lits (by simp)
      · rw [List.mem_singleton.mp hd]
        exact shp_tup fun d hd => by
          obtain ⟨s, hs, rfl⟩ := List.mem_map.mp hd
          exact ih s hs (q s hs)
  | h4 r ih =>
    intro n g
    cases g with
    | @disj m _ z q =>
      rw [dSay_disj]
      refine (shp_tup (n := 2 * m + 1) fun d hd => ?_).mono (by omega)
      rcases List.mem_cons.mp hd with rfl | hd
      · exact lits (by simp)
      · rw [List.mem_singleton.mp hd]
        exact shp_tup fun d hd => by
          obtain ⟨s, hs, rfl⟩ := List.mem_map.mp hd
          exact ih s hs (q s hs)
  | h5 w s ih =>
    intro n g
    cases g with
    | @must m _ _ z q =>
      rw [dSay_must]
      refine (shp_tup (n := 2 * m) fun d hd => ?_).mono (by omega)
      rcases List.mem_cons.mp hd with rfl | hd
      · exact lits (by simp)
      · rcases List.mem_cons.mp hd with rfl | hd
        · exact shp_str (wordOk_str z)
        · rw [List.mem_singleton.mp hd]
          exact ih q
  | h6 w s ih =>
    intro n g
    cases g with
    | @may m _ _ z q =>
      rw [dSay_may]
      refine (shp_tup (n := 2 * m) fun d hd => ?_).mono (by omega)
      rcases List.mem_cons.mp hd with rfl | hd
      · exact lits (by simp)
      · rcases List.mem_cons.mp hd with rfl | hd
        · exact shp_str (wordOk_str z)
        · rw [List.mem_singleton.mp hd]
          exact ih q
mutual
/-- texts and tuples of such -/
def pl : PyData → Bool
  | .str _ => true
  | .tuple ds => pls ds
  | .none => false
  | .bool _ => false
  | .int _ => false
  | .list _ => false
  | .dict _ => false
def pls : List PyData → Bool
  | [] => true
  | d :: ds => pl d && pls ds
end
mutual
theorem eqv_eq : ∀ d e : PyData, pl d = true → PyData.eqv d e = true → d = e
  | .str x, .str y, _, h => by
    rw [PyData.eqv] at h
    rw [eq_of_beq h]
  | .str x, .none, _, h => by rw [PyData.eqv] at h; cases h
  | .str x, .bool _, _, h => by rw [PyData.eqv] at h; cases h
  | .str x, .int _, _, h => by rw [PyData.eqv] at h; cases h
  | .str x, .list _, _, h => by rw [PyData.eqv] at h; cases h
  | .str x, .tuple _, _, h => by rw [PyData.eqv] at h; cases h
  | .str x, .dict _, _, h => by rw [PyData.eqv] at h; cases h
  | .tuple xs, .tuple ys, p, h => by
    rw [PyData.eqv] at h
    rw [pl] at p
    rw [eqvAll_eq xs ys p h]
  | .tuple x, .none, _, h => by rw [PyData.eqv] at h; cases h
  | .tuple x, .bool _, _, h => by rw [PyData.eqv] at h; cases h
  | .tuple x, .int _, _, h => by rw [PyData.eqv] at h; cases h
  | .tuple x, .list _, _, h => by rw [PyData.eqv] at h; cases h
  | .tuple x, .str _, _, h => by rw [PyData.eqv] at h; cases h
  | .tuple x, .dict _, _, h => by rw [PyData.eqv] at h; cases h
  | .none, _, p, _ => by rw [pl] at p; cases p
  | .bool _, _, p, _ => by rw [pl] at p; cases p
  | .int _, _, p, _ => by rw [pl] at p; cases p
  | .list _, _, p, _ => by rw [pl] at p; cases p
  | .dict _, _, p, _ => by rw [pl] at p; cases p
theorem eqvAll_eq : ∀ xs ys : List PyData, pls xs = true → PyData.eqvAll xs ys = true → xs = ys
  | [], [], _, _ => rfl
  | [], _ :: _, _, h => by rw [PyData.eqvAll] at h; cases h
  | _ :: _, [], _, h => by rw [PyData.eqvAll] at h; cases h
  | x :: xs, y :: ys, p, h => by
    rw [PyData.eqvAll, Bool.and_eq_true] at h
    rw [pls, Bool.and_eq_true] at p
    rw [eqv_eq x y p.1 h.1, eqvAll_eq xs ys p.2 h.2]
end
mutual
theorem eqv_self : ∀ d : PyData, pl d = true → PyData.eqv d d = true
  | .str x, _ => by rw [PyData.eqv]; exact beq_self_eq_true x
  | .tuple xs, p => by
    rw [pl] at p
    rw [PyData.eqv]
    exact eqvAll_self xs p
  | .none, p => by rw [pl] at p; cases p
  | .bool _, p => by rw [pl] at p; cases p
  | .int _, p => by rw [pl] at p; cases p
  | .list _, p => by rw [pl] at p; cases p
  | .dict _, p => by rw [pl] at p; cases p
theorem eqvAll_self : ∀ xs : List PyData, pls xs = true → PyData.eqvAll xs xs = true
  | [], _ => by rw [PyData.eqvAll]
  | x :: xs, p => by
    rw [pls, Bool.and_eq_true] at p
    rw [PyData.eqvAll, eqv_self x p.1, eqvAll_self xs p.2]
    rfl
end
theorem pls_map {l : List (Say Str)} (h : ∀ s ∈ l, pl (dSay s) = true) : pls (l.map dSay) = true := by
  induction l with
  | nil => rfl
  | cons s r ih =>
    rw [List.map_cons, pls, h s (by simp), ih fun a ha => h a (List.mem_cons_of_mem _ ha)]
    rfl
theorem pl_say (s : Say Str) : pl (dSay s) = true := by
  induction s using Say.ind with
  | h1 w => rw [dSay_letter]; rfl
  | h2 s ih => rw [dSay_neg, pl, pls, pls, ih]; rfl
  | h3 r ih =>
    have : pl (.tuple (r.map dSay)) = true := by rw [pl]; exact pls_map ih
    rw [dSay_conj, pl, pls, pls, this]
    rfl
  | h4 r ih =>
    have : pl (.tuple (r.map dSay)) = true := by rw [pl]; exact pls_map ih
    rw [dSay_disj, pl, pls, pls, this]
    rfl
  | h5 w s ih => rw [dSay_must, pl, pls, pls, pls, ih]; rfl
  | h6 w s ih => rw [dSay_may, pl, pls, pls, pls, ih]; rfl
theorem says_inj : ∀ {l r : List (Say Str)}, (∀ s ∈ l, ∀ t, dSay s = dSay t → s = t) → l.map dSay = r.map dSay → l = r
  | [], [], _, _ => rfl
  | [], t :: r, _, h => by simp at h
  | s :: l, [], _, h => by simp at h
  | s :: l, t :: r, ih, h => by
    simp only [List.map_cons, List.cons.injEq] at h
    rw [ih s (by simp) t h.1, says_inj (fun a ha => ih a (List.mem_cons_of_mem _ ha)) h.2]
theorem say_inj : ∀ (s t : Say Str), dSay s = dSay t → s = t := by
  have n1 : ¬ (("letter" : Str) = "not") := by decide +kernel
  have n2 : ¬ (("letter" : Str) = "and") := by decide +kernel
  have n3 : ¬ (("letter" : Str) = "or") := by decide +kernel
  have n6 : ¬ (("not" : Str) = "and") := by decide +kernel
  have n7 : ¬ (("not" : Str) = "or") := by decide +kernel
  have n8 : ¬ (("and" : Str) = "or") := by decide +kernel
  have n9 : ¬ (("must" : Str) = "may") := by decide +kernel
  intro s
  induction s using Say.ind with
  | h1 w =>
    intro t h
    cases t <;> simp only [dSay_letter, dSay_neg, dSay_conj, dSay_disj, dSay_must, dSay_may, PyData.tuple.injEq, List.cons.injEq, PyData.str.injEq, and_true] at h
    · rw [h.2]
    · exact (n1 h.1).elim
    · exact (n2 h.1).elim
    · exact (n3 h.1).elim
    · exact absurd h.2.2 (by simp)
    · exact absurd h.2.2 (by simp)
  | h2 s ih =>
    intro t h
    cases t <;> simp only [dSay_letter, dSay_neg, dSay_conj, dSay_disj, dSay_must, dSay_may, PyData.tuple.injEq, List.cons.injEq, PyData.str.injEq, and_true] at h
    · exact (n1 h.1.symm).elim
    · rw [ih _ h.2]
    · exact (n6 h.1).elim
    · exact (n7 h.1).elim
    · exact absurd h.2.2 (by simp)
    · exact absurd h.2.2 (by simp)
  | h3 r ih =>
    intro t h
    cases t <;> simp only [dSay_letter, dSay_neg, dSay_conj, dSay_disj, dSay_must, dSay_may, PyData.tuple.injEq, List.cons.injEq, PyData.str.injEq, and_true] at h
    · exact (n2 h.1.symm).elim
    · exact (n6 h.1.symm).elim
    · rw [says_inj ih h.2]
    · exact (n8 h.1).elim
    · exact absurd h.2.2 (by simp)
    · exact absurd h.2.2 (by simp)
  | h4 r ih =>
    intro t h
    cases t <;> simp only [dSay_letter, dSay_neg, dSay_conj, dSay_disj, dSay_must, dSay_may, PyData.tuple.injEq, List.cons.injEq, PyData.str.injEq, and_true] at h
    · exact (n3 h.1.symm).elim
    · exact (n7 h.1.symm).elim
    · exact (n8 h.1.symm).elim
    · rw [says_inj ih h.2]
    · exact absurd h.2.2 (by simp)
    · exact absurd h.2.2 (by simp)
  | h5 w s ih =>
    intro t h
    cases t <;> simp only [dSay_letter, dSay_neg, dSay_conj, dSay_disj, dSay_must, dSay_may, PyData.tuple.injEq, List.cons.injEq, PyData.str.injEq, and_true] at h
    · exact absurd h.2.2 (by simp)
    · exact absurd h.2.2 (by simp)
    · exact absurd h.2.2 (by simp)
    · exact absurd h.2.2 (by simp)
    · rw [h.2.1, ih _ h.2.2]
    · exact (n9 h.1).elim
  | h6 w s ih =>
    intro t h
    cases t <;> simp only [dSay_letter, dSay_neg, dSay_conj, dSay_disj, dSay_must, dSay_may, PyData.tuple.injEq, List.cons.injEq, PyData.str.injEq, and_true] at h
    · exact absurd h.2.2 (by simp)
    · exact absurd h.2.2 (by simp)
    · exact absurd h.2.2 (by simp)
    · exact absurd h.2.2 (by simp)
    · exact (n9 h.1.symm).elim
    · rw [h.2.1, ih _ h.2.2]
theorem eqv_say (s t : Say Str) (h : PyData.eqv (dSay s) (dSay t) = true) : s = t := say_inj s t (eqv_eq _ _ (pl_say s) h)
theorem hw_ok : ∀ h ∈ (["h", "k", "zz"] : List Str), WordOk h := by
  intro h hh
  simp only [List.mem_cons, List.not_mem_nil, or_false] at hh
  rcases hh with rfl | rfl | rfl <;> exact ⟨by decide +kernel, by decide +kernel, by decide +kernel⟩
theorem mw_ok : ∀ h ∈ (["a", "b", "zz"] : List Str), WordOk h := by
  intro h hh
  simp only [List.mem_cons, List.not_mem_nil, or_false] at hh
  rcases hh with rfl | rfl | rfl <;> exact ⟨by decide +kernel, by decide +kernel, by decide +kernel⟩
/-! ### Parter -/
structure ParterC (K : PySem.W.Frag) (Cp : Addr) : Prop where
  cl : Cls K Cp
  n1 : NoAttr K Cp "web"
  n2 : NoAttr K Cp "view"
  n3 : NoAttr K Cp "rounds"
structure ParterAt (K : PySem.W.Frag) (C Cp : Addr) (H : Hp) (p : Addr) (m : Nat) (B : Web Str) (rs : List (List Nat)) : Prop where
  ob : ∃ dx v pv vr, H p = some (.ins Cp dx [("web", v), ("view", .ref pv), ("rounds", vr)]) ∧ TD K H v (dWeb B) ∧ ViewAt K C H pv B ∧ Opn C H pv B ∧ TD K H vr (.tuple (rs.map dNats))
  ok : WebOk m B
  R : Rounds B rs
section
variable {K : PySem.W.Frag} {C Cp : Addr} {σ : L2.St} {H H' : Hp} {p : Addr} {m : Nat} {B : Web Str} {rs : List (List Nat)} {ta tx : TE}
theorem ParterAt.ex (e : Ex H H') (t : ParterAt K C Cp H p m B rs) : ParterAt K C Cp H' p m B rs := by
  obtain ⟨dx, v, pv, vr, h1, h2, h3, h4, h5⟩ := t.ob
  exact ⟨⟨dx, v, pv, vr, e _ _ h1, h2.ex e, h3.ex e, h4.ex e, h5.ex e⟩, t.ok, t.R⟩
theorem mk_view {E : XK} (o : WebOk m B) (h : ED K tx σ H (· = dWeb B)) : ∀ H1, Ex H H1 → ∀ Q : VK, (∀ p H2, H1 p = none → Ex H1 H2 → ViewAt K C H2 p B → Opn C H2 p B → Q (.ref p) H2) → tMake C (sp_view K C) [] E (tCons tx tNil) σ H1 Q := fun H1 e1 Q k =>
  h H1 e1 _ fun v H2 d e t p => by
    subst p
    intro x dx nx ndx ne
    refine ⟨x, dx, v, B, rfl, upd_same, t.mono ((Kt.new ndx).trans (Kt.new (by rw [upd_ne ne.symm]; exact nx))), o.wf.nds, o.wf.ndm, by have := o.hl; omega, by have := o.ml; omega, fun q hq => by have := o.pl q hq; omega, fun H' kp vw op => ⟨rfl, ?_⟩⟩
    refine k x H' (fresh_back e nx) (e.trans fun b ob hb => kp b ob ?_ (ne_of_none hb nx)) vw op
    rw [upd_ne (ne_of_none hb nx), upd_ne (ne_of_none hb ndx)]
    exact hb
theorem ParterAt.web (t : ParterAt K C Cp H p m B rs) (PC : ParterC K Cp) (h : Ev ta σ H (.ref p)) : ED K (tFld K ta "web") σ H (· = dWeb B) := fun H1 e Q q =>
  h H1 e _ fun H2 e2 => by
    obtain ⟨dx, v, pv, vr, h1, h2, h3, h4, h5⟩ := (t.ex (e.trans e2)).ob
    exact ⟨p, Cp, dx, _, v, rfl, h1, PC.cl, PC.n1, rfl, q v H2 _ e2 h2 rfl⟩
theorem ParterAt.rounds (t : ParterAt K C Cp H p m B rs) (PC : ParterC K Cp) (h : Ev ta σ H (.ref p)) : ED K (tFld K ta "rounds") σ H (· = .tuple (rs.map dNats)) := fun H1 e Q q =>
  h H1 e _ fun H2 e2 => by
    obtain ⟨dx, v, pv, vr, h1, h2, h3, h4, h5⟩ := (t.ex (e.trans e2)).ob
    exact ⟨p, Cp, dx, _, vr, rfl, h1, PC.cl, PC.n3, by rfl, q vr H2 _ e2 h5 rfl⟩
theorem ev_view {pv dx : Addr} {v vr : L2.V} (h1 : H p = some (.ins Cp dx [("web", v), ("view", .ref pv), ("rounds", vr)])) (PC : ParterC K Cp) (h : Ev ta σ H (.ref p)) : Ev (tFld K ta "view") σ H (.ref pv) := fun H1 e Q q =>
  h H1 e _ fun H2 e2 => ⟨p, Cp, dx, _, .ref pv, rfl, e2 _ _ (e _ _ h1), PC.cl, PC.n2, by rfl, q H2 e2⟩
end
section
variable {P : Program} {w : World} {K : PySem.W.Frag} {mg : Str → Option Value} {base : Heap} {C Cp : Addr}
abbrev sp_parter (K : PySem.W.Frag) (C Cp : Addr) : Sp := fun vs H Q _ => ∃ (p dx : Addr) (v : L2.V) (m : Nat) (B : Web Str), vs = [.ref p, v] ∧ H p = some (.ins Cp dx []) ∧ TD K H v (dWeb B) ∧ WebOk m B ∧ 0 < B.many ∧
  ∀ H' rs, (∀ b o, H b = some o → b ≠ p → H' b = some o) → ParterAt K C Cp H' p m B rs → Q .non H'
theorem has_parter (D : InitAt K mg "Parter" Cp "Parter.__init__" st_Parter___init__ ["self", "web"]) (PC : ParterC K Cp) (GV : HasC P w K mg base CX0 2 "WebView" C ["self", "web"] (sp_view K C)) (GR : Has P w K mg base CX0 5 "class_rounds" ["web"] (sp_rounds K)) : HasC P w K mg base CX0 6 "Parter" Cp ["self", "web"] (sp_parter K C Cp) := by
  refine D.ok sc_Parter___init__ (fun vs H Q E h => ?_) (fun f cdv A outer s H vs Q E hr h => ?_)
  · obtain ⟨p, dx, v, m, B, rfl, _⟩ := h
    rfl
  · obtain ⟨p, dx, v, m, B, rfl, hp, tv, ok, pos, k⟩ := h
    have nd := sc_Parter___init__.nd
    refine ⟨_, pss_cons (ps_fld (pv 0) (pv 1) rfl) (pss_cons (ps_fld (pv 0) (pe_hasC GV (hr.mono (by omega)) (by rfl) pass0 (pa_cons (pv 1) pa_nil)) rfl) (pss_one (ps_fld (pv 0) (pe_has GR hr (by rfl) pass0 (pa_cons (pv 1) pa_nil)) rfl))), ?_⟩
    refine ⟨_, rfl, _, rfl, p, Cp, dx, [], rfl, hp, PC.cl, PC.n1, by simp, ?_⟩
    have kt1 : Kt H (upd H p (.ins Cp dx (putF "web" v []))) := Kt.upd hp rfl
    dsimp only
    refine q_fld (K := K) ?_
    refine mk_view (K := K) (C := C) ok (ed_var (v := v) rfl (tv.mono kt1)) _ (Ex.refl _) _ fun q H1 nq e1 vw op => ?_
    have hp1 : H1 p = some (.ins Cp dx [("web", v)]) := e1 _ _ upd_same
    refine ⟨_, rfl, p, Cp, dx, [("web", v)], rfl, hp1, PC.cl, PC.n2, by simp, ?_⟩
    have pf1 : putF "view" (.ref q) [("web", v)] = ([("web", v), ("view", .ref q)] : List (Str × L2.V)) := kS (by decide +kernel)
    rw [pf1]
    have kt2 : Kt H (upd H1 p (.ins Cp dx [("web", v), ("view", .ref q)])) := kt1.trans ((Kt.ex e1).trans (Kt.upd hp1 rfl))
    refine s_fld (K := K) ?_
    refine ⟨_, rfl, m, B, .cons (tv.mono kt2) .nil, ok, pos, fun vr H2 rs e2 tr R b => ?_⟩
    have hp2 : H2 p = some (.ins Cp dx [("web", v), ("view", .ref q)]) := e2 _ _ upd_same
    refine ⟨_, rfl, p, Cp, dx, _, rfl, hp2, PC.cl, PC.n3, by simp, ?_⟩
    have pf2 : putF "rounds" vr [("web", v), ("view", .ref q)] = ([("web", v), ("view", .ref q), ("rounds", vr)] : List (Str × L2.V)) := by
      show (if _ then _ else _) = _
      rw [if_neg (by decide +kernel)]
      show _ :: (if _ then _ else _) = _
      rw [if_neg (by decide +kernel)]
      rfl
    rw [pf2]
    -- what stands beside the instance
    have nin : ∀ {b : Addr} {o : HO}, H1 b = some o → b ≠ p → upd H2 p (.ins Cp dx [("web", v), ("view", .ref q), ("rounds", vr)]) b = some o := fun hb hne => by
      rw [upd_ne hne]
      exact e2 _ _ (by rw [upd_ne hne]; exact hb)
    have kt3 : Kt H2 (upd H2 p (.ins Cp dx [("web", v), ("view", .ref q), ("rounds", vr)])) := Kt.upd hp2 rfl
    have rdn : ∀ {b : Addr} {o : HO}, Rd H1 b o → b ≠ p → Rd (upd H2 p (.ins Cp dx [("web", v), ("view", .ref q), ("rounds", vr)])) b o := fun hb hne => by
      rcases hb with hb | ⟨ob, hb⟩
      · exact .inl (nin hb hne)
      · exact .inr ⟨ob, nin hb hne⟩
    have notp : ∀ {b : Addr} {o : HO}, Rd H1 b o → (∀ fs, o ≠ .ins Cp dx fs) → b ≠ p := fun hb hno z => by
      subst z
      rcases hb with hb | ⟨ob, hb⟩
      · rw [hp1] at hb
        cases hb
        exact hno _ rfl
      · rw [hp1] at hb
        cases hb
    have kt13 : Kt H1 (upd H2 p (.ins Cp dx [("web", v), ("view", .ref q), ("rounds", vr)])) := fun a xs h => rdn h (notp h fun _ z => nomatch z)
    have qp : q ≠ p := (ne_of_none (H := upd H p (.ins Cp dx (putF "web" v []))) upd_same nq).symm
    refine k _ rs (fun b o hb hne => ?_) ⟨⟨dx, v, q, vr, upd_same, tv.mono (kt2.trans ((Kt.ex e2).trans kt3)), ?_, ?_, tr.mono kt3⟩, ok, R⟩
    · exact nin (e1 _ _ (by rw [upd_ne hne]; exact hb)) hne
    · obtain ⟨dx', d1, d2, ho, ⟨k1, r1, m1, f1⟩, k2, r2, m2, f2⟩ := vw.ob
      refine ⟨dx', d1, d2, nin ho qp, ⟨k1, rdn r1 (notp r1 fun _ z => nomatch z), m1, fun kv hkv h eh => ?_⟩, k2, rdn r2 (notp r2 fun _ z => nomatch z), m2, fun kv hkv z ez => (f2 kv hkv z ez).mono kt13⟩
      obtain ⟨r, a, k3, b, c⟩ := f1 kv hkv h eh
      exact ⟨r, a, k3, rdn b (notp b fun _ z => nomatch z), fun x => (c x).imp id fun ⟨l, p1, p2⟩ => ⟨l, p1, nin p2 (notp (.inl p2) fun _ z => nomatch z)⟩⟩
    · obtain ⟨dx', d1, d2, k1, h1, h2, h3⟩ := op
      exact ⟨dx', d1, d2, k1, nin h1 qp, nin h2 (notp (.inl h2) fun _ z => nomatch z), h3⟩
end
end K33
set_option autoImplicit false
set_option Elab.async false
set_option linter.all false
set_option maxRecDepth 100000
set_option maxHeartbeats 4000000
namespace K33
open PySem PySem.Spec PyProof.Rows L2 Evl
theorem rounds_at {B : Web Str} {rs : List (List Nat)} (R : Rounds B rs) {n : Nat} (h : n < rs.length) : rs[n]? = some (rs.getD n []) ∧ (rs.getD n []).length = B.many := by
  refine ⟨?_, (R.row h).1⟩
  rw [List.getD_eq_getElem?_getD, List.getElem?_eq_getElem h]
  rfl
section
variable {K : PySem.W.Frag} {σ : L2.St} {H : Hp} {te : TE} {g : TG} {tz : TS} {D : Ends} {P' : PyData → Prop} {R : List PyData → Prop}
theorem q_asgDG (h : ED K te σ H P') (k : ∀ v d H1, Ex H H1 → TD K H1 v d → P' d → g v σ H1 (tz D)) : tSeq (tAsg te g) tz D σ H := h H (Ex.refl H) _ fun v H1 d e t p => k v d H1 e t p
theorem q_asgLdG (h : ELd K te σ H R) (k : ∀ p xs ds H1, H p = none → Ex H H1 → H1 p = some (.lst xs) → TDs K H1 xs ds → R ds → g (.ref p) σ H1 (tz D)) : tSeq (tAsg te g) tz D σ H := h H (Ex.refl H) _ fun p xs H1 ds n e l t r => k p xs ds H1 n e l t r
end
section
variable {P : Program} {w : World} {K : PySem.W.Frag} {mg : Str → Option Value} {base : Heap} {C Cp : Addr}
abbrev sp_roundof (K : PySem.W.Frag) (C Cp : Addr) : Sp := fun vs H Q _ => ∃ (p : Addr) (m : Nat) (B : Web Str) (rs : List (List Nat)) (x y : Nat), vs = [.ref p, .int (x : Int), .int (y : Int)] ∧ ParterAt K C Cp H p m B rs ∧ x < B.many ∧ y < B.many ∧
  (∀ (n : Nat) H', Ex H H' → n < rs.length → (rs.getD n []).getD x 0 ≠ (rs.getD n []).getD y 0 → (∀ k, k < n → (rs.getD k []).getD x 0 = (rs.getD k []).getD y 0) → Q (.int (n : Int)) H') ∧
  ∀ H', Ex H H' → (∀ k, k < rs.length → (rs.getD k []).getD x 0 = (rs.getD k []).getD y 0) → Q .non H'
theorem has_roundof (D : MethAt K Cp "round_of" "Parter.round_of" st_Parter_round_of ["self", "one", "other"]) (B : Blt mg) (PC : ParterC K Cp) : HasM P w K mg base CX0 1 Cp "round_of" ["self", "one", "other"] (sp_roundof K C Cp) := by
  refine D.ok sc_Parter_round_of (fun vs H Q E h => ?_) (fun f cdv A outer s H vs Q E hr h => ?_)
  · obtain ⟨p, m, B, rs, x, y, rfl, _⟩ := h
    rfl
  · obtain ⟨p, m, B', rs, x, y, rfl, t, hx, hy, k1, k2⟩ := h
    have nd := sc_Parter_round_of.nd
    refine ⟨_, pss_cons (ps_for PassesOwn.never rfl (k_enumT K (by rfl) B.b_enumerate (pa_cons (k_fld K (pv 0)) pa_nil)) (k_tup K 2 rfl (pgs_cons (pg_name (i := 3) nd rfl (.inl rfl)) (pgs_cons (pg_name (i := 4) nd rfl (.inl rfl)) pgs_nil)))
        (pss_one (ps_if (pt_cmpR op_ne (pe_ix (k_ixT K) (pv 4) (pv 1) (fun _ _ => rfl)) (pe_ix (k_ixT K) (pv 4) (pv 2) (fun _ _ => rfl)) (nomark _)) (pss_one (ps_ret (pv 3))) pss_nil)))
      (pss_one (ps_ret pe_non)), ?_⟩
    refine q_for (K := K) (src_enumT (t.rounds PC (ev_var rfl))) (fun H1 i σ H' => (∃ a b, σ = [some (.ref p), some (.int (x : Int)), some (.int (y : Int)), a, b]) ∧ Ex H1 H' ∧ ∀ k, k < i → (rs.getD k []).getD x 0 = (rs.getD k []).getD y 0) (fun H1 e1 => ⟨⟨none, none, rfl⟩, Ex.refl _, fun k hk => absurd hk (Nat.not_lt_zero _)⟩) (fun H1 i σ H' q => Kt.ex q.2.1) ?_ ?_
    · rintro H1 i d u σ' H2 H3 e1 hd ⟨⟨a, b, rfl⟩, e2, eq⟩ e3 tu
      rw [List.getElem?_map, List.getElem?_zipIdx, List.getElem?_map] at hd
      have il : i < rs.length := by
        cases q : rs[i]? with
        | none => rw [q] at hd; cases hd
        | some r => exact (List.getElem?_eq_some_iff.mp q).1
      obtain ⟨h1, h2⟩ := rounds_at t.R il
      rw [h1] at hd
      cases hd
      simp only [Nat.zero_add] at tu
      refine tg_pair tu fun v1 v2 t1 t2 => ?_
      obtain rfl := t1.intI
      refine s_when (b := !decide ((rs.getD i []).getD x 0 = (rs.getD i []).getD y 0)) (et_test (ev_neN (ev_cls (ed_var rfl t2) (ev_var rfl) (by omega)) (ev_cls (ed_var rfl t2) (ev_var rfl) (by omega)))) (fun hb H4 e4 => ?_) fun hb H4 e4 => ?_
      · refine s_ret (v := .int (i : Int)) (ev_var rfl) fun H5 e5 => k1 i H5 (e1.trans (e2.trans (e3.trans (e4.trans e5)))) il (by simpa using hb) eq
      · refine ⟨⟨_, _, rfl⟩, e2.trans (e3.trans e4), fun k hk => ?_⟩
        by_cases hki : k = i
        · subst hki
          simpa using hb
        · exact eq k (by omega)
    · rintro H1 σ' H2 e1 ⟨⟨a, b, rfl⟩, e2, eq⟩
      rw [List.length_map, List.length_zipIdx, List.length_map] at eq
      exact k2 H2 (e1.trans e2) eq
abbrev sp_byletter (K : PySem.W.Frag) (C Cp : Addr) : Sp := fun vs H Q _ => ∃ (p : Addr) (m : Nat) (B : Web Str) (rs : List (List Nat)) (x y : Nat), vs = [.ref p, .int (x : Int), .int (y : Int)] ∧ ParterAt K C Cp H p m B rs ∧ (∃ z, ¬ (x ∈ getL B.marks z ↔ y ∈ getL B.marks z)) ∧
  ∀ v H' s, Ex H H' → TD K H' v (dSay s) → Good WordOk 2 s → Parts B s x y → Q v H'
def lets (B : Web Str) (x : Nat) : List Str := (B.marks.filter fun p => decide (x ∈ p.2)).map (·.1)
theorem mem_lets {B : Web Str} (wf : Wf B) {x : Nat} {z : Str} : z ∈ lets B x ↔ x ∈ getL B.marks z := by
  unfold lets
  rw [List.mem_map]
  constructor
  · rintro ⟨p, hp, rfl⟩
    obtain ⟨h1, h2⟩ := List.mem_filter.mp hp
    rw [getL_mem wf.ndm (v := p.2) h1]
    exact of_decide_eq_true h2
  · intro h
    exact ⟨_, List.mem_filter.mpr ⟨mem_getL h, decide_eq_true h⟩, rfl⟩
theorem lets_len {m : Nat} {B : Web Str} (ok : WebOk m B) (x : Nat) : (lets B x).length ≤ 3 := by
  unfold lets
  rw [List.length_map]
  exact Nat.le_trans (List.length_filter_le _ _) ok.ml
theorem lets_ok {m : Nat} {B : Web Str} (ok : WebOk m B) {x : Nat} {z : Str} (h : z ∈ lets B x) : WordOk z := by
  unfold lets at h
  obtain ⟨p, hp, rfl⟩ := List.mem_map.mp h
  exact mw_ok _ (ok.mrk _ (List.mem_map.mpr ⟨p, (List.mem_filter.mp hp).1, rfl⟩))
theorem ed_lets {σ : L2.St} {H : Hp} {ta tb : TE} {m : Nat} {B : Web Str} {x : Nat} (ok : WebOk m B) (h1 : ED K ta σ H (· = dWeb B)) (h2 : Ev tb σ H (.int (x : Int))) : ED K (tCall (sp_letters_at K) [] E0 (tCons ta (tCons tb tNil))) σ H (· = .tuple ((lets B x).map PyData.str)) :=
  ed_callS (eds_c h1 (eds_c (ed_i h2) eds_nil)) fun vs H1 Q e1 ts q => ⟨B, x, ts, by have := ok.ml; omega, fun v H2 e2 t2 => q v H2 _ e2 t2 (by unfold lets; rw [List.map_map]; rfl)⟩
theorem has_byletter (D : MethAt K Cp "by_letter" "Parter.by_letter" st_Parter_by_letter ["self", "one", "other"]) (B : Blt mg) (PC : ParterC K Cp) (GL : Has P w K mg base CX0 1 "letters_at" ["web", "world"] (sp_letters_at K)) : HasM P w K mg base CX0 2 Cp "by_letter" ["self", "one", "other"] (sp_byletter K C Cp) := by
  refine D.ok sc_Parter_by_letter (fun vs H Q E h => ?_) (fun f cdv A outer s H vs Q E hr h => ?_)
  · obtain ⟨p, m, B, rs, x, y, rfl, _⟩ := h
    rfl
  · obtain ⟨p, m, B', rs, x, y, rfl, t, dif, k⟩ := h
    have nd := sc_Parter_by_letter.nd
    refine ⟨_, pss_cons (ps_asg (pe_tup (pa_cons (pe_has GL hr (by rfl) pass0 (pa_cons (k_fld K (pv 0)) (pa_cons (pv 1) pa_nil))) (pa_cons (pe_has GL hr (by rfl) pass0 (pa_cons (k_fld K (pv 0)) (pa_cons (pv 2) pa_nil))) pa_nil)))
        (k_tup K 2 rfl (pgs_cons (pg_name (i := 3) nd rfl (.inr rfl)) (pgs_cons (pg_name (i := 4) nd rfl (.inr rfl)) pgs_nil))))
      (pss_cons (ps_setLc (i := 5) (own := [("word", 8)]) (g := gName 8) rfl nd rfl rfl (sw_true rfl rfl rfl (by decide +kernel)) (k_pit K (pv 3)) (blk (N := ["self", "one", "other", "mine", "theirs", "left", "first", "rest", "word"]) (sc := defScope st_Parter_by_letter) (by decide +kernel)) (fun _ _ _ _ _ => pg_name (i := 8) nd rfl (.inl rfl))
        (fun _ _ _ _ _ => pts_one (pt_cmpR (k_notIn K) (pv 8) (pv 4) (by rfl))) (fun _ _ _ _ _ => pv 8))
      (pss_cons (ps_if (pt_cmpR (k_neD K hr.units) (pv 5) (pe_lst pa_nil) (nomark _)) (pss_one (ps_ret (pe_tup (pa_cons pe_str (pa_cons (pe_ix (k_ixL K) (pv 5) pe_int (fun _ _ => rfl)) pa_nil))))) pss_nil)
      (pss_cons (ps_asg (pe_lc (own := [("word", 8)]) (g := gName 8) rfl nd (k_pit K (pv 4)) (blk (N := ["self", "one", "other", "mine", "theirs", "left", "first", "rest", "word"]) (sc := defScope st_Parter_by_letter) (by decide +kernel)) (fun _ _ _ _ _ => pg_name (i := 8) nd rfl (.inl rfl))
        (fun _ _ _ _ _ => pts_one (pt_cmpR (k_notIn K) (pv 8) (pv 3) (by rfl))) (fun _ _ _ _ _ => pv 8))
        (k_star K 2 1 rfl (pgs_cons (pg_name (i := 6) nd rfl (.inl rfl)) (pgs_star (pg_name (i := 7) nd rfl (.inl rfl)) pgs_nil)) (by decide)))
      (pss_one (ps_ret (pe_tup (pa_cons pe_str (pa_cons (pe_tup (pa_cons pe_str (pa_cons (pv 6) pa_nil))) pa_nil)))))))), ?_⟩
    have wf := t.ok.wf
    refine q_asgDG (K := K) (ed_tup (eds_c (ed_lets t.ok (t.web PC (ev_var rfl)) (ev_var rfl)) (eds_c (ed_lets t.ok (t.web PC (ev_var rfl)) (ev_var rfl)) eds_nil)) (by simp)) fun v0 d0 H1 e1 t0 p0 => ?_
    subst p0
    refine tg_pair t0 fun v1 v2 t1 t2 => ?_
    have fl : ∀ a b, (((lets B' a).filter fun z => !decide (z ∈ lets B' b)).map PyData.str).length ≤ 3 := fun a b => by
      rw [List.length_map]
      exact Nat.le_trans (List.length_filter_le _ _) (lets_len t.ok a)
    refine q_asgLd (K := K) (eld_lc (K := K) (l := lets B' x) (enc := PyData.str) (fun z => !decide (z ∈ lets B' y)) PyData.str (src_tup (ed_var (v := v1) rfl t1)).ex (by have := lets_len t.ok x; omega) fun z hz u H2 Q2 e2 tu ku => ?_) fun L xs ds H2 nL e2 hL txs hds => ?_
    · obtain rfl := tu.strI
      exact ku _ rfl (et_test (ev_inTS (neg := true) (ev_var rfl) (ed_var rfl (t2.ex e2)))) fun _ => ed_s (ev_var rfl)
    · subst hds
      generalize hl : (lets B' x).filter (fun z => !decide (z ∈ lets B' y)) = ls at txs
      have lz : (ls.map PyData.str).length ≤ 3 := by rw [← hl]; exact fl x y
      have hm : ∀ z, z ∈ ls ↔ z ∈ lets B' x ∧ z ∉ lets B' y := fun z => by
        rw [← hl, List.mem_filter]
        simp
      refine q_when (b := decide (ls ≠ [])) (fun H3 e3 Q3 q3 => ?_) (fun hb H3 e3 => ?_) fun hb H3 e3 => ?_
      · refine ⟨_, rfl, sz_of (by simp), fun m nm => ⟨.list (ls.map PyData.str), .list [], .lst (sq_of ((e3.trans (Ex.new nm)) _ _ hL)) (txs.ex (e3.trans (Ex.new nm))).dp, .lst (sq_of upd_same) .nil, (shp_list (n := 0) (fun d hd => by
          obtain ⟨z, hz, rfl⟩ := List.mem_map.mp hd
          exact shp_str (wordOk_str (lets_ok t.ok ((hm z).mp hz).1)))).shaped (by decide), (shp_list (n := 0) (by simp)).shaped (by decide), decide (ls ≠ []), ?_, q3 _ (Ex.new nm)⟩⟩
        cases ls with
        | nil => simp [PyData.eqv, PyData.eqvAll]
        | cons a r => simp [PyData.eqv, PyData.eqvAll]
      · have hb := of_decide_eq_true hb
        obtain ⟨z, r, rfl⟩ : ∃ z r, ls = z :: r := List.exists_cons_of_ne_nil hb
        obtain ⟨zx, zy⟩ := (hm z).mp (by simp)
        refine s_retD (K := K) (P := (· = dSay (.letter z))) ((ed_tup (eds_c ed_str (eds_c (ed_ixL (i := 0) (d := .str z) (ev_var rfl) (sq_of (e3 _ _ hL)) (txs.ex e3) ev_c rfl) eds_nil)) (by simp)).imp fun d hd => by rw [hd, dSay_letter]) fun v9 d9 H9 e9 t9 p9 => ?_
        subst p9
        exact k v9 H9 _ (e1.trans (e2.trans (e3.trans e9))) t9 (.letter (lets_ok t.ok zx)) ⟨by rw [holds_letter]; exact decide_eq_true ((mem_lets wf).mp zx), by rw [holds_letter]; exact decide_eq_false fun q => zy ((mem_lets wf).mpr q)⟩
      · have hb : ls = [] := Classical.not_not.mp (of_decide_eq_false hb)
        subst hb
        have sub : ∀ z, z ∈ lets B' x → z ∈ lets B' y := fun z hz => Classical.byContradiction fun q => by
          have := (hm z).mpr ⟨hz, q⟩
          cases this
        refine q_asgLdG (K := K) (eld_lc (K := K) (l := lets B' y) (enc := PyData.str) (fun z => !decide (z ∈ lets B' x)) PyData.str (src_tup (ed_var (v := v2) rfl (t2.ex (e2.trans e3)))).ex (by have := lets_len t.ok y; omega) (fun z hz u H4 Q4 e4 tu ku => ?_)) fun M ys ds H4 nM e4 hM tys hds => ?_
        · obtain rfl := tu.strI
          exact ku _ rfl (et_test (ev_inTS (neg := true) (ev_var rfl) (ed_var rfl (t1.ex (e2.trans (e3.trans e4)))))) fun _ => ed_s (ev_var rfl)
        · subst hds
          have lz2 := fl y x
          generalize hl2 : (lets B' y).filter (fun z => !decide (z ∈ lets B' x)) = ls2 at tys lz2
          have hm2 : ∀ z, z ∈ ls2 ↔ z ∈ lets B' y ∧ z ∉ lets B' x := fun z => by
            rw [← hl2, List.mem_filter]
            simp
          obtain ⟨z0, hz0⟩ := dif
          have ne : ls2 ≠ [] := by
            rintro rfl
            rw [← mem_lets wf, ← mem_lets wf] at hz0
            refine hz0 ⟨sub z0, fun q => Classical.byContradiction fun q2 => ?_⟩
            have := (hm2 z0).mpr ⟨q, q2⟩
            cases this
          obtain ⟨z, r, rfl⟩ := List.exists_cons_of_ne_nil ne
          obtain ⟨zy, zx⟩ := (hm2 z).mp (by simp)
          refine g_starL (sq_of hM) tys (by simp at lz2 ⊢; omega) fun vz N zs nN tz tzs => ?_
          obtain rfl := tz.strI
          refine s_retD (K := K) (P := (· = dSay (.neg (.letter z)))) ((ed_tup (eds_c ed_str (eds_c (ed_tup (eds_c ed_str (eds_c (ed_s (ev_var rfl)) eds_nil)) (by simp)) eds_nil)) (by simp)).imp fun d hd => by rw [hd, dSay_neg, dSay_letter]) fun v9 d9 H9 e9 t9 p9 => ?_
          subst p9
          exact k v9 H9 _ (e1.trans (e2.trans (e3.trans (e4.trans ((Ex.new nN).trans e9))))) t9 (.neg (.letter (lets_ok t.ok zy))) ⟨by rw [holds_neg, holds_letter, decide_eq_false fun q => zx ((mem_lets wf).mpr q)]; rfl, by rw [holds_neg, holds_letter, decide_eq_true ((mem_lets wf).mp zy)]; rfl⟩
end
end K33
set_option autoImplicit false
set_option Elab.async false
set_option linter.all false
set_option maxRecDepth 100000
set_option maxHeartbeats 4000000
namespace K33
open PySem PySem.Spec PyProof.Rows L2 Evl
section
variable {K : PySem.W.Frag} {C Cp : Addr} {σ : L2.St} {H H' : Hp} {ta tb : TE}
theorem ex_unlock {d : Addr} {k : List (Key × L2.V)} {o : Obj} (hd : H d = some (.dK k)) (e : Ex (upd H d (.frz o (.dK k))) H') : Ex H (upd H' d (.dK k)) := fun b u hb => by
  by_cases z : b = d
  · subst z
    rw [upd_same]
    rw [hd] at hb
    exact hb
  · rw [upd_ne z]
    exact e _ _ (by rw [upd_ne z]; exact hb)
theorem kt_unlock {d : Addr} {k : List (Key × L2.V)} {o : Obj} {u : HO} (hd : H d = some (.frz o (.dK k))) : Kt H (upd H d u) := fun a xs r => by
  have ne : a ≠ d := by
    rintro rfl
    rcases r with r | ⟨ob, r⟩
    · rw [hd] at r; cases r
    · rw [hd] at r; cases r
  rcases r with r | ⟨ob, r⟩
  · exact .inl (by rw [upd_ne ne]; exact r)
  · exact .inr ⟨ob, by rw [upd_ne ne]; exact r⟩
theorem kt_lock {d : Addr} {k : List (Key × L2.V)} {o : Obj} (hd : H d = some (.dK k)) : Kt H (upd H d (.frz o (.dK k))) := Kt.upd hd rfl
/-- x not in [..], numbers -/
theorem ev_ninL {p : Addr} {ns : List Nat} {x : Nat} (h1 : Ev ta σ H (.int (x : Int))) (h2 : Ev tb σ H (.ref p)) (hp : IntsAt H p ns) : Ev (tOp (rIn K true) ta tb) σ H (.bl (!decide (x ∈ ns))) := fun H1 e Q q =>
  h1 H1 e _ fun H2 e2 => h2 H2 (e.trans e2) _ fun H3 e3 => by
    refine ⟨p, _, rfl, .inl (sq_of ((e.trans (e2.trans e3)) _ _ hp)), rfl, flat_ints _, ?_⟩
    rw [if_pos rfl, inV_ints]
    simp only [mem_nats]
    exact q H3 (e2.trans e3)
end
section
variable {P : Program} {w : World} {K : PySem.W.Frag} {mg : Str → Option Value} {base : Heap} {C Cp : Addr}
abbrev sp_unled (K : PySem.W.Frag) (C Cp : Addr) : Sp := fun vs H Q _ => ∃ (p : Addr) (m : Nat) (B : Web Str) (rs : List (List Nat)) (x y : Nat) (c : List Nat) (v : L2.V), vs = [.ref p, v, .int (x : Int), .int (y : Int)] ∧ ParterAt K C Cp H p m B rs ∧ TD K H v (dNats c) ∧ c.length = B.many ∧
  (∀ H', Ex H H' → (∀ h ∈ hands B, ∀ z ∈ ends B h x, c.getD z 0 ∈ (ends B h y).map fun z => c.getD z 0) → Q .non H') ∧
  ∀ v H' h z, Ex H H' → TD K H' v (.tuple [.str h, .int (z : Nat)]) → h ∈ hands B → z ∈ ends B h x → (c.getD z 0 ∉ (ends B h y).map fun z => c.getD z 0) → Q v H'
theorem has_unled (D : MethAt K Cp "unled" "Parter.unled" st_Parter_unled ["self", "classes", "one", "other"]) (B : Blt mg) (VC : ViewC K C) (PC : ParterC K Cp) (GL : HasM P w K mg base CX0 1 C "led_from" ["self", "hand", "world"] (sp_led_from K C)) : HasM P w K mg base CX0 2 Cp "unled" ["self", "classes", "one", "other"] (sp_unled K C Cp) := by
  refine D.ok sc_Parter_unled (fun vs H Q E h => ?_) (fun f cdv A outer s H vs Q E hr h => ?_)
  · obtain ⟨p, m, B, rs, x, y, c, v, rfl, _⟩ := h
    rfl
  · obtain ⟨p, m, B', rs, x, y, c, v, rfl, t, tv, cl, k1, k2⟩ := h
    have nd := sc_Parter_unled.nd
    refine ⟨_, pss_cons (ps_lock (ps_for PassesOwn.never rfl (pi_keys (k_fld K (k_fld K (pv 0)))) (pg_name (i := 4) nd rfl (.inl rfl))
        (pss_cons (ps_setLc (i := 5) (own := [("end", 6)]) (g := gName 6) rfl nd rfl rfl (sw_true rfl rfl rfl (by decide +kernel)) (k_pil K (pe_hasM VC.cl GL hr (k_fld K (pv 0)) pass0 (pa_cons (pv 4) (pa_cons (pv 3) pa_nil)))) (blk (N := ["self", "classes", "one", "other", "hand", "met", "end"]) (sc := defScope st_Parter_unled) (by decide +kernel))
          (fun _ _ _ _ _ => pg_name (i := 6) nd rfl (.inl rfl)) (fun _ _ _ _ _ => pts_nil) (fun _ _ _ _ _ => pe_ix (k_ixT K) (pv 1) (pv 6) (fun _ _ => rfl)))
        (pss_one (ps_for PassesOwn.never rfl (k_pil K (pe_hasM VC.cl GL hr (k_fld K (pv 0)) pass0 (pa_cons (pv 4) (pa_cons (pv 2) pa_nil)))) (pg_name (i := 6) nd rfl (.inl rfl))
          (pss_one (ps_if (pt_cmpR (k_notIn K) (pe_ix (k_ixT K) (pv 1) (pv 6) (fun _ _ => rfl)) (pv 5) (by rfl)) (pss_one (ps_ret (pe_tup (pa_cons (pv 4) (pa_cons (pv 6) pa_nil))))) pss_nil)))))))
      (pss_one (ps_ret pe_non)), ?_⟩
    have ok := t.ok
    obtain ⟨dx, v0, pv0, vr, h1, h2, vw, op, h5⟩ := t.ob
    obtain ⟨dx', d1, d2, k0, op1, op2, op3⟩ := op
    refine ⟨d1, .dK k0, op2, True.intro, fun od => ?_⟩
    have vwL := view_lock (o := od) op2 vw
    have pd : p ≠ d1 := by rintro rfl; rw [h1] at op2; cases op2
    have qd : pv0 ≠ d1 := by rintro rfl; rw [op1] at op2; cases op2
    have hpL : upd H d1 (.frz od (.dK k0)) p = some (.ins Cp dx [("web", v0), ("view", .ref pv0), ("rounds", vr)]) := by rw [upd_ne pd]; exact h1
    have hqL : upd H d1 (.frz od (.dK k0)) pv0 = some (.ins C dx' [("many", .int (B'.many : Int)), ("led_by", .ref d1), ("true_at", .ref d2)]) := by rw [upd_ne qd]; exact op1
    have tvL : TD K (upd H d1 (.frz od (.dK k0))) v (dNats c) := tv.mono (kt_lock op2)
    have back : ∀ {H' : Hp}, Ex (upd H d1 (.frz od (.dK k0))) H' → Ex H (upd H' d1 (.dK k0)) := fun e => ex_unlock op2 e
    have vev : ∀ {σ : L2.St} {H1 : Hp}, σ[0]? = some (some (.ref p)) → Ex (upd H d1 (.frz od (.dK k0))) H1 → Ev (tFld K (tVar 0) "view") σ H1 (.ref pv0) := fun hs e => ev_view (e _ _ hpL) PC (ev_var hs)
    have dsrc : Src (fun _ H' => H' d1 = some (.frz od (.dK k0))) K (iKeys (tFld K (tFld K (tVar 0) "view") "led_by")) (start ["self", "classes", "one", "other", "hand", "met", "end"] [.ref p, v, .int (x : Int), .int (y : Int)]) (upd H d1 (.frz od (.dK k0))) ((hands B').map PyData.str) :=
      src_keys (fun H1 e1 Q1 q1 => vev rfl (Ex.refl _) H1 e1 _ fun H2 e2 => ⟨pv0, C, dx', _, _, rfl, (e1.trans e2) _ _ hqL, VC.cl, VC.n2, rfl, q1 H2 e2⟩) upd_same op3
    refine s_for (K := K) dsrc (fun _ i σ H' => (∃ a b e, σ = [some (.ref p), some v, some (.int (x : Int)), some (.int (y : Int)), a, b, e]) ∧ Ex (upd H d1 (.frz od (.dK k0))) H' ∧ ∀ h ∈ (hands B').take i, ∀ z ∈ ends B' h x, c.getD z 0 ∈ (ends B' h y).map fun z => c.getD z 0) (fun H1 e1 => ⟨⟨none, none, none, rfl⟩, e1, by simp⟩) (fun _ i σ H' q => q.2.1 _ _ upd_same) ?_ ?_
    · rintro H1 i d u σ' H2 H3 e1 hd ⟨⟨a, b, e, rfl⟩, e2, ch⟩ e3 tu
      rw [List.getElem?_map] at hd
      cases hhi : (hands B')[i]? with
      | none => rw [hhi] at hd; cases hd
      | some h =>
        rw [hhi] at hd
        cases hd
        obtain rfl := tu.strI
        have E3 := e2.trans e3
        have hm := List.mem_of_getElem? hhi
        have clz : ∀ {g z : Nat}, z ∈ ends B' h g → z < c.length := fun hz => by rw [cl]; exact ok.wf.ends hz
        refine q_asgLd (K := K) (eld_lcA (K := K) (l := ends B' h y) (enc := fun (z : Nat) => PyData.int (z : Int)) (fun z => .int (c.getD z 0 : Nat)) (src_il (eil_led (E := E0) (vwL.ex E3) (vev rfl E3) (ev_var rfl) (ev_var rfl))) (by have := ok.ends_len h y; omega) fun z hz q H4 Q4 e4 tq kq => ?_) fun M xs ds H4 nM e4 hM txs hds => ?_
        · obtain rfl := tq.intI
          exact kq _ rfl (ed_i (ev_cls (ed_var rfl (tvL.ex (E3.trans e4))) (ev_var rfl) (clz hz)))
        · subst hds
          have hMi : IntsAt H4 M ((ends B' h y).map fun z => c.getD z 0) := by
            have e0 : ((ends B' h y).map fun z => PyData.int ((c.getD z 0 : Nat) : Int)) = (nats ((ends B' h y).map fun z => c.getD z 0)).map PyData.int := by
              unfold nats
              rw [List.map_map, List.map_map]
              rfl
            rw [e0] at txs
            obtain rfl := txs.ints
            exact hM
          have E4 := E3.trans e4
          dsimp only
          refine s_for (K := K) (src_il (eil_led (E := E0) (x := x) (h := h) (vwL.ex E4) (vev rfl E4) (ev_var rfl) (ev_var rfl))) (fun H5 j σ H' => (∃ e, σ = [some (.ref p), some v, some (.int (x : Int)), some (.int (y : Int)), some (.str h), some (.ref M), e]) ∧ Ex H5 H' ∧ Ex H4 H' ∧ ∀ z ∈ (ends B' h x).take j, c.getD z 0 ∈ (ends B' h y).map fun z => c.getD z 0) (fun H5 e5 => ⟨⟨_, rfl⟩, Ex.refl _, e5, by simp⟩) (fun H5 j σ H' q => q.2.1) ?_ ?_
          · rintro H5 j d q σ' H6 H7 e5 hd ⟨⟨e, rfl⟩, e5', e6, cz⟩ e7 tq
            rw [List.getElem?_map] at hd
            cases hzj : (ends B' h x)[j]? with
            | none => rw [hzj] at hd; cases hd
            | some z =>
              rw [hzj] at hd
              cases hd
              obtain rfl := tq.intI
              have hz := List.mem_of_getElem? hzj
              have E7 := E4.trans (e6.trans e7)
              refine s_when (b := !decide (c.getD z 0 ∈ (ends B' h y).map fun z => c.getD z 0)) (et_test (ev_ninL (ev_cls (ed_var rfl (tvL.ex E7)) (ev_var rfl) (clz hz)) (ev_var rfl) ((e6.trans e7) _ _ hMi))) (fun hb H8 e8 => ?_) fun hb H8 e8 => ?_
              · refine s_retD (K := K) (ed_tup (eds_c (ed_s (ev_var rfl)) (eds_c (ed_i (ev_var rfl)) eds_nil)) (by simp)) fun v9 d9 H9 e9 t9 p9 => ?_
                subst p9
                have E9 := E7.trans (e8.trans e9)
                exact ⟨E9 _ _ upd_same, k2 v9 _ h z (back E9) (t9.mono (kt_unlock (E9 _ _ upd_same))) hm hz (by simpa using hb)⟩
              · refine ⟨⟨_, rfl⟩, e5'.trans (e7.trans e8), e6.trans (e7.trans e8), fun z' hz' => ?_⟩
                rw [List.take_add_one, hzj] at hz'
                rcases List.mem_append.mp hz' with g | g
                · exact cz z' g
                · have : z' = z := by simpa using g
                  subst this
                  simpa using hb
          · rintro H5 σ' H6 e5 ⟨⟨e, rfl⟩, e5', e6, cz⟩
            rw [List.length_map, List.take_length] at cz
            refine ⟨⟨_, _, _, rfl⟩, E4.trans e6, fun h1 hh1 z hz => ?_⟩
            rw [List.take_add_one, hhi] at hh1
            rcases List.mem_append.mp hh1 with g | g
            · exact ch h1 g z hz
            · have : h1 = h := by simpa using g
              subst this
              exact cz z hz
    · rintro H1 σ' H2 e1 ⟨⟨a, b, e, rfl⟩, e2, ch⟩
      rw [List.length_map, List.take_length] at ch
      exact ⟨e2 _ _ upd_same, k1 _ (back e2) ch⟩
end
end K33
set_option autoImplicit false
set_option Elab.async false
set_option linter.all false
set_option maxRecDepth 100000
set_option maxHeartbeats 4000000
namespace K33
open PySem PySem.Spec PyProof.Rows L2 Evl
/-- the rows part two worlds at j or earlier -/
def Apart (rs : List (List Nat)) (j x y : Nat) : Prop := ∃ n, n ≤ j ∧ n < rs.length ∧ (rs.getD n []).getD x 0 ≠ (rs.getD n []).getD y 0
def rNotNo : R2 := fun x y H Q => y = .non ∧ Q (.bl (!decide (x = .non))) H
def rIsNo : R2 := fun x y H Q => y = .non ∧ Q (.bl (decide (x = .non))) H
theorem k_notNo {X : Cx} : OpR X (compareOp .IsNot) rNotNo := op_notN
theorem k_isNo {X : Cx} : OpR X (compareOp .Is) rIsNo := op_isN
theorem ev_notNo {σ : L2.St} {H : Hp} {ta : TE} {v : L2.V} (h : Ev ta σ H v) : Ev (tOp rNotNo ta (tC .non)) σ H (.bl (!decide (v = .non))) := fun H1 e Q q => h H1 e _ fun H2 e2 => ⟨rfl, q H2 e2⟩
theorem ev_isNo {σ : L2.St} {H : Hp} {ta : TE} {v : L2.V} (h : Ev ta σ H v) : Ev (tOp rIsNo ta (tC .non)) σ H (.bl (decide (v = .non))) := fun H1 e Q q => h H1 e _ fun H2 e2 => ⟨rfl, q H2 e2⟩
theorem k_notInD (K : PySem.W.Frag) {X : Cx} (hu : X.A.units + 65 < cLine) (h : X.K = K := by rfl) : OpR X (compareOp .NotIn) (rNotInD K) := h ▸ op_notInD hu
section
variable {P : Program} {w : World} {K : PySem.W.Frag} {mg : Str → Option Value} {base : Heap} {C Cp : Addr}
abbrev sp_maypart (K : PySem.W.Frag) (C Cp : Addr) (j : Nat) : Sp := fun vs H Q _ => ∃ (p : Addr) (m : Nat) (B : Web Str) (rs : List (List Nat)) (h : Str) (z : Nat) (a : Addr) (os : List Nat), vs = [.ref p, .str h, .int (z : Int), .ref a] ∧ ParterAt K C Cp H p m B rs ∧ IntsAt H a os ∧ WordOk h ∧ z < B.many ∧
  (∀ o ∈ os, o < B.many ∧ Apart rs j z o) ∧ os.length ≤ 49 ∧
  ∀ v H' l, Ex H H' → TD K H' v (dSay (.may h (.conj l))) → Good WordOk (3 * j + 4) (.may h (.conj l)) → (∀ s ∈ l, Holds B s z = true) → (∀ o ∈ os, ∃ s ∈ l, Holds B s o = false) → Q v H'
abbrev sp_parting (K : PySem.W.Frag) (C Cp : Addr) (j : Nat) : Sp := fun vs H Q _ => ∃ (p : Addr) (m : Nat) (B : Web Str) (rs : List (List Nat)) (x y : Nat), vs = [.ref p, .int (x : Int), .int (y : Int)] ∧ ParterAt K C Cp H p m B rs ∧ x < B.many ∧ y < B.many ∧ Apart rs j x y ∧
  ∀ v H' s, Ex H H' → TD K H' v (dSay s) → Good WordOk (3 * j + 2) s → Parts B s x y → Q v H'
theorem has_maypart (D : MethAt K Cp "may_part" "Parter.may_part" st_Parter_may_part ["self", "hand", "end", "ends"]) (B : Blt mg) (PC : ParterC K Cp) {j k0 : Nat} (hj : j ≤ 7) (GP : HasM P w K mg base CX0 k0 Cp "parting" ["self", "one", "other"] (sp_parting K C Cp j)) : HasM P w K mg base CX0 (k0 + 1) Cp "may_part" ["self", "hand", "end", "ends"] (sp_maypart K C Cp j) := by
  refine D.ok sc_Parter_may_part (fun vs H Q E h => ?_) (fun f cdv A outer s H vs Q E hr h => ?_)
  · obtain ⟨p, m, B, rs, h, z, a, os, rfl, _⟩ := h
    rfl
  · obtain ⟨p, m, B', rs, h, z, a, os, rfl, t, ha, hw, hz, ap, oz, k⟩ := h
    have nd := sc_Parter_may_part.nd
    have hu : (A.deeper (envOfC "Parter.may_part" (defScope st_Parter_may_part) s.heap.objs.size f cdv)).units + 65 < cLine := by have := hr.un; omega
    refine ⟨_, pss_cons (ps_set (i := 4) nd rfl (.inl rfl) (pe_lst pa_nil))
      (pss_cons (ps_for PassesOwn.never rfl (k_pil K (pv 3)) (pg_name (i := 5) nd rfl (.inl rfl))
        (pss_cons (ps_set (i := 6) nd rfl (.inl rfl) (pe_hasM PC.cl GP hr (pv 0) pass0 (pa_cons (pv 2) (pa_cons (pv 5) pa_nil))))
        (pss_one (ps_if (pt_cmpR (k_notInD K hu) (pv 6) (pv 4) (by rfl)) (pss_one (ps_expr (pe_bm PySem.F.plainAttrs_list PySem.F.slot_list_append PySem.F.type_list_append mt_append (pv 4) (pa_cons (pv 6) pa_nil)))) pss_nil))))
      (pss_one (ps_ret (pe_tup (pa_cons pe_str (pa_cons (pv 1) (pa_cons (pe_tup (pa_cons pe_str (pa_cons (pe_callTy (k_tuple K) (by rfl) B.b_tuple (by decide +kernel) (pa_cons (pv 4) pa_nil)) pa_nil))) pa_nil))))))), ?_⟩
    refine q_asgL (el_lst ea_nil (by simp)) fun F H1 nF e1 hF => ?_
    refine q_for (K := K) (src_lstK (H0 := H) (ev_var rfl) (sq_of ha) ints_td e1) (fun _ i σ H' => (∃ b c, σ = [some (.ref p), some (.str h), some (.int (z : Int)), some (.ref a), some (.ref F), b, c]) ∧ Ex H H' ∧ ∃ (xs : List L2.V) (l : List (Say Str)), H' F = some (.lst xs) ∧ TDs K H' xs (l.map dSay) ∧ l.length ≤ i ∧ (∀ s ∈ l, Good WordOk (3 * j + 2) s ∧ Holds B' s z = true) ∧ ∀ o ∈ os.take i, ∃ s ∈ l, Holds B' s o = false)
      (fun H2 e2 => ⟨⟨none, none, rfl⟩, e1.trans e2, [], [], e2 _ _ hF, .nil, Nat.le_refl _, (fun s hs => nomatch hs), by simp⟩) (fun _ i σ H' q => q.2.1) ?_ ?_
    · rintro H2 i d u σ' H3 H4 e2 hd ⟨⟨b, c, rfl⟩, e3, xs, l, hl, txs, ll, lg, lo⟩ e4 tu
      rw [List.getElem?_map] at hd
      cases hoi : os[i]? with
      | none => rw [hoi] at hd; cases hd
      | some o =>
        rw [hoi] at hd
        cases hd
        obtain rfl := tu.intI
        obtain ⟨ol, oa⟩ := ap o (List.mem_of_getElem? hoi)
        have il := (List.getElem?_eq_some_iff.mp hoi).1
        have E4 := e3.trans e4
        obtain ⟨dx, v0, pv0, vr, h1, _⟩ := (t.ex E4).ob
        refine q_raw ?_
        refine ⟨_, rfl, p, dx, _, rfl, h1, by rfl, _, rfl, _, rfl, p, m, B', rs, z, o, rfl, t.ex E4, hz, ol, oa, fun v H5 s1 e5 t5 g5 p5 => ?_⟩
        have hl5 : H5 F = some (.lst xs) := e5 _ _ (e4 _ _ hl)
        have tk : os.take (i + 1) = os.take i ++ [o] := by rw [List.take_add_one, hoi]; rfl
        have sl : Shp (2 * (3 * j + 2)) (dSay s1) := shp_say g5
        have shl : SeqAt.shaped (.list (l.map dSay)) = true := (shp_list (n := 2 * (3 * j + 2)) fun d hd => by
          obtain ⟨s2, hs2, rfl⟩ := List.mem_map.mp hd
          exact shp_say (lg s2 hs2).1).shaped (by omega)
        have anyI : ((l.map dSay).any fun x => PyData.eqv x (dSay s1)) = true ↔ s1 ∈ l := by
          rw [List.any_eq_true]
          constructor
          · rintro ⟨d, hd, e⟩
            obtain ⟨s2, hs2, rfl⟩ := List.mem_map.mp hd
            rw [← eqv_say s2 s1 e]
            exact hs2
          · intro hs
            exact ⟨_, List.mem_map.mpr ⟨s1, hs, rfl⟩, eqv_self _ (pl_say s1)⟩
        refine s_when (b := !((l.map dSay).any fun x => PyData.eqv x (dSay s1))) (et_test fun H6 e6 Q6 q6 => ⟨_, rfl, _, rfl, dSay s1, l.map dSay, (t5.ex e6).toDp, .lst (sq_of (e6 _ _ hl5)) (txs.ex (e4.trans (e5.trans e6))).dp, sl.shaped (by omega), shl, q6 H6 (Ex.refl _)⟩) (fun hb H6 e6 => ?_) fun hb H6 e6 => ?_
        · have yl := txs.len
          rw [List.length_map] at yl
          refine s_app (e6 _ _ hl5) (ev_var rfl) (ev_var (v := v) rfl) (by omega) fun H7 e7 => ?_
          have hl7 : H7 F = some (.lst xs) := e7 _ _ (e6 _ _ hl5)
          have kt : Kt H7 (upd H7 F (.lst (xs ++ [v]))) := Kt.upd hl7 rfl
          refine ⟨⟨_, _, rfl⟩, Ex.mut (E4.trans (e5.trans (e6.trans e7))) nF, xs ++ [v], l ++ [s1], upd_same, by rw [List.map_append]; exact ((txs.ex (e4.trans (e5.trans (e6.trans e7)))).mono kt).snoc ((t5.ex (e6.trans e7)).mono kt), by simp; omega, fun s2 hs2 => ?_, fun o2 ho2 => ?_⟩
          · rcases List.mem_append.mp hs2 with g | g
            · exact lg s2 g
            · rw [List.mem_singleton.mp g]
              exact ⟨g5, p5.1⟩
          · rw [tk] at ho2
            rcases List.mem_append.mp ho2 with g | g
            · obtain ⟨s2, h2, h3⟩ := lo o2 g
              exact ⟨s2, List.mem_append_left _ h2, h3⟩
            · rw [List.mem_singleton.mp g]
              exact ⟨s1, by simp, p5.2⟩
        · have hm : s1 ∈ l := anyI.mp (by simpa using hb)
          refine ⟨⟨_, _, rfl⟩, E4.trans (e5.trans e6), xs, l, e6 _ _ hl5, txs.ex (e4.trans (e5.trans e6)), by omega, lg, fun o2 ho2 => ?_⟩
          rw [tk] at ho2
          rcases List.mem_append.mp ho2 with g | g
          · exact lo o2 g
          · rw [List.mem_singleton.mp g]
            exact ⟨s1, hm, p5.2⟩
    · rintro H2 σ' H3 e2 ⟨⟨b, c, rfl⟩, e3, xs, l, hl, txs, ll, lg, lo⟩
      rw [List.length_map] at ll lo
      rw [List.take_length] at lo
      refine s_retD (K := K) (P := (· = dSay (.may h (.conj l)))) ((ed_tup (eds_c ed_str (eds_c (ed_s (ev_var rfl)) (eds_c (ed_tup (eds_c ed_str (eds_c (ed_tupleL (ev_var rfl) (sq_of hl) txs) eds_nil)) (by simp)) eds_nil))) (by simp)).imp fun d hd => by rw [hd, dSay_may, dSay_conj]) fun v9 d9 H9 e9 t9 p9 => ?_
      subst p9
      exact k v9 H9 l (e3.trans e9) t9 ((Good.may hw (.conj (by omega) fun s hs => (lg s hs).1)).mono (by omega)) (fun s hs => (lg s hs).2) lo
theorem has_parting_succ (D : MethAt K Cp "parting" "Parter.parting" st_Parter_parting ["self", "one", "other"]) (B : Blt mg) (VC : ViewC K C) (PC : ParterC K Cp) {j k0 : Nat} (hk : 2 ≤ k0) (GR : HasM P w K mg base CX0 1 Cp "round_of" ["self", "one", "other"] (sp_roundof K C Cp)) (GB : HasM P w K mg base CX0 2 Cp "by_letter" ["self", "one", "other"] (sp_byletter K C Cp))
    (GU : HasM P w K mg base CX0 2 Cp "unled" ["self", "classes", "one", "other"] (sp_unled K C Cp)) (GL : HasM P w K mg base CX0 1 C "led_from" ["self", "hand", "world"] (sp_led_from K C)) {spm : Sp} (GM : HasM P w K mg base CX0 k0 Cp "may_part" ["self", "hand", "end", "ends"] spm) (hm : ∀ vs H Q E, 0 < j → sp_maypart K C Cp (j - 1) vs H Q E → spm vs H Q E) :
    HasM P w K mg base CX0 (k0 + 1) Cp "parting" ["self", "one", "other"] (sp_parting K C Cp j) := by
  refine D.ok sc_Parter_parting (fun vs H Q E h => ?_) (fun f cdv A outer s H vs Q E hr h => ?_)
  · obtain ⟨p, m, B, rs, x, y, rfl, _⟩ := h
    rfl
  · obtain ⟨p, m, B', rs, x, y, rfl, t, hx, hy, ⟨n0, n0j, n0l, n0d⟩, k⟩ := h
    have nd := sc_Parter_parting.nd
    refine ⟨_, pss_cons (ps_set (i := 3) nd rfl (.inl rfl) (pe_hasM PC.cl GR (hr.mono (by omega)) (pv 0) pass0 (pa_cons (pv 1) (pa_cons (pv 2) pa_nil))))
      (pss_cons (ps_if (pt_cmpR op_eq (pv 3) pe_int (nomark _)) (pss_one (ps_ret (pe_hasM PC.cl GB (hr.mono (by omega)) (pv 0) pass0 (pa_cons (pv 1) (pa_cons (pv 2) pa_nil))))) pss_nil)
      (pss_cons (ps_set (i := 4) nd rfl (.inl rfl) (pe_ix (k_ixT K) (k_fld K (pv 0)) (pe_op op_sub (pv 3) pe_int) (fun _ _ => rfl)))
      (pss_cons (ps_set (i := 5) nd rfl (.inl rfl) (pe_hasM PC.cl GU (hr.mono (by omega)) (pv 0) pass0 (pa_cons (pv 4) (pa_cons (pv 1) (pa_cons (pv 2) pa_nil)))))
      (pss_cons (ps_if (pt_cmpR k_notNo (pv 5) pe_non (nomark _)) (pss_one (ps_ret (pe_hasM PC.cl GM hr (pv 0) pass0 (pa_cons (pe_ix (k_ixT K) (pv 5) pe_int (fun _ _ => rfl)) (pa_cons (pe_ix (k_ixT K) (pv 5) pe_int (fun _ _ => rfl))
          (pa_cons (pe_hasM VC.cl GL (hr.mono (by omega)) (k_fld K (pv 0)) pass0 (pa_cons (pe_ix (k_ixT K) (pv 5) pe_int (fun _ _ => rfl)) (pa_cons (pv 2) pa_nil))) pa_nil)))))) pss_nil)
      (pss_cons (ps_asg (pe_hasM PC.cl GU (hr.mono (by omega)) (pv 0) pass0 (pa_cons (pv 4) (pa_cons (pv 2) (pa_cons (pv 1) pa_nil)))) (k_tup K 2 rfl (pgs_cons (pg_name (i := 6) nd rfl (.inl rfl)) (pgs_cons (pg_name (i := 7) nd rfl (.inl rfl)) pgs_nil))))
      (pss_one (ps_ret (pe_tup (pa_cons pe_str (pa_cons (pe_hasM PC.cl GM hr (pv 0) pass0 (pa_cons (pv 6) (pa_cons (pv 7) (pa_cons (pe_hasM VC.cl GL (hr.mono (by omega)) (k_fld K (pv 0)) pass0 (pa_cons (pv 6) (pa_cons (pv 1) pa_nil))) pa_nil)))) pa_nil)))))))))), ?_⟩
    have wf := t.ok.wf
    have R := t.R
    have att : ∀ {H1 : Hp}, Ex H H1 → ∃ dx fs, H1 p = some (.ins Cp dx fs) ∧ (∀ {z : Str}, z = "round_of" ∨ z = "by_letter" ∨ z = "unled" ∨ z = "may_part" → fs.lookup z = none) ∧ ∃ pv0, (∀ {σ : L2.St} {H2 : Hp}, σ[0]? = some (some (.ref p)) → Ex H1 H2 → Ev (tFld K (tVar 0) "view") σ H2 (.ref pv0)) ∧ ViewAt K C H1 pv0 B' := fun {H1} e => by
      obtain ⟨dx, v0, pv0, vr, h1, h2, vw, op, h5⟩ := (t.ex e).ob
      exact ⟨dx, _, h1, fun hz => by rcases hz with rfl | rfl | rfl | rfl <;> rfl, pv0, fun hs e2 => ev_view (e2 _ _ h1) PC (ev_var hs), vw⟩
    refine q_raw ?_
    obtain ⟨dx0, fs0, hp0, lk0, _⟩ := att (Ex.refl H)
    refine ⟨_, rfl, p, dx0, fs0, rfl, hp0, lk0 (.inl rfl), _, rfl, _, rfl, p, m, B', rs, x, y, rfl, t, hx, hy, fun n H1 e1 nl nd' nb => ?_, fun H1 e1 all => (n0d (all n0 n0l)).elim⟩
    have nn : n ≤ n0 := Nat.le_of_not_lt fun q => n0d (nb n0 q)
    refine q_when (b := decide (n = 0)) (et_test (ev_eqI (i := (n : Int)) (j := 0) (ev_var rfl) ev_c (by
      by_cases e : n = 0
      · rw [e]; rfl
      · rw [decide_eq_false e, decide_eq_false (by omega)]))) (fun hb H2 e2 => ?_) fun hb H2 e2 => ?_
    · have hb := of_decide_eq_true hb
      subst hb
      obtain ⟨dx1, fs1, hp1, lk1, _⟩ := att (e1.trans e2)
      have dif : ∃ z, ¬ (x ∈ getL B'.marks z ↔ y ∈ getL B'.marks z) := Classical.byContradiction fun q => nd' ((R.fst.eq x y hx hy).mpr fun z => Classical.byContradiction fun q2 => q ⟨z, q2⟩)
      exact ⟨_, rfl, p, dx1, fs1, rfl, hp1, lk1 (.inr (.inl rfl)), _, rfl, _, rfl, p, m, B', rs, x, y, rfl, t.ex (e1.trans e2), dif, fun v H3 s e3 t3 g3 p3 => k v H3 s (e1.trans (e2.trans e3)) t3 (g3.mono (by omega)) p3⟩
    · have hb : n ≠ 0 := of_decide_eq_false hb
      have E2 := e1.trans e2
      have nx := (R.nxt (n - 1) (by omega)).1
      rw [show n - 1 + 1 = n by omega] at nx
      obtain ⟨r1, r2⟩ := rounds_at R (n := n - 1) (by omega)
      have same := nb (n - 1) (by omega)
      refine q_asgD (K := K) (P := (· = dNats (rs.getD (n - 1) []))) (ed_ix (i := n - 1) ((t.ex E2).rounds PC (ev_var rfl)) (ev_is (ev_op (ev_var (v := .int (n : Int)) rfl) ev_c rv_I0) (by congr 1; omega)) (by rw [List.getElem?_map, r1]; rfl)) fun vc dc H3 e3 t3 p3 => ?_
      subst p3
      generalize hc : rs.getD (n - 1) [] = c at *
      have notSame : ¬ SameC B' c x y := fun q => nd' ((nx.eq x y hx hy).mpr ⟨same, q⟩)
      have E3 := E2.trans e3
      obtain ⟨dx3, fs3, hp3, lk3, pv3, ve3, vw3⟩ := att E3
      -- may_part, as it is asked for
      have may : ∀ (a b h z : _) (H4 : Hp) (l0 : Addr) (Q4 : VK), a < B'.many → b < B'.many → Ex H H4 → h ∈ hands B' → z ∈ ends B' h a → (c.getD z 0 ∉ (ends B' h b).map fun z => c.getD z 0) → IntsAt H4 l0 (ends B' h b) →
          (∀ v H5 s, Ex H4 H5 → TD K H5 v (dSay s) → Good WordOk (3 * j + 1) s → Parts B' s a b → Q4 v H5) → spm [.ref p, .str h, .int (z : Nat), .ref l0] H4 Q4 E0 := fun a b h z H4 l0 Q4 ha hb2 e4 hh hz hn hl hq => by
        refine hm _ _ _ _ (by omega) ⟨p, m, B', rs, h, z, l0, ends B' h b, rfl, t.ex e4, hl, hw_ok h (t.ok.hnd h hh), wf.ends hz, fun o ho => ⟨wf.ends ho, n - 1, by omega, by omega, ?_⟩, t.ok.ends_len h b, fun v H5 l e5 t5 g5 q1 q2 => hq v H5 _ e5 t5 (g5.mono (by omega)) (parts_may hz q1 q2)⟩
        rw [hc]
        exact fun q => hn (List.mem_map.mpr ⟨o, ho, q.symm⟩)
      refine q_raw ?_
      refine ⟨_, rfl, p, dx3, fs3, rfl, hp3, lk3 (.inr (.inr (.inl rfl))), _, rfl, _, rfl, _, rfl, p, m, B', rs, x, y, c, vc, rfl, t.ex E3, t3, r2, fun H4 e4 none1 => ?_, fun vl H4 h z e4 t4 hh hz hn => ?_⟩
      · -- none: the other way about
        refine q_when (b := false) (et_test (ev_notNo (v := .non) (ev_var rfl))) (fun q => nomatch q) fun _ H5 e5 => ?_
        have E5 := E3.trans (e4.trans e5)
        obtain ⟨dx5, fs5, hp5, lk5, pv5, ve5, vw5⟩ := att E5
        refine ⟨_, rfl, p, dx5, fs5, rfl, hp5, lk5 (.inr (.inr (.inl rfl))), _, rfl, _, rfl, _, rfl, p, m, B', rs, y, x, c, vc, rfl, t.ex E5, t3.ex (e4.trans e5), r2, fun H6 e6 none2 => ?_, fun vl H6 h z e6 t6 hh hz hn => ?_⟩
        · exact (notSame fun h hh a => by
            constructor
            · intro ha
              obtain ⟨z, hz, rfl⟩ := List.mem_map.mp ha
              exact none1 h hh z hz
            · intro ha
              obtain ⟨z, hz, rfl⟩ := List.mem_map.mp ha
              exact none2 h hh z hz).elim
        · refine tg_pair t6 fun v1 v2 t1 t2 => ?_
          obtain rfl := t1.strI
          obtain rfl := t2.intI
          have E6 := E5.trans e6
          dsimp only
          refine s_retD (K := K) (P := fun d => ∃ s, d = dSay (.neg s) ∧ Good WordOk (3 * j + 1) s ∧ Parts B' s y x) ((ed_tupP (R := fun l => ∃ s, l = [.str "not", dSay s] ∧ Good WordOk (3 * j + 1) s ∧ Parts B' s y x) (fun H7 e7 Q7 q7 => ?_) (by rintro l ⟨s, rfl, _⟩; simp)).imp fun d ⟨l, h1, s, h2, h3⟩ => ⟨s, by rw [h1, h2, dSay_neg], h3⟩) fun v9 d9 H9 e9 t9 p9 => ?_
          · obtain ⟨dx7, fs7, hp7, lk7, pv7, ve7, vw7⟩ := att (E6.trans e7)
            refine ⟨_, rfl, p, dx7, fs7, rfl, hp7, lk7 (.inr (.inr (.inr rfl))), _, rfl, _, rfl, ?_⟩
            refine eil_led (E := E0) (x := x) (h := h) vw7 (ve7 rfl (Ex.refl _)) (ev_var rfl) (ev_var rfl) H7 (Ex.refl _) _ fun l0 H8 e8 hl => ?_
            exact may y x h z H8 l0 _ hy hx (E6.trans (e7.trans e8)) hh hz hn hl fun v H10 s e10 t10 g10 p10 => q7 _ _ [.str "not", dSay s] (e8.trans e10) (.cons (.str _) (.cons t10 .nil)) ⟨s, rfl, g10, p10⟩
          · obtain ⟨s, rfl, g, pp⟩ := p9
            exact k v9 H9 (.neg s) (E6.trans e9) t9 (.neg g) pp.neg
      · -- a step such as none
        have vne : vl ≠ .non := by
          obtain ⟨a, xs, rfl, _⟩ := t4.tupI
          exact fun q => nomatch q
        refine q_when (b := true) (et_is (et_test (ev_notNo (ev_var rfl))) (by simp [vne])) (fun _ H5 e5 => ?_) fun q => nomatch q
        have E5 := E3.trans (e4.trans e5)
        obtain ⟨dx5, fs5, hp5, lk5, pv5, ve5, vw5⟩ := att E5
        refine r_raw ?_
        refine ⟨_, rfl, p, dx5, fs5, rfl, hp5, lk5 (.inr (.inr (.inr rfl))), ?_⟩
        refine ed_ix (K := K) (i := 0) (d := .str h) (ed_var rfl (t4.ex e5)) ev_c rfl H5 (Ex.refl _) _ fun v6 H6 d6 e6 t6 p6 => ?_
        subst p6
        obtain rfl := t6.strI
        refine ed_ix (K := K) (i := 1) (d := .int (z : Nat)) (ed_var rfl (t4.ex (e5.trans e6))) ev_c rfl H6 (Ex.refl _) _ fun v7 H7 d7 e7 t7 p7 => ?_
        subst p7
        obtain rfl := t7.intI
        have E7 := E5.trans (e6.trans e7)
        refine eil_led (E := E0) (x := y) (h := h) (vw5.ex (e6.trans e7)) (ve5 rfl (e6.trans e7)) (ev_str (ed_ix (K := K) (i := 0) (ed_var rfl (t4.ex (e5.trans (e6.trans e7)))) ev_c rfl)) (ev_var rfl) H7 (Ex.refl _) _ fun l0 H8 e8 hl => ?_
        exact may x y h z H8 l0 _ hx hy (E7.trans e8) hh hz hn hl fun v H10 s e10 t10 g10 p10 => k v H10 s (E7.trans (e8.trans e10)) t10 (g10.mono (by omega)) p10
end
end K33
set_option autoImplicit false
set_option Elab.async false
set_option linter.all false
set_option maxRecDepth 100000
set_option maxHeartbeats 4000000
namespace K33
open PySem PySem.Spec PyProof.Rows L2 Evl
section
variable {P : Program} {w : World} {K : PySem.W.Frag} {mg : Str → Option Value} {base : Heap} {C Cp : Addr}
theorem has_parting (DM : MethAt K Cp "may_part" "Parter.may_part" st_Parter_may_part ["self", "hand", "end", "ends"]) (D : MethAt K Cp "parting" "Parter.parting" st_Parter_parting ["self", "one", "other"]) (B : Blt mg) (VC : ViewC K C) (PC : ParterC K Cp) (GR : HasM P w K mg base CX0 1 Cp "round_of" ["self", "one", "other"] (sp_roundof K C Cp)) (GB : HasM P w K mg base CX0 2 Cp "by_letter" ["self", "one", "other"] (sp_byletter K C Cp))
    (GU : HasM P w K mg base CX0 2 Cp "unled" ["self", "classes", "one", "other"] (sp_unled K C Cp)) (GL : HasM P w K mg base CX0 1 C "led_from" ["self", "hand", "world"] (sp_led_from K C)) : ∀ j, j ≤ 7 → HasM P w K mg base CX0 (2 * j + 3) Cp "parting" ["self", "one", "other"] (sp_parting K C Cp j)
  | 0, _ => has_parting_succ D B VC PC (k0 := 2) (by omega) GR GB GU GL (spm := fun _ _ _ _ => False) (DM.vac 2 fun _ _ _ _ h => h) fun _ _ _ _ h _ => absurd h (by omega)
  | j + 1, h => has_parting_succ D B VC PC (k0 := 2 * j + 4) (by omega) GR GB GU GL (has_maypart DM B PC (j := j) (k0 := 2 * j + 3) (by omega) (has_parting DM D B VC PC GR GB GU GL j (by omega))) fun _ _ _ _ _ q => q
abbrev sp_psaying (K : PySem.W.Frag) : Sp := fun vs H Q _ => ∃ (m n : Nat) (W V : Web Str) (v u : L2.V) (x y : Nat), vs = [v, .int (x : Int), u, .int (y : Int)] ∧ TwoAt K H v u m n W V x y ∧
  (∀ H', Ex H H' → Alike W V x y → Q .non H') ∧ ∀ v' H' s, Ex H H' → TD K H' v' (dSay s) → Good WordOk 20 s → Holds W s x = true → Holds V s y = false → Q v' H'
theorem has_psaying (D : DefAt K mg "parting_saying" st_parting_saying ["web", "world", "other", "second"]) (PC : ParterC K Cp) (GN : Has P w K mg base CX0 2 "need_both" ["web", "world", "other", "second"] (sp_needB K)) (GB : Has P w K mg base CX0 2 "both_webs" ["web", "other"] (sp_both K)) (GP : HasC P w K mg base CX0 6 "Parter" Cp ["self", "web"] (sp_parter K C Cp))
    (GR : HasM P w K mg base CX0 1 Cp "round_of" ["self", "one", "other"] (sp_roundof K C Cp)) (GT : HasM P w K mg base CX0 15 Cp "parting" ["self", "one", "other"] (sp_parting K C Cp 6)) : Has P w K mg base CX0 16 "parting_saying" ["web", "world", "other", "second"] (sp_psaying K) := by
  refine D.ok sc_parting_saying (fun vs H Q E h => ?_) (fun f cdv A outer s H vs Q E hr h => ?_)
  · obtain ⟨m, n, W, V, v, u, x, y, rfl, _⟩ := h
    rfl
  · obtain ⟨m, n, W, V, v, u, x, y, rfl, t, k1, k2⟩ := h
    have nd := sc_parting_saying.nd
    refine ⟨_, pss_cons (ps_expr (pe_has GN (hr.mono (by omega)) (by rfl) pass0 (pa_cons (pv 0) (pa_cons (pv 1) (pa_cons (pv 2) (pa_cons (pv 3) pa_nil))))))
      (pss_cons (ps_set (i := 4) nd rfl (.inl rfl) (pe_hasC GP (hr.mono (by omega)) (by rfl) pass0 (pa_cons (pe_has GB (hr.mono (by omega)) (by rfl) pass0 (pa_cons (pv 0) (pa_cons (pv 2) pa_nil))) pa_nil)))
      (pss_cons (ps_if (pt_cmpR k_isNo (pe_hasM PC.cl GR (hr.mono (by omega)) (pv 4) pass0 (pa_cons (pv 1) (pa_cons (pe_op op_add (pe_ix (k_ixT K) (pv 0) pe_int (fun _ _ => rfl)) (pv 3)) pa_nil))) pe_non (nomark _)) (pss_one (ps_ret pe_non)) pss_nil)
      (pss_one (ps_ret (pe_hasM PC.cl GT hr (pv 4) pass0 (pa_cons (pv 1) (pa_cons (pe_op op_add (pe_ix (k_ixT K) (pv 0) pe_int (fun _ _ => rfl)) (pv 3)) pa_nil))))))), ?_⟩
    refine ⟨_, rfl, _, rfl, _, rfl, _, rfl, W, V, v, u, x, y, rfl, t.tv, t.tu, t.hx, t.hy, fun H1 e1 => ?_⟩
    have t1 := t.ex e1
    dsimp only
    refine q_raw ?_
    refine ⟨_, rfl, _, rfl, m, n, W, V, v, u, rfl, t1.tv, t1.tu, t.oW, t.oV, t.le, fun vb H2 B' e2 tb ib okB => ?_⟩
    intro p dx np ndx ne
    have pos : 0 < B'.many := by rw [ib.many]; have := t.hx; omega
    refine ⟨p, dx, vb, m + n, B', rfl, upd_same, tb.mono ((Kt.new ndx).trans (Kt.new (by rw [upd_ne ne.symm]; exact np))), okB, pos, fun H3 rs kp pt => ⟨rfl, ?_⟩⟩
    have e3 : Ex H2 H3 := fun b ob hb => kp b ob (by rw [upd_ne (ne_of_none hb np), upd_ne (ne_of_none hb ndx)]; exact hb) (ne_of_none hb np)
    have E3 := e1.trans (e2.trans e3)
    have iff := alike_iff t.oW.wf t.oV.wf ib pt.R t.hx t.hy
    have hx : x < B'.many := by rw [ib.many]; have := t.hx; omega
    have hy : W.many + y < B'.many := by rw [ib.many]; have := t.hy; omega
    have rl : rs.length ≤ 7 := by
      have := pt.R.len pos
      have := okB.many
      have := okB.lim
      omega
    have look : ∀ {H4 : Hp}, Ex H3 H4 → ∃ dx fs, H4 p = some (.ins Cp dx fs) ∧ fs.lookup ("round_of" : Str) = none ∧ fs.lookup ("parting" : Str) = none := fun {H4} e => by
      obtain ⟨dx, v0, pv0, vr, h1, _⟩ := (pt.ex e).ob
      exact ⟨dx, _, h1, rfl, rfl⟩
    have sec : ∀ {σ : L2.St} {H4 : Hp}, σ[0]? = some (some v) → σ[3]? = some (some (.int (y : Int))) → Ex H3 H4 → Ev (tOp (rI0 fun i j => L2.V.int (i + j)) (tOp (rIxT K) (tVar 0) (tC (.int 0))) (tVar 3)) σ H4 (.int ((W.many + y : Nat) : Int)) := fun h0 h3 e4 => ev_addN (ev_many0 (ed_var h0 (t.tv.ex (E3.trans e4)))) (ev_var h3)
    -- whether a round parts them
    have test : ∀ b : Bool, (b = true ↔ Alike W V x y) → EvT (tTest (tOp rIsNo (tMeth Cp "round_of" (sp_roundof K C Cp) [] E0 (tVar 4) (tCons (tVar 1) (tCons (tOp (rI0 fun i j => L2.V.int (i + j)) (tOp (rIxT K) (tVar 0) (tC (.int 0))) (tVar 3)) tNil))) (tC .non))) [some v, some (.int (x : Int)), some u, some (.int (y : Int)), some (.ref p)] H3 b := fun b hb H4 e4 Q4 q4 => by
      obtain ⟨dx4, fs4, hp4, l1, l2⟩ := look e4
      refine ⟨_, rfl, p, dx4, fs4, rfl, hp4, l1, _, rfl, ?_⟩
      refine sec rfl rfl e4 H4 (Ex.refl _) _ fun H5 e5 => ?_
      refine ⟨p, m + n, B', rs, x, W.many + y, rfl, pt.ex (e4.trans e5), hx, hy, fun k H6 e6 hk hd _ => ⟨rfl, ?_⟩, fun H6 e6 all => ⟨rfl, ?_⟩⟩
      · refine ⟨_, rfl, ?_⟩
        have : b = false := by
          cases b with
          | false => rfl
          | true =>
            have al := iff.mpr (hb.mp rfl)
            exact (hd (pt.R.toRows.back (i := k) (j := rs.length - 1) (by omega) (by omega) hx hy al)).elim
        subst this
        exact q4 H6 (e5.trans e6)
      · refine ⟨_, rfl, ?_⟩
        have : b = true := hb.mpr (iff.mp (all (rs.length - 1) (by have := pt.R.pos; omega)))
        subst this
        exact q4 H6 (e5.trans e6)
    by_cases al : Alike W V x y
    · refine q_when (b := true) (test true ⟨fun _ => al, fun _ => rfl⟩) (fun _ H4 e4 => k1 H4 (E3.trans e4) al) fun q => nomatch q
    · refine q_when (b := false) (test false ⟨(fun q => nomatch q), fun q => (al q).elim⟩) (fun q => nomatch q) fun _ H4 e4 => ?_
      obtain ⟨dx4, fs4, hp4, l1, l2⟩ := look e4
      refine r_raw ?_
      refine ⟨_, rfl, p, dx4, fs4, rfl, hp4, l2, _, rfl, ?_⟩
      refine sec rfl rfl e4 H4 (Ex.refl _) _ fun H5 e5 => ?_
      refine ⟨p, m + n, B', rs, x, W.many + y, rfl, pt.ex (e4.trans e5), hx, hy, ⟨rs.length - 1, by omega, by have := pt.R.pos; omega, fun q => al (iff.mp q)⟩, fun v6 H6 s e6 t6 g6 pp => ?_⟩
      refine k2 v6 H6 s (E3.trans (e4.trans (e5.trans e6))) t6 g6 ?_ ?_
      · rw [ib.left t.oW.wf s t.hx]
        exact pp.1
      · rw [ib.right t.oW.wf t.oV.wf s t.hy]
        exact pp.2
end
end K33
set_option autoImplicit false
set_option Elab.async false
set_option linter.all false
set_option maxRecDepth 100000
set_option maxHeartbeats 4000000
namespace K33
open PySem PySem.Spec PyProof.Rows L2 Evl
section
variable {P : Program} {w : World} {K : PySem.W.Frag} {mg : Str → Option Value} {base : Heap}
theorem andor {σ : L2.St} {H : Hp} : ED K (tTup (tCons (tC (.str "and")) (tCons (tC (.str "or")) tNil))) σ H (· = .tuple ([("and" : Str), ("or" : Str)].map PyData.str)) := ed_tup (eds_c ed_str (eds_c ed_str eds_nil)) (by decide)
theorem ed_kd {σ : L2.St} {H : Hp} {tb : TE} {a : Addr} {x z : Str} (D : KDct K w a x (.str z)) (h : Ev tb σ H (.str x)) : ED K (tOp (rIxD K w) (tC (.ref a)) tb) σ H (· = .str z) := fun H1 e Q q =>
  h H1 e _ fun H2 e2 => ⟨a, x, .str z, rfl, rfl, D, q _ H2 _ e2 (.str z) rfl⟩
abbrev sp_pushed (K : PySem.W.Frag) (n : Nat) : Sp := fun vs H Q _ => ∃ (s : Say Str) (b : Bool), TDs K H vs [dSay s, .bool b] ∧ Good WordOk n s ∧ ∀ v H', Ex H H' → TD K H' v (dSay (push s b)) → Q v H'
theorem has_pushed (D : DefAt K mg "pushed" st_pushed ["saying", "is_so"]) (B : Blt mg) (C : Cst K w mg) : ∀ n, Has P w K mg base CX0 (n + 1) "pushed" ["saying", "is_so"] (sp_pushed K n) := by
  obtain ⟨aA, gA, kd1, kd2, kd3, kd4⟩ := C.about
  intro n
  induction n with
  | zero => exact D.vac _ fun vs H Q E ⟨s, b, _, g, _⟩ => good_no g
  | succ n ih =>
    refine D.ok sc_pushed (fun vs H Q E h => ?_) (fun f cdv A outer s H vs Q E hr h => ?_)
    · obtain ⟨s, b, t, _⟩ := h
      exact t.len
    · obtain ⟨s0, b, t, g, k⟩ := h
      have nd := sc_pushed.nd
      refine ⟨_, pss_cons (ps_asg (pv 0) (k_star K 3 2 rfl (pgs_cons (pg_name (i := 2) nd rfl (.inl rfl)) (pgs_cons (pg_name (i := 3) nd rfl (.inl rfl)) (pgs_star (pg_name (i := 4) nd rfl (.inl rfl)) pgs_nil))) (by decide)))
        (pss_cons (ps_if (pt_cmpR op_eq (pv 2) pe_str (nomark _)) (pss_one (ps_ret (pe_ifExp (pt_val (pv 1)) (pv 0) (pe_tup (pa_cons pe_str (pa_cons (pv 0) pa_nil)))))) pss_nil)
        (pss_cons (ps_if (pt_cmpR op_eq (pv 2) pe_str (nomark _)) (pss_one (ps_ret (pe_has ih hr (by rfl) pass0 (pa_cons (pv 3) (pa_cons (pe_not (pv 1)) pa_nil))))) pss_nil)
        (pss_cons (ps_if (pt_cmpR op_eq (pv 2) pe_str (nomark _)) pss_never pss_nil)
        (pss_cons (ps_set (i := 6) nd rfl (.inl rfl) (pe_ifExp (pt_val (pv 1)) (pv 2) (pe_ix ix_kdict (pe_glob (by rfl) gA (v := .ref aA) rfl) (pv 2) (fun _ _ => rfl))))
        (pss_cons (ps_if (pt_cmpR (k_in K) (pv 2) (pe_tup (pa_cons pe_str (pa_cons pe_str pa_nil))) (by rfl)) (pss_one (ps_ret (pe_tup (pa_cons (pv 6) (pa_cons (pe_callTy (k_tuple K) (by rfl) B.b_tuple (by decide +kernel) (pa_cons
            (pe_lc (own := [("one", 7)]) (g := gName 7) rfl nd (k_pit K (pv 3)) (blk (N := ["saying", "is_so", "word", "first", "rest", "both", "turned", "one"]) (sc := defScope st_pushed) (by decide +kernel)) (fun _ _ _ _ _ => pg_name (i := 7) nd rfl (.inl rfl)) (fun _ _ _ _ _ => pts_nil)
              (fun _ _ _ _ _ => pe_has ih hr (by rfl) pass0 (pa_cons (pv 7) (pa_cons (pv 1) pa_nil)))) pa_nil)) pa_nil))))) pss_nil)
        (pss_one (ps_ret (pe_tup (pa_cons (pv 6) (pa_cons (pv 3) (pa_cons (pe_has ih hr (by rfl) pass0 (pa_cons (pe_ix (k_ixL K) (pv 4) pe_int (fun _ _ => rfl)) (pa_cons (pv 1) pa_nil))) pa_nil))))))))))), ?_⟩
      obtain ⟨vs, r, rfl, ts, t⟩ := t.consI
      obtain ⟨vb, r, rfl, tb, t⟩ := t.consI
      cases t.nilI
      obtain rfl := tb.blI
      have call : ∀ {ta tc : TE} {σ : L2.St} {H1 : Hp} {s1 : Say Str} {c : Bool} {d : PyData}, ED K ta σ H1 (· = dSay s1) → Ev tc σ H1 (.bl c) → Good WordOk n s1 → d = dSay (push s1 c) → ED K (tCall (sp_pushed K n) [] E0 (tCons ta (tCons tc tNil))) σ H1 (· = d) := fun h1 h2 h3 h4 =>
        ed_callS (eds_c h1 (eds_c (ed_b h2) eds_nil)) fun vs H2 Q2 e2 ts2 q2 => ⟨_, _, ts2, h3, fun v H' e3 t3 => q2 v H' _ e3 t3 h4.symm⟩
      cases g with
      | @letter m z q =>
        have ts' := ts
        rw [dSay_letter] at ts
        refine ⟨_, rfl, g_star2 ts (by simp) fun v u p xs np tv tu txs => ?_⟩
        obtain rfl := tv.strI
        refine q_ifT (et_eqS (ev_var rfl) ev_c (by decide +kernel)) fun H1 e1 => ?_
        have e := (Ex.new (o := .lst xs) np).trans e1
        refine s_retD (K := K) (P := (· = dSay (push (.letter z) b))) (ed_ifB (et_bool (ev_var (v := .bl b) rfl)) (fun hb => ?_) fun hb => ?_) fun v d H2 e2 t2 p2 => ?_
        · subst hb
          have : push (.letter z) true = .letter z := by simp [push]
          rw [this]
          exact ed_var rfl (ts'.ex e)
        · subst hb
          have : dSay (push (.letter z) false) = .tuple [.str "not", dSay (.letter z)] := by simp [push, dSay_neg]
          rw [this]
          exact ed_tup (eds_c ed_str (eds_c (ed_var rfl (ts'.ex e)) eds_nil)) (by simp)
        · subst p2
          exact k v H2 (e.trans e2) t2
      | @neg m s1 q =>
        rw [dSay_neg] at ts
        refine ⟨_, rfl, g_star2 ts (by simp) fun v u p xs np tv tu txs => ?_⟩
        obtain rfl := tv.strI
        refine q_ifF (et_eqS (ev_var rfl) ev_c (by decide +kernel)) fun H1 e1 => ?_
        refine q_ifT (et_eqS (ev_var rfl) ev_c (by decide +kernel)) fun H2 e2 => ?_
        have e := (Ex.new (o := .lst xs) np).trans (e1.trans e2)
        refine s_retD (K := K) (P := (· = dSay (push (.neg s1) b))) (call (ed_var (v := u) rfl (tu.ex e)) (ev_notV (ev_var (v := .bl b) rfl)) q (by simp [push])) fun v d H3 e3 t3 p3 => ?_
        subst p3
        exact k v H3 (e.trans e3) t3
      | @conj m l z q =>
        rw [dSay_conj] at ts
        refine ⟨_, rfl, g_star2 ts (by simp) fun v u p xs np tv tu txs => ?_⟩
        obtain rfl := tv.strI
        refine q_ifF (et_eqS (ev_var rfl) ev_c (by decide +kernel)) fun H1 e1 => ?_
        refine q_ifF (et_eqS (ev_var rfl) ev_c (by decide +kernel)) fun H2 e2 => ?_
        refine q_ifF (et_eqS (ev_var rfl) ev_c (by decide +kernel)) fun H3 e3 => ?_
        refine q_asgD (K := K) (P := (· = .str (if b then "and" else "or"))) (ed_ifB (et_bool (ev_var (v := .bl b) rfl)) (fun hb => by subst hb; exact ed_s (ev_var rfl)) fun hb => by subst hb; exact ed_kd kd1 (ev_var rfl)) fun tv d H4 e4 t4 p4 => ?_
        subst p4
        obtain rfl := t4.strI
        refine q_ifT (et_inS (ev_var rfl) andor (by decide +kernel)) fun H5 e5 => ?_
        have e := (Ex.new (o := .lst xs) np).trans (e1.trans (e2.trans (e3.trans (e4.trans e5))))
        refine s_retD (K := K) (P := (· = dSay (push (.conj l) b))) ((ed_tup (eds_c (ed_s (ev_var rfl)) (eds_c (ed_tuple (eld_lcA (enc := dSay) (fun s1 => dSay (push s1 b)) (src_tup (ed_var rfl (tu.ex e))).ex (by omega) fun s1 hs1 x H6 Q6 e6 tx kx => ?_)) eds_nil)) (by simp)).imp fun d hd => ?_) fun v d H6 e6 t6 p6 => ?_
        · exact kx _ rfl (call (ed_var rfl tx) (ev_var rfl) (q s1 hs1) rfl)
        · rw [hd]
          cases b <;> simp [push, dSay_conj, dSay_disj, pushL_eq, List.map_map, Function.comp_def]
        · subst p6
          exact k v H6 (e.trans e6) t6
      | @disj m l z q =>
        rw [dSay_disj] at ts
        refine ⟨_, rfl, g_star2 ts (by simp) fun v u p xs np tv tu txs => ?_⟩
        obtain rfl := tv.strI
        refine q_ifF (et_eqS (ev_var rfl) ev_c (by decide +kernel)) fun H1 e1 => ?_
        refine q_ifF (et_eqS (ev_var rfl) ev_c (by decide +kernel)) fun H2 e2 => ?_
        refine q_ifF (et_eqS (ev_var rfl) ev_c (by decide +kernel)) fun H3 e3 => ?_
        refine q_asgD (K := K) (P := (· = .str (if b then "or" else "and"))) (ed_ifB (et_bool (ev_var (v := .bl b) rfl)) (fun hb => by subst hb; exact ed_s (ev_var rfl)) fun hb => by subst hb; exact ed_kd kd2 (ev_var rfl)) fun tv d H4 e4 t4 p4 => ?_
        subst p4
        obtain rfl := t4.strI
        refine q_ifT (et_inS (ev_var rfl) andor (by decide +kernel)) fun H5 e5 => ?_
        have e := (Ex.new (o := .lst xs) np).trans (e1.trans (e2.trans (e3.trans (e4.trans e5))))
        refine s_retD (K := K) (P := (· = dSay (push (.disj l) b))) ((ed_tup (eds_c (ed_s (ev_var rfl)) (eds_c (ed_tuple (eld_lcA (enc := dSay) (fun s1 => dSay (push s1 b)) (src_tup (ed_var rfl (tu.ex e))).ex (by omega) fun s1 hs1 x H6 Q6 e6 tx kx => ?_)) eds_nil)) (by simp)).imp fun d hd => ?_) fun v d H6 e6 t6 p6 => ?_
        · exact kx _ rfl (call (ed_var rfl tx) (ev_var rfl) (q s1 hs1) rfl)
        · rw [hd]
          cases b <;> simp [push, dSay_conj, dSay_disj, pushL_eq, List.map_map, Function.comp_def]
        · subst p6
          exact k v H6 (e.trans e6) t6
      | @must m h s1 z q =>
        rw [dSay_must] at ts
        refine ⟨_, rfl, g_star2 ts (by simp) fun v u p xs np tv tu txs => ?_⟩
        obtain rfl := tv.strI
        obtain rfl := tu.strI
        refine q_ifF (et_eqS (ev_var rfl) ev_c (by decide +kernel)) fun H1 e1 => ?_
        refine q_ifF (et_eqS (ev_var rfl) ev_c (by decide +kernel)) fun H2 e2 => ?_
        refine q_ifF (et_eqS (ev_var rfl) ev_c (by decide +kernel)) fun H3 e3 => ?_
        refine q_asgD (K := K) (P := (· = .str (if b then "must" else "may"))) (ed_ifB (et_bool (ev_var (v := .bl b) rfl)) (fun hb => by subst hb; exact ed_s (ev_var rfl)) fun hb => by subst hb; exact ed_kd kd3 (ev_var rfl)) fun tv d H4 e4 t4 p4 => ?_
        subst p4
        obtain rfl := t4.strI
        refine q_ifF (et_inS (ev_var rfl) andor (by decide +kernel)) fun H5 e5 => ?_
        have e := (Ex.new (o := .lst xs) np).trans (e1.trans (e2.trans (e3.trans (e4.trans e5))))
        have l5 : H5 p = some (.lst xs) := e5 _ _ (e4 _ _ (e3 _ _ (e2 _ _ (e1 _ _ upd_same))))
        refine s_retD (K := K) (P := (· = dSay (push (.must h s1) b))) ((ed_tup (eds_c (ed_s (ev_var rfl)) (eds_c (ed_s (ev_var rfl)) (eds_c (call (ed_ixL (i := 0) (ev_var rfl) (sq_of l5) (txs.ex e) ev_c rfl) (ev_var (v := .bl b) rfl) q rfl) eds_nil))) (by simp)).imp fun d hd => ?_) fun v d H6 e6 t6 p6 => ?_
        · rw [hd]
          cases b <;> simp [push, dSay_must, dSay_may]
        · subst p6
          exact k v H6 (e.trans e6) t6
      | @may m h s1 z q =>
        rw [dSay_may] at ts
        refine ⟨_, rfl, g_star2 ts (by simp) fun v u p xs np tv tu txs => ?_⟩
        obtain rfl := tv.strI
        obtain rfl := tu.strI
        refine q_ifF (et_eqS (ev_var rfl) ev_c (by decide +kernel)) fun H1 e1 => ?_
        refine q_ifF (et_eqS (ev_var rfl) ev_c (by decide +kernel)) fun H2 e2 => ?_
        refine q_ifF (et_eqS (ev_var rfl) ev_c (by decide +kernel)) fun H3 e3 => ?_
        refine q_asgD (K := K) (P := (· = .str (if b then "may" else "must"))) (ed_ifB (et_bool (ev_var (v := .bl b) rfl)) (fun hb => by subst hb; exact ed_s (ev_var rfl)) fun hb => by subst hb; exact ed_kd kd4 (ev_var rfl)) fun tv d H4 e4 t4 p4 => ?_
        subst p4
        obtain rfl := t4.strI
        refine q_ifF (et_inS (ev_var rfl) andor (by decide +kernel)) fun H5 e5 => ?_
        have e := (Ex.new (o := .lst xs) np).trans (e1.trans (e2.trans (e3.trans (e4.trans e5))))
        have l5 : H5 p = some (.lst xs) := e5 _ _ (e4 _ _ (e3 _ _ (e2 _ _ (e1 _ _ upd_same))))
        refine s_retD (K := K) (P := (· = dSay (push (.may h s1) b))) ((ed_tup (eds_c (ed_s (ev_var rfl)) (eds_c (ed_s (ev_var rfl)) (eds_c (call (ed_ixL (i := 0) (ev_var rfl) (sq_of l5) (txs.ex e) ev_c rfl) (ev_var (v := .bl b) rfl) q rfl) eds_nil))) (by simp)).imp fun d hd => ?_) fun v d H6 e6 t6 p6 => ?_
        · rw [hd]
          cases b <;> simp [push, dSay_must, dSay_may]
        · subst p6
          exact k v H6 (e.trans e6) t6
abbrev sp_pushed_in (K : PySem.W.Frag) (n : Nat) : Sp := fun vs H Q _ => ∃ s : Say Str, TDs K H vs [dSay s] ∧ Good WordOk n s ∧ ∀ v H', Ex H H' → TD K H' v (dSay (push s true)) → Q v H'
theorem has_pushed_in (D : DefAt K mg "pushed_in" st_pushed_in ["saying"]) {n : Nat} (G : Has P w K mg base CX0 (n + 1) "pushed" ["saying", "is_so"] (sp_pushed K n)) : Has P w K mg base CX0 (n + 2) "pushed_in" ["saying"] (sp_pushed_in K n) := by
  refine D.ok sc_pushed_in (fun vs H Q E h => ?_) (fun f cdv A outer s H vs Q E hr h => ?_)
  · obtain ⟨s, t, _⟩ := h
    exact t.len
  · obtain ⟨s0, t, g, k⟩ := h
    refine ⟨_, pss_one (ps_ret (pe_has G hr (by rfl) pass0 (pa_cons (pv 0) (pa_cons pe_bl pa_nil)))), ?_⟩
    obtain ⟨vs, r, rfl, ts, t⟩ := t.consI
    cases t.nilI
    refine s_retD (K := K) (P := (· = dSay (push s0 true))) (ed_callS (eds_c (ed_var rfl ts) (eds_c ed_bl eds_nil)) fun vs H2 Q2 e2 ts2 q2 => ⟨_, _, ts2, g, fun v H' e3 t3 => q2 v H' _ e3 t3 rfl⟩) fun v d H2 e2 t2 p2 => ?_
    subst p2
    exact k v H2 e2 t2
end
end K33
set_option autoImplicit false
set_option Elab.async false
set_option linter.all false
set_option maxRecDepth 100000
set_option maxHeartbeats 4000000
namespace K33
open PySem PySem.Spec PyProof.Rows L2 Evl
section
variable {P : Program} {w : World} {K : PySem.W.Frag} {mg : Str → Option Value} {base : Heap}
abbrev sp_is_word (K : PySem.W.Frag) : Sp := fun vs H Q _ => ∃ z : Str, TDs K H vs [.str z] ∧ WordOk z ∧ ∀ H', Ex H H' → Q (.bl true) H'
theorem has_is_word (D : DefAt K mg "is_word" st_is_word ["thing"]) (B : Blt mg) (C : Cst K w mg) : Has P w K mg base CX0 1 "is_word" ["thing"] (sp_is_word K) := by
  obtain ⟨tL, gL⟩ := C.letters
  obtain ⟨tN, gN⟩ := C.longest
  refine D.ok sc_is_word (fun vs H Q E h => ?_) (fun f cdv A outer s H vs Q E hr h => ?_)
  · obtain ⟨z, t, _⟩ := h
    exact t.len
  · obtain ⟨z, t, g, k⟩ := h
    have nd := sc_is_word.nd
    refine ⟨_, pss_cons (ps_if (PW.pt (pw_or (pt_not (pt_val (pe_callB (k_isi K) (by rfl) B.b_isinstance (by decide +kernel) (pa_cons (pv 0) (pa_cons (pe_bltn (v := .ty "str") (by rfl) B.b_str (by decide +kernel) rfl) pa_nil)))))
        (pw_or1 (pt_not (pt_chain op_le op_le pe_int (pe_callB (k_lenX K) (by rfl) B.b_len (by decide +kernel) (pa_cons (pv 0) pa_nil)) (pe_glob (v := .int 8) (by rfl) gN ⟨_, rfl⟩)))))) (pss_one (ps_ret pe_bl)) pss_nil)
      (pss_one (ps_ret (pe_callB (k_all K rfl) (by rfl) B.b_all (by decide +kernel) (pa_cons
        (pe_lc (own := [("sign", 1)]) (g := gName 1) rfl nd (pi_str (pv 0)) (blk (N := ["thing", "sign"]) (sc := defScope st_is_word) (by decide +kernel)) (fun _ _ _ _ _ => pg_name (i := 1) nd rfl (.inl rfl)) (fun _ _ _ _ _ => pts_nil)
          (fun _ _ _ _ _ => pe_cmpR op_in_sign (pv 1) (pe_glob (v := .str lettersS) (by rfl) gL ⟨_, rfl⟩) (by rfl))) pa_nil)))), ?_⟩
    obtain ⟨vs, r, rfl, ts, t⟩ := t.consI
    cases t.nilI
    obtain rfl := ts.strI
    obtain ⟨g1, g2, g3⟩ := g
    refine q_ifF (EvT.mono (Ex.refl H) (et_is (et_or (et_not (et_B (ev_isi (b := true) (ed_var rfl ts) (fun H1 v h => tyx_str h) (kit_ty (by decide +kernel))))) (fun _ => et_not (et_test (ev_chain (a := true) (b := true) (ev_c) (ev_lenS (ev_var rfl) (by omega)) (fun H1 e => by
        have := rv_I0 (H := H1) (g := fun i j => .bl (decide (i ≤ j))) (i := 1) (j := (z.length : Int))
        have e1 : decide ((1 : Int) ≤ (z.length : Int)) = true := decide_eq_true (by omega)
        simp only [e1] at this
        exact this) (fun _ => ev_c) (fun _ H1 e => by
        have := rv_I0 (H := H1) (g := fun i j => .bl (decide (i ≤ j))) (i := (z.length : Int)) (j := 8)
        have e1 : decide ((z.length : Int) ≤ (8 : Int)) = true := decide_eq_true (by omega)
        simp only [e1] at this
        exact this))))) rfl)) fun H1 e1 => ?_
    refine s_ret (ev_is (ev_allN (K := K) (bs := z.cps.toList.map fun _ => true) ((eld_lcA (enc := fun c => PyData.str ⟨#[c]⟩) (fun _ => PyData.bool true) (src_str (ev_var (v := .str z) rfl)).ex (by
        have : z.cps.toList.length = z.length := by simp [Str.length]
        omega) fun c hc x H2 Q2 e2 tx kx => ?_).imp fun d hd => by rw [hd, List.map_map]; rfl)) ?_) fun H2 e2 => k H2 (e1.trans e2)
    · refine kx _ rfl ?_
      obtain rfl := tx.strI
      intro H3 e3 Q3 q3
      refine ⟨_, rfl, c, lettersS, rfl, rfl, ?_⟩
      rw [decide_eq_true (g3 c hc)]
      exact q3 _ _ _ (Ex.refl _) (.bl true) rfl
    · rw [List.all_map]
      congr 1
      exact List.all_eq_true.mpr fun _ _ => rfl
theorem ed_callL {sp : Sp} {E : XK} {i : Nat} {f : Addr} {σ : L2.St} {H : Hp} {tl : TA} {ds : List PyData} {R : PyData → Prop} (hf : σ[i]? = some (some (.ref f))) (h : EDs K tl σ H (· = ds)) (hs : ∀ vs H1 (Q : VK), Ex H H1 → TDs K H1 vs ds → (∀ v H' d, Ex H1 H' → TD K H' v d → R d → Q v H') → sp vs H1 Q E) : ED K (tCallL i f sp [] E tl) σ H R := fun H1 a Q q =>
  ⟨hf, h H1 a _ fun vs H2 ds' e ts r => by
    subst r
    show sp (vs ++ []) H2 Q E
    rw [List.append_nil]
    exact hs vs H2 Q (a.trans e) ts fun v H' d e' t p => q v H' d (e.trans e') t p⟩
abbrev sp_plain (K : PySem.W.Frag) (n : Nat) : Sp := fun vs H Q _ => ∃ s : Say Str, TDs K H vs [dSay s] ∧ Good WordOk n s ∧ ∀ H', Ex H H' → Q (.bl true) H'
theorem ev_plainL {i : Nat} {f : Addr} {n : Nat} {σ : L2.St} {H : Hp} {ta : TE} {s : Say Str} (hf : σ[i]? = some (some (.ref f))) (h : ED K ta σ H (· = dSay s)) (g : Good WordOk n s) : ED K (tCallL i f (sp_plain K n) [] E0 (tCons ta tNil)) σ H (· = .bool true) :=
  ed_callL hf (eds_c h eds_nil) fun vs H1 Q e ts q => ⟨s, ts, g, fun H' e' => q _ H' _ e' (.bl true) rfl⟩
abbrev sp_are (K : PySem.W.Frag) (f : Addr) (n : Nat) : Sp := fun vs H Q _ => ∃ (v : V) (l : List (Say Str)), vs = [v, .ref f] ∧ TD K H v (.tuple (l.map dSay)) ∧ l.length ≤ 1000 ∧ (∀ s ∈ l, Good WordOk n s) ∧ ∀ H', Ex H H' → Q (.bl true) H'
theorem has_are (D : DefAt K mg "are_sayings" st_are_sayings ["thing", "is_one"]) (B : Blt mg) {k n : Nat} {f : Addr} {fd : FuncData} (G : FnOk P w K mg base CX0 k f fd ["thing"] (sp_plain K n)) (kp : PySem.W.keepIn K (.ref f) = true) (hb : Binds K fd ["thing"] []) :
    Has P w K mg base CX0 (k + 1) "are_sayings" ["thing", "is_one"] (sp_are K f n) := by
  refine D.ok sc_are_sayings (fun vs H Q E h => ?_) (fun f' cdv A outer s H vs Q E hr h => ?_)
  · obtain ⟨v, l, rfl, _⟩ := h
    rfl
  · obtain ⟨v, l, rfl, ts, hz, g, kk⟩ := h
    have nd := sc_are_sayings.nd
    refine ⟨_, pss_one (ps_ret (pe_and (pe_callB (k_isi K) (by rfl) B.b_isinstance (by decide +kernel) (pa_cons (pv 0) (pa_cons (pe_bltn (v := .ty "tuple") (by rfl) B.b_tuple (by decide +kernel) rfl) pa_nil)))
      (pe_one (pe_callB (k_all K rfl) (by rfl) B.b_all (by decide +kernel) (pa_cons
        (pe_lc (own := [("one", 2)]) (g := gName 2) rfl nd (k_pit K (pv 0)) (blk (N := ["thing", "is_one", "one"]) (sc := defScope st_are_sayings) (by decide +kernel)) (fun _ _ _ _ _ => pg_name (i := 2) nd rfl (.inl rfl)) (fun _ _ _ _ _ => pts_nil)
          (fun _ _ _ _ _ => pe_callL (i := 1) G hr rfl (.inr (.inl rfl)) kp hb .nil pass0 (pa_cons (pv 2) pa_nil))) pa_nil))))), ?_⟩
    refine s_ret (ev_andV (a := true) (b := true) (ev_isi (ed_var rfl ts) (fun H1 v h => tyx_tup h) (kit_ty (by decide +kernel))) fun _ => ev_is (ev_allN (K := K) (bs := l.map fun _ => true) ((eld_lcA (enc := dSay) (fun _ => PyData.bool true) (src_tup (ed_var rfl ts)).ex (by omega) fun c hc x H2 Q2 e2 tx kx => ?_).imp fun d hd => by rw [hd, List.map_map]; rfl)) ?_) fun H2 e2 => kk H2 e2
    · exact kx _ rfl (ev_plainL rfl (ed_var rfl tx) (g c hc))
    · rw [List.all_map]
      congr 1
      exact List.all_eq_true.mpr fun _ _ => rfl
abbrev sp_made (K : PySem.W.Frag) (f : Addr) (n : Nat) : Sp := fun vs H Q _ => ∃ (v : V) (s : Say Str), vs = [v, .ref f] ∧ TD K H v (dSay s) ∧ Good WordOk (n + 1) s ∧ ∀ H', Ex H H' → Q (.bl true) H'
theorem has_made (D : DefAt K mg "is_made" st_is_made ["thing", "is_one"]) (B : Blt mg) (C : Cst K w mg) {k n : Nat} {f : Addr} {fd : FuncData} (G : FnOk P w K mg base CX0 k f fd ["thing"] (sp_plain K n)) (kp : PySem.W.keepIn K (.ref f) = true) (hb : Binds K fd ["thing"] [])
    (GW : Has P w K mg base CX0 1 "is_word" ["thing"] (sp_is_word K)) (GA : Has P w K mg base CX0 (k + 1) "are_sayings" ["thing", "is_one"] (sp_are K f n)) : Has P w K mg base CX0 (k + 2) "is_made" ["thing", "is_one"] (sp_made K f n) := by
  obtain ⟨aH, gH, hH⟩ := C.handed
  refine D.ok sc_is_made (fun vs H Q E h => ?_) (fun f' cdv A outer s H vs Q E hr h => ?_)
  · obtain ⟨v, s, rfl, _⟩ := h
    rfl
  · obtain ⟨va, s0, rfl, ts, g, kk⟩ := h
    have nd := sc_is_made.nd
    have hu := hr.units
    refine ⟨_, pss_cons (ps_if (PW.pt (pw_or (pt_not (pt_val (pe_callB (k_isi K) (by rfl) B.b_isinstance (by decide +kernel) (pa_cons (pv 0) (pa_cons (pe_bltn (v := .ty "tuple") (by rfl) B.b_tuple (by decide +kernel) rfl) pa_nil)))))
        (pw_or (pt_cmpR op_lt (pe_callB (k_len K) (by rfl) B.b_len (by decide +kernel) (pa_cons (pv 0) pa_nil)) pe_int (nomark _))
        (pw_or1 (pt_not (pt_val (pe_callB (k_isi K) (by rfl) B.b_isinstance (by decide +kernel) (pa_cons (pe_ix (k_ixT K) (pv 0) pe_int (fun _ _ => rfl)) (pa_cons (pe_bltn (v := .ty "str") (by rfl) B.b_str (by decide +kernel) rfl) pa_nil))))))))) (pss_one (ps_ret pe_bl)) pss_nil)
      (pss_cons (ps_asg (pv 0) (k_star K 3 2 rfl (pgs_cons (pg_name (i := 2) nd rfl (.inl rfl)) (pgs_cons (pg_name (i := 3) nd rfl (.inl rfl)) (pgs_star (pg_name (i := 4) nd rfl (.inl rfl)) pgs_nil))) (by decide)))
      (pss_cons (ps_if (pt_cmpR (k_in K) (pv 2) (pe_glob (by rfl) gH (v := .ref aH) rfl) (by rfl)) (pss_one (ps_ret (pe_and (pe_cmpR op_eq (pe_callB (k_len K) (by rfl) B.b_len (by decide +kernel) (pa_cons (pv 4) pa_nil)) pe_int (nomark _))
          (pe_and (pe_has GW (hr.mono (by omega)) (by rfl) pass0 (pa_cons (pv 3) pa_nil)) (pe_one (pe_callL (i := 1) G (hr.mono (by omega)) rfl (.inl rfl) kp hb .nil pass0 (pa_cons (pe_ix (k_ixL K) (pv 4) pe_int (fun _ _ => rfl)) pa_nil))))))) pss_nil)
      (pss_cons (ps_if (pt_cmpR op_eq (pv 2) pe_str (nomark _)) pss_never pss_nil)
      (pss_cons (ps_if (pt_cmpR (k_neD K hu) (pv 4) (pe_lst pa_nil) (nomark _)) (pss_one (ps_ret pe_bl)) pss_nil)
      (pss_cons (ps_if (pt_cmpR op_eq (pv 2) pe_str (nomark _)) (pss_one (ps_ret (pe_has GW (hr.mono (by omega)) (by rfl) pass0 (pa_cons (pv 3) pa_nil)))) pss_nil)
      (pss_one (ps_ret (pe_or (pe_and (pe_cmpR op_eq (pv 2) pe_str (nomark _)) (pe_one (pe_callL (i := 1) G (hr.mono (by omega)) rfl (.inl rfl) kp hb .nil pass0 (pa_cons (pv 3) pa_nil))))
        (pe_one (pe_and (pe_cmpR (k_in K) (pv 2) (pe_tup (pa_cons pe_str (pa_cons pe_str pa_nil))) (by rfl)) (pe_one (pe_has GA hr (by rfl) pass0 (pa_cons (pv 3) (pa_cons (pv 1) pa_nil)))))))))))))), ?_⟩
    have hand : ∀ {σ : L2.St} {H : Hp}, ED K (tC (.ref aH)) σ H (· = .tuple ([("must" : Str), ("may" : Str)].map PyData.str)) := fun {σ H} => ed_of ev_c (.tup (hH H) (.cons (.str _) (.cons (.str _) .nil)))
    have word : ∀ {σ : L2.St} {H1 : Hp} {z : Str}, WordOk z → σ[3]? = some (some (.str z)) → Ev (tCall (sp_is_word K) [] E0 (tCons (tVar 3) tNil)) σ H1 (.bl true) := fun g h => ev_bl (K := K) (ed_callS (eds_c (ed_s (ev_var h)) eds_nil) fun vs H2 Q2 e2 ts2 q2 => ⟨_, ts2, g, fun H' e3 => q2 _ H' _ e3 (.bl true) rfl⟩)
    have first : ∀ {z : Str} {ds : List PyData}, dSay s0 = .tuple (.str z :: ds) → 1 ≤ ds.length → EvT (tOr (tNot (tB (tCB (rIsi K) (tCons (tVar 0) (tCons (tC (.ty "tuple")) tNil))))) (tOr (tTest (tOp (rI0 fun i j => .bl (decide (i < j))) (tCB (rLenS' K) (tCons (tVar 0) tNil)) (tC (.int 2))))
        (tNot (tB (tCB (rIsi K) (tCons (tOp (rIxT K) (tVar 0) (tC (.int 0))) (tCons (tC (.ty "str")) tNil))))))) (start ["thing", "is_one", "word", "first", "rest"] [va, .ref f]) H false := fun h1 h2 => by
      rw [h1] at ts
      refine et_is (et_or (et_not (et_B (ev_isi (b := true) (ed_var rfl ts) (fun H1 v h => tyx_tup h) (kit_ty (by decide +kernel))))) (fun _ => et_or (et_test (ev_op (ev_lenT (ed_var rfl ts)) ev_c rv_I0)) fun _ => et_not (et_B (ev_isi (b := true) (ed_ix (i := 0) (ed_var rfl ts) ev_c rfl) (fun H1 v h => tyx_str h) (kit_ty (by decide +kernel)))))) ?_
      simp
      omega
    have noRest : ∀ {σ : L2.St} {H1 : Hp} {p : Addr}, σ[4]? = some (some (.ref p)) → H1 p = some (.lst []) → EvT (tTest (tOp (rNeD K) (tVar 4) (tLst tNil))) σ H1 false := fun h1 h2 H2 e2 Q2 q2 => by
      refine ⟨_, h1, sz_of (by simp), fun m nm => ⟨.list [], .list [], .lst (sq_of ((e2.trans (Ex.new nm)) _ _ h2)) .nil, .lst (sq_of upd_same) .nil, rfl, rfl, false, rfl, q2 _ (Ex.new nm)⟩⟩
    cases g with
    | @letter m z q =>
      refine q_ifF (first (dSay_letter z) (by simp)) fun H0 e0 => ?_
      have ts := ts.ex e0
      rw [dSay_letter] at ts
      refine ⟨_, rfl, g_star2 ts (by simp) fun v u p xs np tv tu txs => ?_⟩
      obtain rfl := tv.strI
      obtain rfl := tu.strI
      obtain rfl := txs.nilI
      refine q_ifF (et_inS (ev_var rfl) hand (by decide +kernel)) fun H1 e1 => ?_
      refine q_ifF (et_eqS (ev_var rfl) ev_c (by decide +kernel)) fun H2 e2 => ?_
      refine q_ifF (noRest rfl (e2 _ _ (e1 _ _ upd_same))) fun H3 e3 => ?_
      refine q_ifT (et_eqS (ev_var rfl) ev_c (by decide +kernel)) fun H4 e4 => ?_
      exact s_ret (word q rfl) fun H5 e5 => kk H5 (e0.trans ((Ex.new np).trans (e1.trans (e2.trans (e3.trans (e4.trans e5))))))
    | @neg m s1 q =>
      refine q_ifF (first (dSay_neg s1) (by simp)) fun H0 e0 => ?_
      have ts := ts.ex e0
      rw [dSay_neg] at ts
      refine ⟨_, rfl, g_star2 ts (by simp) fun v u p xs np tv tu txs => ?_⟩
      obtain rfl := tv.strI
      obtain rfl := txs.nilI
      refine q_ifF (et_inS (ev_var rfl) hand (by decide +kernel)) fun H1 e1 => ?_
      refine q_ifF (et_eqS (ev_var rfl) ev_c (by decide +kernel)) fun H2 e2 => ?_
      refine q_ifF (noRest rfl (e2 _ _ (e1 _ _ upd_same))) fun H3 e3 => ?_
      refine q_ifF (et_eqS (ev_var rfl) ev_c (by decide +kernel)) fun H4 e4 => ?_
      have e := (Ex.new (o := .lst []) np).trans (e1.trans (e2.trans (e3.trans e4)))
      exact s_ret (ev_is (ev_orV (ev_andV (ev_eqS (c := true) (ev_var rfl) ev_c (by decide +kernel)) fun _ => ev_bl (ev_plainL rfl (ed_var rfl (tu.ex e)) q)) (b := true) fun h => nomatch h) rfl) fun H5 e5 => kk H5 (e0.trans (e.trans e5))
    | @conj m l z q =>
      refine q_ifF (first (dSay_conj l) (by simp)) fun H0 e0 => ?_
      have ts := ts.ex e0
      rw [dSay_conj] at ts
      refine ⟨_, rfl, g_star2 ts (by simp) fun v u p xs np tv tu txs => ?_⟩
      obtain rfl := tv.strI
      obtain rfl := txs.nilI
      refine q_ifF (et_inS (ev_var rfl) hand (by decide +kernel)) fun H1 e1 => ?_
      refine q_ifF (et_eqS (ev_var rfl) ev_c (by decide +kernel)) fun H2 e2 => ?_
      refine q_ifF (noRest rfl (e2 _ _ (e1 _ _ upd_same))) fun H3 e3 => ?_
      refine q_ifF (et_eqS (ev_var rfl) ev_c (by decide +kernel)) fun H4 e4 => ?_
      have e := (Ex.new (o := .lst []) np).trans (e1.trans (e2.trans (e3.trans e4)))
      have inn := ev_inTS (neg := false) (K := K) (σ := ((((start ["thing", "is_one", "word", "first", "rest"] [va, .ref f]).set 2 (some (.str "and"))).set 3 (some u)).set 4 (some (.ref p)))) (H := H4) (ev_var (v := .str "and") (i := 2) rfl) andor
      rw [if_neg Bool.false_ne_true, show decide (("and" : Str) ∈ [("and" : Str), ("or" : Str)]) = true by decide +kernel] at inn
      exact s_ret (ev_is (ev_orV (ev_andV (b := true) (ev_eqS (c := false) (ev_var rfl) ev_c (by decide +kernel)) fun h => nomatch h) (b := true) fun _ => ev_andV inn fun _ => fun H5 e5 Q5 q5 => ⟨u, rfl, _, rfl, u, l, rfl, tu.ex (e.trans e5), z, q, q5⟩) rfl) fun H5 e5 => kk H5 (e0.trans (e.trans e5))
    | @disj m l z q =>
      refine q_ifF (first (dSay_disj l) (by simp)) fun H0 e0 => ?_
      have ts := ts.ex e0
      rw [dSay_disj] at ts
      refine ⟨_, rfl, g_star2 ts (by simp) fun v u p xs np tv tu txs => ?_⟩
      obtain rfl := tv.strI
      obtain rfl := txs.nilI
      refine q_ifF (et_inS (ev_var rfl) hand (by decide +kernel)) fun H1 e1 => ?_
      refine q_ifF (et_eqS (ev_var rfl) ev_c (by decide +kernel)) fun H2 e2 => ?_
      refine q_ifF (noRest rfl (e2 _ _ (e1 _ _ upd_same))) fun H3 e3 => ?_
      refine q_ifF (et_eqS (ev_var rfl) ev_c (by decide +kernel)) fun H4 e4 => ?_
      have e := (Ex.new (o := .lst []) np).trans (e1.trans (e2.trans (e3.trans e4)))
      have inn := ev_inTS (neg := false) (K := K) (σ := ((((start ["thing", "is_one", "word", "first", "rest"] [va, .ref f]).set 2 (some (.str "or"))).set 3 (some u)).set 4 (some (.ref p)))) (H := H4) (ev_var (v := .str "or") (i := 2) rfl) andor
      rw [if_neg Bool.false_ne_true, show decide (("or" : Str) ∈ [("and" : Str), ("or" : Str)]) = true by decide +kernel] at inn
      exact s_ret (ev_is (ev_orV (ev_andV (b := true) (ev_eqS (c := false) (ev_var rfl) ev_c (by decide +kernel)) fun h => nomatch h) (b := true) fun _ => ev_andV inn fun _ => fun H5 e5 Q5 q5 => ⟨u, rfl, _, rfl, u, l, rfl, tu.ex (e.trans e5), z, q, q5⟩) rfl) fun H5 e5 => kk H5 (e0.trans (e.trans e5))
    | @must m h s1 z q =>
      refine q_ifF (first (dSay_must h s1) (by simp)) fun H0 e0 => ?_
      have ts := ts.ex e0
      rw [dSay_must] at ts
      refine ⟨_, rfl, g_star2 ts (by simp) fun v u p xs np tv tu txs => ?_⟩
      obtain rfl := tv.strI
      obtain rfl := tu.strI
      refine q_ifT (et_inS (ev_var rfl) hand (by decide +kernel)) fun H1 e1 => ?_
      have e := (Ex.new (o := .lst xs) np).trans e1
      have lx : xs.length = 1 := by rw [txs.len]; rfl
      exact s_ret (ev_andV (ev_eqI (c := true) (ev_lenL (ev_var rfl) (sq_of (e1 _ _ upd_same))) ev_c (by rw [lx]; rfl)) fun _ => ev_andV (word z rfl) fun _ => ev_bl (ev_plainL rfl (ed_ixL (i := 0) (ev_var rfl) (sq_of (e1 _ _ upd_same)) (txs.ex e) ev_c rfl) q)) fun H5 e5 => kk H5 (e0.trans (e.trans e5))
    | @may m h s1 z q =>
      refine q_ifF (first (dSay_may h s1) (by simp)) fun H0 e0 => ?_
      have ts := ts.ex e0
      rw [dSay_may] at ts
      refine ⟨_, rfl, g_star2 ts (by simp) fun v u p xs np tv tu txs => ?_⟩
      obtain rfl := tv.strI
      obtain rfl := tu.strI
      refine q_ifT (et_inS (ev_var rfl) hand (by decide +kernel)) fun H1 e1 => ?_
      have e := (Ex.new (o := .lst xs) np).trans e1
      have lx : xs.length = 1 := by rw [txs.len]; rfl
      exact s_ret (ev_andV (ev_eqI (c := true) (ev_lenL (ev_var rfl) (sq_of (e1 _ _ upd_same))) ev_c (by rw [lx]; rfl)) fun _ => ev_andV (word z rfl) fun _ => ev_bl (ev_plainL rfl (ed_ixL (i := 0) (ev_var rfl) (sq_of (e1 _ _ upd_same)) (txs.ex e) ev_c rfl) q)) fun H5 e5 => kk H5 (e0.trans (e.trans e5))
theorem has_plain (D : DefAt K mg "is_plain_saying" st_is_plain_saying ["thing"]) (DA : DefAt K mg "are_sayings" st_are_sayings ["thing", "is_one"]) (DM : DefAt K mg "is_made" st_is_made ["thing", "is_one"]) (B : Blt mg) (C : Cst K w mg)
    (GW : Has P w K mg base CX0 1 "is_word" ["thing"] (sp_is_word K)) : ∀ n, Has P w K mg base CX0 (3 * n + 1) "is_plain_saying" ["thing"] (sp_plain K n) := by
  obtain ⟨f, fd, F, hm, hb⟩ := D
  have main : ∀ n, FnOk P w K mg base CX0 (3 * n + 1) f fd ["thing"] (sp_plain K n) := by
    intro n
    induction n with
    | zero => exact ⟨fun vs H Q E ⟨s, _, g, _⟩ => (good_no g).elim, fun A outer s H args us vs Q E _ _ _ _ ⟨s, _, g, _⟩ => (good_no g).elim⟩
    | succ n ih =>
      have GA := has_are (P := P) (w := w) (base := base) DA B ih F.kp hb
      have GM := has_made DM B C ih F.kp hb GW GA
      refine F.ok sc_is_plain_saying (fun vs H Q E h => ?_) (fun cdv A outer s H vs Q E hr h => ?_)
      · obtain ⟨s, t, _⟩ := h
        exact t.len
      · obtain ⟨s0, t, g, k⟩ := h
        refine ⟨_, pss_one (ps_ret (pe_has GM (hr.mono (by omega)) (by rfl) pass0 (pa_cons (pv 0) (pa_cons (pe_glob (v := .ref f) (by rfl) hm rfl) pa_nil)))), ?_⟩
        obtain ⟨vs, r, rfl, ts, t⟩ := t.consI
        cases t.nilI
        exact ⟨vs, rfl, vs, s0, rfl, ts, g, k⟩
  exact fun n => ⟨f, fd, main n, hm, F.kp, hb⟩
end
end K33
set_option autoImplicit false
set_option Elab.async false
set_option linter.all false
set_option maxRecDepth 100000
set_option maxHeartbeats 4000000
namespace K33
open PySem PySem.Spec PyProof.Rows L2 Evl
section
variable {K : PySem.W.Frag} {σ : L2.St} {H H' : Hp} {ta tb : TE}
theorem ev_isB {a b : Bool} (h1 : Ev ta σ H (.bl a)) (h2 : Ev tb σ H (.bl b)) : Ev (tOp rIsB ta tb) σ H (.bl (decide (a = b))) := fun H1 e Q q => h1 H1 e _ fun H2 e2 => h2 H2 (e.trans e2) _ fun H3 e3 => ⟨a, b, rfl, rfl, q H3 (e2.trans e3)⟩
theorem ev_notB {a b : Bool} (h1 : Ev ta σ H (.bl a)) (h2 : Ev tb σ H (.bl b)) : Ev (tOp rNotB ta tb) σ H (.bl (!decide (a = b))) := fun H1 e Q q => h1 H1 e _ fun H2 e2 => h2 H2 (e.trans e2) _ fun H3 e3 => ⟨a, b, rfl, rfl, q H3 (e2.trans e3)⟩
theorem ev_neB {a b : Bool} (h1 : Ev ta σ H (.bl a)) (h2 : Ev tb σ H (.bl b)) : Ev (tOp rNe ta tb) σ H (.bl (!decide (a = b))) := by
  refine ev_is (ev_op h1 h2 (rv_ne (x := .bl a) (y := .bl b) rfl)) ?_
  congr 2
  by_cases e : a = b
  · rw [e]; simp
  · rw [decide_eq_false e, decide_eq_false fun q => e (V.bl.inj q)]
theorem ev_holds {t1 t2 t3 : TE} {E : XK} {n m : Nat} {W : Web Str} {x : Nat} {s : Say Str} (ok : WebOk m W) (h1 : ED K t1 σ H (· = dWeb W)) (h2 : Ev t2 σ H (.int (x : Int))) (h3 : ED K t3 σ H (· = dSay s)) (g : Good WordOk n s) (hx : x < W.many) :
    Ev (tCall (sp_holds K n) [] E (tCons t1 (tCons t2 (tCons t3 tNil)))) σ H (.bl (Holds W s x)) := fun H1 e Q q =>
  h1 H1 e _ fun v1 H2 d1 e2 u1 p1 => h2 H2 (e.trans e2) _ fun H3 e3 => h3 H3 (e.trans (e2.trans e3)) _ fun v3 H4 d3 e4 u3 p3 => by
    subst p1 p3
    exact ⟨m, W, v1, v3, x, s, rfl, u1.ex (e3.trans e4), ok, u3, g, hx, fun H5 e5 => q H5 (e2.trans (e3.trans (e4.trans e5)))⟩
end
theorem Alike.symm {W V : Web Str} {x y : Nat} (h : Alike W V x y) : Alike V W y x := fun s => (h s).symm
section
variable {P : Program} {w : World} {K : PySem.W.Frag} {mg : Str → Option Value} {base : Heap}
abbrev sp_lparts (K : PySem.W.Frag) : Sp := fun vs H Q _ => ∃ (m n : Nat) (W V : Web Str) (v u r : L2.V) (x y : Nat) (s : Say Str), vs = [v, .int (x : Int), u, .int (y : Int), r] ∧ TwoAt K H v u m n W V x y ∧ TD K H r (dSay s) ∧ Good WordOk 20 s ∧ Holds W s x = true ∧ Holds V s y = false ∧ ∀ H', Ex H H' → Q (.bl true) H'
theorem has_lparts (D : DefAt K mg "_law_parts" st__law_parts ["_law_net_here", "_law_x", "_law_other", "_law_y", "_law_said"]) (B : Blt mg) (GI : Has P w K mg base CX0 61 "is_plain_saying" ["thing"] (sp_plain K 20)) (GP : Has P w K mg base CX0 22 "pushed_in" ["saying"] (sp_pushed_in K 20)) (GF : Has P w K mg base CX0 22 "in_few_words" ["saying"] (sp_few K 20)) (GH : Has P w K mg base CX0 125 "holds_at" ["web", "world", "saying"] (sp_holds K 60))
    (GR : Has P w K mg base CX0 5 "reached_web" ["web", "world"] (sp_rweb K)) : Has P w K mg base CX0 126 "_law_parts" ["_law_net_here", "_law_x", "_law_other", "_law_y", "_law_said"] (sp_lparts K) := by
  refine D.ok sc__law_parts (fun vs H Q E h => ?_) (fun f cdv A outer s H vs Q E hr h => ?_)
  · obtain ⟨m, n, W, V, v, u, r, x, y, s, rfl, _⟩ := h
    rfl
  · obtain ⟨m, n, W, V, v, u, r, x, y, s0, rfl, t, tr, g, hW, hV, k⟩ := h
    have nd := sc__law_parts.nd
    refine ⟨_, pss_cons (ps_if (pt_cmpR op_notBl (pe_has GI (hr.mono (by omega)) (by rfl) pass0 (pa_cons (pv 4) pa_nil)) pe_bl (nomark _)) (pss_one (ps_ret pe_bl)) pss_nil)
      (pss_cons (ps_for PassesOwn.never rfl (k_pit K (pe_tup (pa_cons (pv 4) (pa_cons (pe_has GP (hr.mono (by omega)) (by rfl) pass0 (pa_cons (pv 4) pa_nil)) (pa_cons (pe_has GF (hr.mono (by omega)) (by rfl) pass0 (pa_cons (pv 4) pa_nil)) pa_nil))))) (pg_name (i := 5) nd rfl (.inl rfl))
        (pss_one (ps_if (PW.pt (pw_or (pt_cmpR op_notBl (pe_has GH hr (by rfl) pass0 (pa_cons (pv 0) (pa_cons (pv 1) (pa_cons (pv 5) pa_nil)))) pe_bl (nomark _)) (pw_or1 (pt_cmpR op_notBl (pe_has GH hr (by rfl) pass0 (pa_cons (pv 2) (pa_cons (pv 3) (pa_cons (pv 5) pa_nil)))) pe_bl (nomark _))))) (pss_one (ps_ret pe_bl)) pss_nil)))
      (pss_cons (ps_asg (pe_tup (pa_cons (pe_has GR (hr.mono (by omega)) (by rfl) pass0 (pa_cons (pv 0) (pa_cons (pv 1) pa_nil))) (pa_cons (pe_has GR (hr.mono (by omega)) (by rfl) pass0 (pa_cons (pv 2) (pa_cons (pv 3) pa_nil))) pa_nil)))
        (k_tup K 2 rfl (pgs_cons (k_tup K 2 rfl (pgs_cons (pg_name (i := 6) nd rfl (.inl rfl)) (pgs_cons (pg_name (i := 7) nd rfl (.inl rfl)) pgs_nil))) (pgs_cons (k_tup K 2 rfl (pgs_cons (pg_name (i := 8) nd rfl (.inl rfl)) (pgs_cons (pg_name (i := 9) nd rfl (.inl rfl)) pgs_nil))) pgs_nil))))
      (pss_one (ps_ret (pe_and (pe_cmpR op_isBl (pe_has GH hr (by rfl) pass0 (pa_cons (pv 6) (pa_cons (pv 7) (pa_cons (pv 4) pa_nil)))) pe_bl (nomark _)) (pe_one (pe_cmpR op_isBl (pe_has GH hr (by rfl) pass0 (pa_cons (pv 8) (pa_cons (pv 9) (pa_cons (pv 4) pa_nil)))) pe_bl (nomark _)))))))), ?_⟩
    refine q_ifF (et_is (et_test (ev_notB (a := true) (ev_bl (K := K) (ed_callS (eds_c (ed_var rfl tr) eds_nil) fun vs H2 Q2 e2 ts2 q2 => ⟨s0, ts2, g, fun H' e3 => q2 (.bl true) H' _ e3 (.bl true) rfl⟩)) ev_c)) (by rfl)) fun H1 e1 => ?_
    have t1 := t.ex e1
    have alln : ∀ s ∈ [s0, push s0 true, few s0], Good WordOk 60 s ∧ Holds W s x = true ∧ Holds V s y = false := fun s hs => by
      simp only [List.mem_cons, List.not_mem_nil, or_false] at hs
      rcases hs with rfl | rfl | rfl
      · exact ⟨g.mono (by omega), hW, hV⟩
      · exact ⟨(g.push true).mono (by omega), by rw [holds_push, hW]; rfl, by rw [holds_push, hV]; rfl⟩
      · exact ⟨g.few.mono (by omega), by rw [holds_few, hW], by rw [holds_few, hV]⟩
    refine q_for (K := K) (ds := [s0, push s0 true, few s0].map dSay) (src_tup (ed_tup (eds_c (ed_var rfl (tr.ex e1)) (eds_c (ed_callS (P := (· = dSay (push s0 true))) (eds_c (ed_var rfl (tr.ex e1)) eds_nil) fun vs H2 Q2 e2 ts2 q2 => ⟨s0, ts2, g, fun v3 H' e3 t3 => q2 v3 H' _ e3 t3 rfl⟩)
        (eds_c (ed_callS (P := (· = dSay (few s0))) (eds_c (ed_var rfl (tr.ex e1)) eds_nil) fun vs H2 Q2 e2 ts2 q2 => ⟨s0, ts2, g, fun v3 H' e3 t3 => q2 v3 H' _ e3 t3 rfl⟩) eds_nil))) (by simp)))
      (fun H2 i σ H' => (∃ b, σ = [some v, some (.int (x : Int)), some u, some (.int (y : Int)), some r, b, none, none, none, none]) ∧ Ex H2 H' ∧ Ex H1 H') (fun H2 e2 => ⟨⟨none, rfl⟩, Ex.refl _, e2⟩) (fun H2 i σ H' q => Kt.ex q.2.1) ?_ ?_
    · rintro H2 i d z σ' H3 H4 e2 hd ⟨⟨b, rfl⟩, e3, e13⟩ e4 tz
      rw [List.getElem?_map] at hd
      cases hsi : [s0, push s0 true, few s0][i]? with
      | none => rw [hsi] at hd; cases hd
      | some s =>
        rw [hsi] at hd
        cases hd
        obtain ⟨gs, sW, sV⟩ := alln s (List.mem_of_getElem? hsi)
        have t4 := t1.ex (e13.trans e4)
        refine s_when (b := false) (et_is (et_or (et_test (ev_notB (ev_holds t.oW (ed_var (v := v) rfl t4.tv) (ev_var rfl) (ed_var rfl tz) gs t.hx) (ev_c (v := .bl true)))) fun _ => et_test (ev_notB (ev_holds t.oV (ed_var (v := u) rfl t4.tu) (ev_var rfl) (ed_var rfl tz) gs t.hy) (ev_c (v := .bl false)))) (by rw [sW, sV]; rfl)) (fun q => nomatch q) fun _ H5 e5 => ⟨⟨_, rfl⟩, e3.trans (e4.trans e5), e13.trans (e4.trans e5)⟩
    · rintro H2 σ' H3 e2 ⟨⟨b, rfl⟩, e3, e13⟩
      have t3 := t1.ex e13
      refine q_asgDG (K := K) (P' := fun d => ∃ W' V' x' y', d = .tuple [.tuple [dWeb W', .int (x' : Nat)], .tuple [dWeb V', .int (y' : Nat)]] ∧ WebOk m W' ∧ WebOk n V' ∧ x' < W'.many ∧ y' < V'.many ∧ (∀ s, Holds W' s x' = Holds W s x) ∧ ∀ s, Holds V' s y' = Holds V s y) ((ed_tupP (R := fun l => ∃ W' V' x' y', l = [.tuple [dWeb W', .int (x' : Nat)], .tuple [dWeb V', .int (y' : Nat)]] ∧ WebOk m W' ∧ WebOk n V' ∧ x' < W'.many ∧ y' < V'.many ∧ (∀ s, Holds W' s x' = Holds W s x) ∧ ∀ s, Holds V' s y' = Holds V s y) (fun H4 e4 Q4 q4 => ?_) (by rintro l ⟨_, _, _, _, rfl, _⟩; simp)).imp fun d ⟨l, h1, W', V', x', y', h2, h3⟩ => ⟨W', V', x', y', by rw [h1, h2], h3⟩) fun v4 d4 H4 e4 t4 p4 => ?_
      · have t4 := t3.ex e4
        refine ⟨_, rfl, _, rfl, m, W, v, x, rfl, t4.tv, t.oW, t.hx, fun va H5 W' x' e5 ta oW' hx' sW => ?_⟩
        refine ⟨_, rfl, _, rfl, n, V, u, y, rfl, t4.tu.ex e5, t.oV, t.hy, fun vb H6 V' y' e6 tb oV' hy' sV => ?_⟩
        exact q4 _ H6 _ (e5.trans e6) (.cons (ta.ex e6) (.cons tb .nil)) ⟨W', V', x', y', rfl, oW', oV', hx', hy', sW, sV⟩
      · obtain ⟨W', V', x', y', rfl, oW', oV', hx', hy', sW, sV⟩ := p4
        obtain ⟨a, xs, rfl, hs, ts⟩ := t4.tupI
        obtain ⟨va, r1, rfl, ta, ts⟩ := ts.consI
        obtain ⟨vb, r2, rfl, tb, ts⟩ := ts.consI
        cases ts.nilI
        refine ⟨a, _, rfl, hs, rfl, va, [vb], rfl, ?_⟩
        refine tg_pair ta fun a1 a2 ta1 ta2 => ?_
        obtain rfl := ta2.intI
        refine ⟨vb, [], rfl, ?_⟩
        refine tg_pair tb fun b1 b2 tb1 tb2 => ?_
        obtain rfl := tb2.intI
        refine ⟨rfl, ?_⟩
        have tr4 := tr.ex (e1.trans (e13.trans e4))
        refine s_ret (v := .bl true) (ev_is (ev_andV (ev_isB (ev_holds oW' (ed_var (v := a1) rfl ta1) (ev_var rfl) (ed_var rfl tr4) (g.mono (by omega)) hx') (ev_c (v := .bl true))) fun _ => ev_isB (ev_holds oV' (ed_var (v := b1) rfl tb1) (ev_var rfl) (ed_var rfl tr4) (g.mono (by omega)) hy') (ev_c (v := .bl false))) (by rw [sW, sV, hW, hV]; rfl)) fun H5 e5 => k H5 (e1.trans (e13.trans (e4.trans e5)))
end
end K33
set_option autoImplicit false
set_option Elab.async false
set_option linter.all false
set_option maxRecDepth 100000
set_option maxHeartbeats 4000000
namespace K33
open PySem PySem.Spec PyProof.Rows L2 Evl
theorem range_at {n i : Nat} {d : PyData} (h : ((List.range n).map fun (i : Nat) => PyData.int (i : Int))[i]? = some d) : i < n ∧ d = .int (i : Int) := by
  rw [List.getElem?_map] at h
  cases q : (List.range n)[i]? with
  | none => rw [q] at h; cases h
  | some j =>
    have il : i < n := by simpa using (List.getElem?_eq_some_iff.mp q).1
    rw [List.getElem?_range il] at q
    cases q
    rw [List.getElem?_range il] at h
    cases h
    exact ⟨il, rfl⟩
section
variable {P : Program} {w : World} {K : PySem.W.Frag} {mg : Str → Option Value} {base : Heap}
/-- what parting_saying gives for two worlds -/
def SaidAt (K : PySem.W.Frag) (H : Hp) (W V : Web Str) (x y : Nat) (v : L2.V) : Prop := (v = .non ∧ Alike W V x y) ∨ (∃ s, v ≠ .non ∧ TD K H v (dSay s) ∧ Good WordOk 20 s ∧ Holds W s x = true ∧ Holds V s y = false ∧ ¬ Alike W V x y)
theorem SaidAt.ex {H H' : Hp} {W V : Web Str} {x y : Nat} {v : L2.V} (e : Ex H H') (h : SaidAt K H W V x y v) : SaidAt K H' W V x y v := h.imp id fun ⟨s, a, b, c⟩ => ⟨s, a, b.ex e, c⟩
theorem SaidAt.non {H : Hp} {W V : Web Str} {x y : Nat} {v : L2.V} (h : SaidAt K H W V x y v) [d : Decidable (Alike W V x y)] : decide (v = .non) = decide (Alike W V x y) := by
  rcases h with ⟨rfl, al⟩ | ⟨s, ne, _, _, _, _, na⟩
  · simp [al]
  · simp [ne, na]
theorem TwoAt.symm {H : Hp} {v u : L2.V} {m n : Nat} {W V : Web Str} {x y : Nat} (t : TwoAt K H v u m n W V x y) : TwoAt K H u v n m V W y x := ⟨t.tu, t.tv, t.oV, t.oW, by have := t.le; omega, t.hy, t.hx⟩
theorem said_run {H : Hp} {v u : L2.V} {m n : Nat} {W V : Web Str} {x y : Nat} {Q : VK} {E : XK} (t : TwoAt K H v u m n W V x y) (q : ∀ r H', Ex H H' → SaidAt K H' W V x y r → Q r H') : sp_psaying K [v, .int (x : Int), u, .int (y : Int)] H Q E :=
  ⟨m, n, W, V, v, u, x, y, rfl, t, fun H' e al => q .non H' e (.inl ⟨rfl, al⟩), fun r H' s e tr g h1 h2 => q r H' e (.inr ⟨s, by
    have : ∃ ds, dSay s = .tuple ds := by cases s <;> simp [dSay]
    obtain ⟨ds, hds⟩ := this
    rw [hds] at tr
    obtain ⟨a, xs, rfl, _⟩ := tr.tupI
    exact (fun z => nomatch z), tr, g, h1, h2, fun al => by rw [al s, h2] at h1; cases h1⟩)⟩
theorem c_psaying {σ : L2.St} {H : Hp} {v u : L2.V} {m n : Nat} {W V : Web Str} {x y i j k l : Nat} {Q : VK} {E : XK} (hi : σ[i]? = some (some v)) (hj : σ[j]? = some (some (.int (x : Int)))) (hk : σ[k]? = some (some u)) (hl : σ[l]? = some (some (.int (y : Int)))) (t : TwoAt K H v u m n W V x y)
    (q : ∀ r H', Ex H H' → SaidAt K H' W V x y r → Q r H') : tCall (sp_psaying K) [] E (tCons (tVar i) (tCons (tVar j) (tCons (tVar k) (tCons (tVar l) tNil)))) σ H Q := ⟨_, hi, _, hj, _, hk, _, hl, said_run (E := E) t q⟩
theorem q_par2 {σ : L2.St} {H : Hp} {te1 te2 : TE} {i j : Nat} {tz : TS} {D : Ends} (h : te1 σ H fun v H1 => te2 σ H1 fun u H2 => ∃ v' w', [v, u] = [v', w'] ∧ tz D ((σ.set i (some v')).set j (some w')) H2) : tSeq (tPar i j (tCons te1 (tCons te2 tNil))) tz D σ H := h
abbrev sp_lright (K : PySem.W.Frag) : Sp := fun vs H Q _ => ∃ (m n : Nat) (W V : Web Str) (v u : L2.V), vs = [v, u] ∧ TD K H v (dWeb W) ∧ TD K H u (dWeb V) ∧ WebOk m W ∧ WebOk n V ∧ m + n ≤ 7 ∧ ∀ H', Ex H H' → Q (.bl true) H'
theorem has_lright (D : DefAt K mg "_law_right" st__law_right ["_law_net_here", "_law_other"]) (B : Blt mg) (GS : Has P w K mg base CX0 16 "parting_saying" ["web", "world", "other", "second"] (sp_psaying K)) (GP : Has P w K mg base CX0 6 "pair_paper" ["web", "world", "other", "second"] (sp_paper K))
    (GL : Has P w K mg base CX0 126 "_law_parts" ["_law_net_here", "_law_x", "_law_other", "_law_y", "_law_said"] (sp_lparts K)) : Has P w K mg base CX0 127 "_law_right" ["_law_net_here", "_law_other"] (sp_lright K) := by
  refine D.ok sc__law_right (fun vs H Q E h => ?_) (fun f cdv A outer s H vs Q E hr h => ?_)
  · obtain ⟨m, n, W, V, v, u, rfl, _⟩ := h
    rfl
  · obtain ⟨m, n, W, V, v, u, rfl, tv, tu, oW, oV, le, k⟩ := h
    have nd := sc__law_right.nd
    refine ⟨_, pss_cons (ps_for PassesOwn.never rfl (pi_range1 (by rfl) B.b_range (pa_cons (pe_ix (k_ixT K) (pv 0) pe_int (fun _ _ => rfl)) pa_nil)) (pg_name (i := 2) nd rfl (.inl rfl))
        (pss_one (ps_for PassesOwn.never rfl (pi_range1 (by rfl) B.b_range (pa_cons (pe_ix (k_ixT K) (pv 1) pe_int (fun _ _ => rfl)) pa_nil)) (pg_name (i := 3) nd rfl (.inl rfl))
          (pss_cons (ps_par (i := 4) (j := 5) rfl nd rfl rfl (by decide) rfl rfl (pa_cons (pe_has GS (hr.mono (by omega)) (by rfl) pass0 (pa_cons (pv 0) (pa_cons (pv 2) (pa_cons (pv 1) (pa_cons (pv 3) pa_nil)))))
              (pa_cons (pe_has GP (hr.mono (by omega)) (by rfl) pass0 (pa_cons (pv 0) (pa_cons (pv 2) (pa_cons (pv 1) (pa_cons (pv 3) pa_nil))))) pa_nil)) rfl)
          (pss_cons (ps_if (pt_cmpR op_ne (pe_cmpR k_isNo (pv 4) pe_non (nomark _)) (pe_cmpR k_notNo (pv 5) pe_non (nomark _)) (nomark _)) (pss_one (ps_ret pe_bl)) pss_nil)
          (pss_cons (ps_if (PW.pt (pw_and (pt_cmpR k_notNo (pv 4) pe_non (nomark _)) (pw_and1 (pt_not (pt_val (pe_has GL hr (by rfl) pass0 (pa_cons (pv 0) (pa_cons (pv 2) (pa_cons (pv 1) (pa_cons (pv 3) (pa_cons (pv 4) pa_nil)))))))))))
              (pss_one (ps_ret pe_bl)) pss_nil)
          (pss_cons (ps_set (i := 6) nd rfl (.inl rfl) (pe_has GS (hr.mono (by omega)) (by rfl) pass0 (pa_cons (pv 1) (pa_cons (pv 3) (pa_cons (pv 0) (pa_cons (pv 2) pa_nil))))))
          (pss_one (ps_if (PW.pt (pw_or (pt_cmpR op_ne (pe_cmpR k_isNo (pv 6) pe_non (nomark _)) (pe_cmpR k_isNo (pv 4) pe_non (nomark _)) (nomark _))
              (pw_or1 (PW.pt (pw_and (pt_cmpR k_notNo (pv 6) pe_non (nomark _)) (pw_and1 (pt_not (pt_val (pe_has GL hr (by rfl) pass0 (pa_cons (pv 1) (pa_cons (pv 3) (pa_cons (pv 0) (pa_cons (pv 2) (pa_cons (pv 6) pa_nil)))))))))))))) (pss_one (ps_ret pe_bl)) pss_nil)))))))))
      (pss_one (ps_ret pe_bl)), ?_⟩
    have mz : W.many ≤ 7 := Nat.le_trans oW.many oW.lim
    have nz : V.many ≤ 7 := Nat.le_trans oV.many oV.lim
    refine q_for (K := K) (src_rngT (n := W.many) (ev_many0 (ed_var (v := v) rfl tv)) (by omega)) (fun _ i σ H' => (∃ a b c d e, σ = [some v, some u, a, b, c, d, e]) ∧ Ex H H') (fun H1 e1 => ⟨⟨none, none, none, none, none, rfl⟩, e1⟩) (fun _ _ _ _ _ => trivial) ?_ ?_
    · rintro H1 x d z σ' H2 H3 e1 hd ⟨⟨a, b, c, dd, e, rfl⟩, e2⟩ e3 tz
      obtain ⟨hx, rfl⟩ := range_at hd
      obtain rfl := tz.intI
      have E3 := e2.trans e3
      refine s_for (K := K) (src_rngT (n := V.many) (ev_many0 (ed_var (v := u) rfl (tu.ex E3))) (by omega)) (fun _ i σ H' => (∃ b c d e, σ = [some v, some u, some (.int (x : Int)), b, c, d, e]) ∧ Ex H H') (fun H4 e4 => ⟨⟨b, c, dd, e, rfl⟩, E3.trans e4⟩) (fun _ _ _ _ _ => trivial) ?_ ?_
      · rintro H4 y d z σ' H5 H6 e4 hd ⟨⟨b, c, dd, e, rfl⟩, e5⟩ e6 tz
        obtain ⟨hy, rfl⟩ := range_at hd
        obtain rfl := tz.intI
        have E6 := e5.trans e6
        have t6 : TwoAt K H6 v u m n W V x y := ⟨tv.ex E6, tu.ex E6, oW, oV, le, hx, hy⟩
        dsimp only
        refine q_par2 ?_
        refine c_psaying rfl rfl rfl rfl t6 fun r H7 e7 sr => ?_
        -- pair_paper, then the rest
        have t7 := t6.ex e7
        refine ⟨_, rfl, _, rfl, _, rfl, _, rfl, ?_⟩
        have rest : ∀ (q : L2.V) (H8 : Hp) (D : Ends), Ex H7 H8 → (q = .non ↔ ¬ Alike W V x y) → (∀ σ' H', (∃ b c d e, σ' = [some v, some u, some (.int (x : Int)), b, c, d, e]) → Ex H H' → D.nx σ' H') →
            tSeq (tIfS (tTest (tOp rNe (tOp rIsNo (tVar 4) (tC .non)) (tOp rNotNo (tVar 5) (tC .non)))) (tRet (tC (.bl false))) tNext)
              (tSeq (tIfS (tAnd (tTest (tOp rNotNo (tVar 4) (tC .non))) (tNot (tB (tCall (sp_lparts K) [] E0 (tCons (tVar 0) (tCons (tVar 2) (tCons (tVar 1) (tCons (tVar 3) (tCons (tVar 4) tNil))))))))) (tRet (tC (.bl false))) tNext)
                (tSeq (tAsg (tCall (sp_psaying K) [] E0 (tCons (tVar 1) (tCons (tVar 3) (tCons (tVar 0) (tCons (tVar 2) tNil))))) (gName 6))
                  (tIfS (tOr (tTest (tOp rNe (tOp rIsNo (tVar 6) (tC .non)) (tOp rIsNo (tVar 4) (tC .non)))) (tAnd (tTest (tOp rNotNo (tVar 6) (tC .non))) (tNot (tB (tCall (sp_lparts K) [] E0 (tCons (tVar 1) (tCons (tVar 3) (tCons (tVar 0) (tCons (tVar 2) (tCons (tVar 6) tNil)))))))))) (tRet (tC (.bl false))) tNext)))
              D [some v, some u, some (.int (x : Int)), some (.int (y : Int)), some r, some q, e] H8 := fun q H8 D e8 hq hD => by
          have t8 := t7.ex e8
          have sr8 := sr.ex e8
          have E8 := E6.trans (e7.trans e8)
          have rn : decide (r = .non) = !decide (q = .non) := by
            rcases sr8 with ⟨rfl, al⟩ | ⟨s, ne, _, _, _, _, na⟩
            · simp [hq, al]
            · simp [hq, na, ne]
          refine q_ifF (et_is (et_test (ev_neB (ev_isNo (v := r) (ev_var rfl)) (ev_notNo (v := q) (ev_var rfl)))) (by rw [rn]; simp)) fun H9 e9 => ?_
          -- the saying parts them
          have parts : ∀ {a1 a2 : L2.V} {m1 m2 x1 y1 : Nat} {W1 V1 : Web Str} {i j k1 l1 n1 : Nat} {σ : L2.St} {H1 : Hp} {r1 : L2.V}, TwoAt K H1 a1 a2 m1 m2 W1 V1 x1 y1 → SaidAt K H1 W1 V1 x1 y1 r1 → σ[i]? = some (some a1) → σ[j]? = some (some (.int (x1 : Int))) → σ[k1]? = some (some a2) → σ[l1]? = some (some (.int (y1 : Int))) → σ[n1]? = some (some r1) →
              EvT (tAnd (tTest (tOp rNotNo (tVar n1) (tC .non))) (tNot (tB (tCall (sp_lparts K) [] E0 (tCons (tVar i) (tCons (tVar j) (tCons (tVar k1) (tCons (tVar l1) (tCons (tVar n1) tNil))))))))) σ H1 false := fun {a1 a2 m1 m2 x1 y1 W1 V1 i j k1 l1 n1 σ H1 r1} t1 s1 hi hj hk hl hn => by
            rcases s1 with ⟨rfl, al⟩ | ⟨s, ne, ts, gs, h1, h2, na⟩
            · exact et_is (et_and (b := false) (et_test (ev_notNo (v := .non) (ev_var hn))) fun z => by simp at z) (by simp)
            · refine et_is (et_and (b := false) (et_test (ev_notNo (v := r1) (ev_var hn))) fun _ => et_is (et_not (et_B (b := true) fun H2 e2 Q2 q2 => ?_)) rfl) (by simp)
              exact ⟨_, hi, _, hj, _, hk, _, hl, _, hn, m1, m2, W1, V1, a1, a2, r1, x1, y1, s, rfl, t1.ex e2, ts.ex e2, gs, h1, h2, fun H3 e3 => q2 H3 e3⟩
          refine q_ifF (parts (t8.ex e9) (sr8.ex e9) rfl rfl rfl rfl rfl) fun H10 e10 => ?_
          have t10 := t8.ex (e9.trans e10)
          refine q_raw ?_
          refine c_psaying rfl rfl rfl rfl t10.symm fun r2 H11 e11 sr2 => ?_
          have rn2 : decide (r2 = .non) = decide (r = .non) := by
            rcases sr2 with ⟨rfl, al⟩ | ⟨s, ne, _, _, _, _, na⟩
            · rcases sr8 with ⟨rfl, al2⟩ | ⟨s2, ne2, _, _, _, _, na2⟩
              · rfl
              · exact (na2 al.symm).elim
            · rcases sr8 with ⟨rfl, al2⟩ | ⟨s2, ne2, _, _, _, _, na2⟩
              · exact (na al2.symm).elim
              · simp [ne, ne2]
          refine s_when (b := false) (et_is (et_or (b := false) (et_test (ev_neB (ev_isNo (v := r2) (ev_var rfl)) (ev_isNo (v := r) (ev_var rfl)))) fun _ => parts (t10.symm.ex e11) sr2 rfl rfl rfl rfl rfl) (by rw [rn2]; simp)) (fun q => nomatch q) fun _ H12 e12 => ?_
          exact hD _ H12 ⟨_, _, _, _, rfl⟩ (E8.trans (e9.trans (e10.trans (e11.trans e12))))
        refine ⟨m, n, W, V, v, u, x, y, rfl, t7, fun H8 e8 na => ?_, fun l H8 e8 al => ?_⟩
        · exact ⟨r, .non, rfl, rest .non H8 _ e8 ⟨fun _ => na, fun _ => rfl⟩ fun σ' H' h1 h2 => ⟨h1, h2⟩⟩
        · exact ⟨r, .ref l, rfl, rest (.ref l) H8 _ e8 ⟨(fun z => nomatch z), fun na => (na al).elim⟩ fun σ' H' h1 h2 => ⟨h1, h2⟩⟩
      · rintro H4 σ' H5 e4 ⟨⟨b, c, dd, e, rfl⟩, e5⟩
        exact ⟨⟨_, _, _, _, _, rfl⟩, e5⟩
    · rintro H1 σ' H2 e1 ⟨⟨a, b, c, dd, e, rfl⟩, e2⟩
      exact k H2 e2
end
end K33
set_option autoImplicit false
set_option Elab.async false
set_option linter.all false
set_option maxRecDepth 100000
set_option maxHeartbeats 4000000
/-! set(xs), xs a list of ints. -/
namespace K33
open PySem PySem.Spec PyProof.Rows L2 Evl
/-- a new set, empty -/
abbrev emptySet (w : World) : Obj := { cls := .type "set", dict := none, data := .set #[] 0 (.fresh 0 0 (!w.params.followText "set-order")) }
section
variable {P : Program} {w : World} {A : Around} {E : Value → Shared → Prop} {s : Shared}
/-- set(x): what __init__ does with the new set and x -/
theorem set_enter {x : Value} {Q : Value → Shared → Prop}
    (init : wpAny (model P w) A.in1.in1 (Builtin.«set.__init__» ⟨[.ref s.heap.objs.size, x], []⟩)
      (fun fin s' => match fin with
        | .done f => wants (fun r s2 => r = .none ∧ Q (.ref s.heap.objs.size) s2) E (.ok f) s'
        | .again c' => c'.quiet = true ∧ codeAny (model P w) A.in1 c' (wants (fun r s2 => r = .none ∧ Q (.ref s.heap.objs.size) s2) E) s')
      (fun e s' => wants (fun r s2 => r = .none ∧ Q (.ref s.heap.objs.size) s2) E (.error e) s') { s with heap := s.heap.push (emptySet w) }) :
    wpAny (model P w) A (call (.type "set") [x]) Q E s := by
  obtain ⟨_, _, order⟩ := F.called_set.mro
  have f1 := F.called_set.made
  have f2 := F.called_set.sub
  have f3 := F.called_set.notType
  have f4 := F.called_set.canCreate
  have f5 := F.typeCall_set_1 x
  have f6 := F.called_set.init.lookup
  have f7 := F.called_set.init.bind (.ref s.heap.objs.size)
  have there := Heap.get?_push_size s.heap (o := emptySet w) rfl
  refine wpAny_call (codeAny_of_tree (show wpAny _ _ (callAny (.type "set") _) _ _ _ from wpAny_pure ⟨Code.quiet_builtin _ (by decide +kernel), codeAny_builtin F.entry_type_call ?_⟩))
  rw [Around.under_plain (weight_type_call_type "set" [x] []) rfl]
  repeat (any_goals (first | assumption | wp_step))
  refine codeAny_mono (code_set_led1 x (E := E) (Q₁ := fun obj s1 => obj = .ref s.heap.objs.size ∧ s1 = { s with heap := s.heap.push (emptySet w) }) ⟨rfl, rfl⟩) fun r s1 new => ?_
  rcases r with e | (_ | _ | _ | obj)
  · exact new
  · exact new.elim
  · exact new.elim
  · exact new.elim
  · obtain ⟨rfl, rfl⟩ := new
    have f8 : Shared.TypeIs { s with heap := s.heap.push (emptySet w) } (.ref s.heap.objs.size) "set" := ⟨_, there, rfl⟩
    repeat (any_goals (first | assumption | wp_step))
    refine codeAny_mono (codeAny_call_builtin F.called_set.init.plain F.entry_set_init (check_set_init_1 f8 init)) fun r2 s2 filled => ?_
    rcases r2 with e | (_ | _ | _ | v)
    · exact filled
    · exact filled.elim
    · exact filled.elim
    · exact filled.elim
    · obtain ⟨rfl, got⟩ := filled
      repeat (any_goals (first | assumption | wp_step))
theorem set_of_listI {l : Addr} {vs : List Value} (ns : List Int) {Q : Value → Shared → Prop} (calm : A.handled = none) (hl : s.heap.IsList l vs.toArray) (whole : IntsAre vs ns) (few : ns.length + 1 < scanBound)
    (h : ∀ (h' : Heap) (tk c : Nat), SetR w h' s.heap.objs.size (fun j => decide (j ∈ ns)) c → c ≤ ns.length → (∀ b o, s.heap.get? b = some o → h'.get? b = some o) → Q (.ref s.heap.objs.size) { s with heap := h', toks := tk }) :
    wpAny (model P w) A (call (.type "set") [.ref l]) Q E s := by
  refine set_enter ?_
  have there := Heap.get?_push_size s.heap (o := emptySet w) rfl
  have lt : l < s.heap.objs.size := by
    obtain ⟨o, at_, _⟩ := hl
    exact Heap.lt_size at_
  have list1 : (s.heap.push (emptySet w)).IsList l vs.toArray := hl.push _
  have grown : (s.heap.push (emptySet w)).objs.size = s.heap.objs.size + 1 := Heap.size_push ..
  have many := whole.length
  obtain ⟨⟨lc, ld, ldat, lsl⟩, at_, hc, ln, hd⟩ := id list1
  dsimp only at hc hd
  subst hc
  subst hd
  have s1 := F.sub_list_set
  have s2 := F.sub_list_frozenset
  have s3 : (Value.type "list" == Value.type "dict") = false := by decide
  unfold Builtin.«set.__init__» noKeywords Builtin.Frozenset.updateFrom
  generalize same : pyIter = walk
  wp_walk
  subst same
  refine wpAny_pyIter_list list1 (wpAny_bind (wpAny_runValue ?_))
  have calm3 : A.in1.in1.in1.handled = none := by simp [calm]
  have apart : l ≠ (s.heap.push (emptySet w)).objs.size := by
    rw [grown]
    exact Nat.ne_of_lt (Nat.lt_succ_of_lt lt)
  have out : s.heap.objs.size ∉ [(s.heap.push (emptySet w)).objs.size, l] := by
    rw [grown]
    simp only [List.mem_cons, List.not_mem_nil, or_false, not_or]
    exact ⟨Nat.ne_of_lt (Nat.lt_succ_self _), Nat.ne_of_gt lt⟩
  refine set_update_ints ((Walks.list calm3 _ l apart vs.toArray).toS) s.heap.objs.size out ns (by simpa using many) few (fun i v hv => ?_) (vs.toArray.size - 0) 0 _ rfl (Nat.zero_le _) ⟨⟨_, Heap.get?_push_size _ rfl, rfl, rfl⟩, list1.push _⟩
    ⟨0, Nat.le_refl 0, setR_new_at (Heap.get?_push_of_some _ there)⟩ fun s4 c moved hc hS => ?_
  · have hi : i < ns.length := by
      have := (Array.getElem?_eq_some_iff.mp hv).1
      simp at this
      omega
    obtain ⟨t, e⟩ := IntsAre.int_at whole i v (by simpa using hv)
    refine ⟨ns[i], t, List.getElem?_eq_getElem hi, e.trans ?_⟩
    rw [List.getD_eq_getElem?_getD, List.getElem?_eq_getElem hi]
    rfl
  · obtain ⟨h4, g4, d4, t4, o4⟩ := s4
    obtain rfl : g4 = s.gens := moved.gens
    obtain rfl : d4 = s.drawn := moved.drawn
    obtain rfl : o4 = s.os := moved.os
    refine wpAny_pure (show wpAny _ _ (ret Value.none) _ _ _ from wpAny_pure ⟨rfl, h h4 t4 c hS (by simpa [many] using hc) fun b o e => ?_⟩)
    have := Heap.lt_size e
    refine moved.heap b o ?_ (Heap.get?_push_of_some _ (Heap.get?_push_of_some _ e))
    rw [grown]
    simp only [List.mem_cons, List.not_mem_nil, or_false, not_or]
    exact ⟨Nat.ne_of_lt this, Nat.ne_of_lt (Nat.lt_succ_of_lt this)⟩
end
section
variable {X : Cx}
/-- set(xs), xs a list of ints -/
def rSetOfI (K : PySem.W.Frag) (w : World) : List V → Hp → VK → Prop := fun xs H Q => ∃ (l : Addr) (ns : List Int), xs = [V.ref l] ∧ SqL K H l (ns.map V.int) ∧ ns.length < 64 ∧ ∀ a c, H a = none → c ≤ ns.length → Q (.ref a) (upd H a (SetO w a (fun j => decide (j ∈ ns)) c))
theorem cr_setOfI (hc : X.calm = true) : CallR X (.type "set") (rSetOfI X.K X.w) := fun pins s σ H xs us Q I r ⟨l, ns, ex, hl, few, q⟩ => by
  subst ex
  rw [Vals.ref1 r]
  obtain ⟨its, rv, pl, _⟩ := I.list hl
  exact set_of_listI (P := X.prog) (w := X.w) ns (I.ok.hd hc) pl.isList (ints_of_vals rv) (by unfold scanBound; omega) fun h' tk c R hcn k => ⟨.ref s.heap.objs.size, _, I.laid (t' := tk) k (Nat.le_refl _) (setO_new R), rfl, q _ c (I.hok.fresh (Nat.le_refl _)) hcn⟩
theorem k_setOfI (K : PySem.W.Frag) (w : World) (hc : X.calm = true) (h : X.K = K := by rfl) (h2 : X.w = w := by rfl) : CallR X (.type "set") (rSetOfI K w) := h ▸ h2 ▸ cr_setOfI hc
theorem k_setOfT (K : PySem.W.Frag) (P : Program) (w : World) (hc : X.calm = true) (hu : X.A.units + 64 < cLine) (h : X.K = K := by rfl) (h1 : X.prog = P := by rfl) (h2 : X.w = w := by rfl) : CallR X (.type "set") (rSetOfT K P w) := h ▸ h1 ▸ h2 ▸ cr_setOfT hc hu
theorem k_sortedT (K : PySem.W.Frag) (P : Program) (w : World) (hc : X.calm = true) (h : X.K = K := by rfl) (h1 : X.prog = P := by rfl) (h2 : X.w = w := by rfl) : CallR X (.builtin "sorted") (rSortedT K P w) := h ▸ h1 ▸ h2 ▸ cr_sortedT hc
end
end K33
set_option autoImplicit false
set_option Elab.async false
set_option linter.all false
set_option maxRecDepth 100000
set_option maxHeartbeats 4000000
namespace K33
open PySem PySem.Spec PyProof.Rows L2 Evl
/-- the feed: the list p of the cells' list q, the count of draws, the figures left, the place -/
def FeedAt (p q : Addr) (ns : List Int) (c : Nat) (H : Hp) : Prop := ∃ (k i : Nat) (cur : Int), H p = some (.lst [.ref q, .int (k : Int), .int cur, .int (i : Int)]) ∧ q ≠ p ∧ H q = some (.lst (ns.map V.int)) ∧ k ≤ c ∧ 0 ≤ cur
theorem FeedAt.ex {p q : Addr} {ns : List Int} {c : Nat} {H H' : Hp} (h : FeedAt p q ns c H) (e : Ex H H') : FeedAt p q ns c H' :=
  let ⟨k, i, cur, a, b, d, r⟩ := h
  ⟨k, i, cur, e _ _ a, b, e _ _ d, r⟩
theorem FeedAt.mono {p q : Addr} {ns : List Int} {c c' : Nat} {H : Hp} (h : FeedAt p q ns c H) (e : c ≤ c') : FeedAt p q ns c' H :=
  let ⟨k, i, cur, a, b, d, r, s⟩ := h
  ⟨k, i, cur, a, b, d, Nat.le_trans r e, s⟩
theorem FeedAt.upd {p q l : Addr} {ns : List Int} {c : Nat} {H : Hp} {o : HO} (h : FeedAt p q ns c H) (h1 : l ≠ p) (h2 : l ≠ q) : FeedAt p q ns c (upd H l o) :=
  let ⟨k, i, cur, a, b, d, r⟩ := h
  ⟨k, i, cur, by rw [upd_ne h1.symm]; exact a, b, by rw [upd_ne h2.symm]; exact d, r⟩
theorem k_listS (K : PySem.W.Frag) {X : Cx} (h : X.K = K := by rfl) : CallR X (.type "list") (rListS K) := h ▸ call_list_of
theorem k_slL (K : PySem.W.Frag) {X : Cx} (h : X.K = K := by rfl) : SlR X (rSlL K) := h ▸ sl_list
theorem ExN.updN {N : Addr → Prop} {H0 H : Hp} {a : Addr} {o : HO} (e : ExN N H0 H) (h : H0 a = none) : ExN N H0 (L2.upd H a o) := fun b u hb n => by
  rw [upd_ne (fun z => by subst z; rw [h] at hb; cases hb)]
  exact e b u hb n
section
variable {σ : L2.St} {H : Hp} {ta : TE}
theorem ev_abs {i : Int} (h : Ev ta σ H (.int i)) : Ev (tCB (fun xs H Q => ∃ i, xs = [.int i] ∧ Q (.int (if i < 0 then -i else i)) H) (tCons ta tNil)) σ H (.int (if i < 0 then -i else i)) := fun H1 e _ q => h H1 e _ fun H2 e2 => ⟨i, rfl, q H2 e2⟩
theorem ev_int1 {b : Bool} (h : Ev ta σ H (.bl b)) : Ev (tCB (fun xs H Q => (∃ i, xs = [.int i] ∧ Q (.int i) H) ∨ ∃ k, xs = [.bl k] ∧ Q (.int (if k then 1 else 0)) H) (tCons ta tNil)) σ H (.int (if b then 1 else 0)) := fun H1 e _ q => h H1 e _ fun H2 e2 => .inr ⟨b, rfl, q H2 e2⟩
theorem ev_neI {K : PySem.W.Frag} {q : Addr} {ns : List Int} (h : Ev ta σ H (.ref q)) (hq : H q = some (.lst (ns.map V.int))) : Ev (tOp (rNeD K) ta (tLst tNil)) σ H (.bl (decide (ns ≠ []))) := fun H1 e1 Q k => h H1 e1 _ fun H2 e2 => by
  refine ⟨sz_of (by simp), fun m nm => ⟨.list (ns.map PyData.int), .list [], .lst (sq_of ((e1.trans (e2.trans (Ex.new nm))) _ _ hq)) ?_, .lst (sq_of upd_same) .nil, (shp_list (n := 0) (fun d hd => by
        obtain ⟨i, _, rfl⟩ := List.mem_map.mp hd
        exact shp_int i)).shaped (by decide), (shp_list (n := 0) (by simp)).shaped (by decide), ?_⟩⟩
  · clear hq k
    induction ns with
    | nil => exact .nil
    | cons i r ih => exact .cons (.int i) ih
  · have : (!PyData.eqv (.list (ns.map PyData.int)) (.list [])) = decide (ns ≠ []) := by
      cases ns with
      | nil => simp [PyData.eqv, PyData.eqvAll]
      | cons a r => simp [PyData.eqv, PyData.eqvAll]
    rw [this]
    exact k _ (e2.trans (Ex.new nm))
end
section
variable {P : Program} {w : World} {K : PySem.W.Frag} {mg : Str → Option Value} {base : Heap}
abbrev sp_lfeed (K : PySem.W.Frag) : Sp := fun vs H Q _ => ∃ (a : Addr) (ns : List Int), vs = [.ref a] ∧ SqL K H a (ns.map V.int) ∧ ∀ p q ns' H', Ex H H' → FeedAt p q ns' 0 H' → Q (.ref p) H'
theorem has_lfeed (D : DefAt K mg "_law_feed" st__law_feed ["_law_script"]) (B : Blt mg) : Has P w K mg base CX0 1 "_law_feed" ["_law_script"] (sp_lfeed K) := by
  refine D.ok sc__law_feed (fun vs H Q E h => ?_) (fun f cdv A outer s H vs Q E hr h => ?_)
  · obtain ⟨a, ns, rfl, _⟩ := h
    rfl
  · obtain ⟨a, ns, rfl, ha, k⟩ := h
    refine ⟨_, pss_one (ps_ret (pe_lst (pa_cons (pe_callTy (k_listS K) (by rfl) B.b_list (by decide +kernel) (pa_cons (pe_slice (k_slL K) (pv 0) po_none (po_some pe_int)) pa_nil)) (pa_cons pe_int (pa_cons pe_int (pa_cons pe_int pa_nil)))))), ?_⟩
    refine ⟨_, rfl, 63, rfl, a, _, rfl, ha, fun l nl => ?_⟩
    refine ⟨l, _, rfl, .inl (sq_of upd_same), fun l2 n2 => ?_⟩
    refine ⟨sz_of (by simp), fun p np => ?_⟩
    have hl2 : p ≠ l2 := fun z => by subst z; rw [upd_same] at np; cases np
    obtain ⟨ns', hns⟩ : ∃ ns' : List Int, cutV (ns.map V.int) none (some 63) = ns'.map V.int := ⟨(ns.drop (HT.sIx (ns.map V.int).length 0 none)).take (HT.sIx (ns.map V.int).length (ns.map V.int).length (some 63) - HT.sIx (ns.map V.int).length 0 none), by unfold cutV; rw [List.map_take, List.map_drop]⟩
    exact k p l2 ns' _ ((Ex.new nl).trans ((Ex.new n2).trans (Ex.new np))) ⟨0, 0, 0, upd_same, hl2.symm, by rw [upd_ne hl2.symm, upd_same, hns], Nat.le_refl _, Int.le_refl _⟩
abbrev sp_ldraw (K : PySem.W.Frag) : Sp := fun vs H Q _ => ∃ (p q : Addr) (ns : List Int) (c many : Nat), vs = [.ref p, .int (many : Int)] ∧ FeedAt p q ns c H ∧ c ≤ 100000 ∧ 0 < many ∧ many ≤ 1000 ∧ ∀ (r : Nat) H', ExN (· = p) H H' → FeedAt p q ns (c + 1) H' → r < many → Q (.int (r : Int)) H'
theorem has_ldraw (D : DefAt K mg "_law_draw" st__law_draw ["_law_feed_here", "_law_many"]) (B : Blt mg) : Has P w K mg base CX0 1 "_law_draw" ["_law_feed_here", "_law_many"] (sp_ldraw K) := by
  refine D.ok sc__law_draw (fun vs H Q E h => ?_) (fun f cdv A outer s H vs Q E hr h => ?_)
  · obtain ⟨p, q, ns, c, many, rfl, _⟩ := h
    rfl
  · obtain ⟨p, q, ns, c, many, rfl, ⟨k0, i0, cur0, hp, qp, hq, hk, hcur⟩, hc, m0, m1, kk⟩ := h
    have nd := sc__law_draw.nd
    refine ⟨_, pss_cons (ps_asg (pe_op op_add (pe_ix (k_ixL K) (pv 0) pe_int (fun _ _ => rfl)) pe_int) (pg_sub (pv 0) pe_int set_list))
      (pss_cons (ps_while PassesOwn.never (PW.pt (pw_and (pt_cmpR op_eq (pe_ix (k_ixL K) (pv 0) pe_int (fun _ _ => rfl)) pe_int (nomark _)) (pw_and1 (pt_cmpR op_lt (pe_ix (k_ixL K) (pv 0) pe_int (fun _ _ => rfl)) (pe_callB (k_len K) (by rfl) B.b_len (by decide +kernel) (pa_cons (pe_ix (k_ixL K) (pv 0) pe_int (fun _ _ => rfl)) pa_nil)) (nomark _)))))
        (pss_cons (ps_set (i := 2) nd rfl (.inl rfl) (pe_callB call_abs (by rfl) B.b_abs (by decide +kernel) (pa_cons (pe_ix (k_ixL K) (pe_ix (k_ixL K) (pv 0) pe_int (fun _ _ => rfl)) (pe_ix (k_ixL K) (pv 0) pe_int (fun _ _ => rfl)) (fun _ _ => rfl)) pa_nil)))
        (pss_cons (ps_asg (pe_op op_mul (pv 2) (pe_callTy call_int1 (by rfl) B.b_int (by decide +kernel) (pa_cons (pe_cmpR op_ge (pv 2) (pe_op op_pow pe_int pe_int) (nomark _)) pa_nil))) (pg_sub (pv 0) pe_int set_list))
        (pss_one (ps_asg (pe_op op_add (pe_ix (k_ixL K) (pv 0) pe_int (fun _ _ => rfl)) pe_int) (pg_sub (pv 0) pe_int set_list))))))
      (pss_cons (ps_if (pt_cmpR op_gt (pe_ix (k_ixL K) (pv 0) pe_int (fun _ _ => rfl)) pe_int (nomark _))
        (pss_cons (ps_set (i := 3) nd rfl (.inl rfl) (pe_op op_mod (pe_ix (k_ixL K) (pv 0) pe_int (fun _ _ => rfl)) (pv 1)))
        (pss_cons (ps_asg (pe_op op_fdiv (pe_ix (k_ixL K) (pv 0) pe_int (fun _ _ => rfl)) (pv 1)) (pg_sub (pv 0) pe_int set_list))
        (pss_one (ps_ret (pv 3))))) pss_nil)
      (pss_cons (ps_set (i := 2) nd rfl (.inl rfl) (pe_ifExp (pt_cmpR (k_neD K hr.units) (pe_ix (k_ixL K) (pv 0) pe_int (fun _ _ => rfl)) (pe_lst pa_nil) (nomark _))
          (pe_ix (k_ixL K) (pe_ix (k_ixL K) (pv 0) pe_int (fun _ _ => rfl)) (pe_op op_mod (pe_ix (k_ixL K) (pv 0) pe_int (fun _ _ => rfl)) (pe_callB (k_len K) (by rfl) B.b_len (by decide +kernel) (pa_cons (pe_ix (k_ixL K) (pv 0) pe_int (fun _ _ => rfl)) pa_nil))) (fun _ _ => rfl)) pe_int))
      (pss_cons (ps_set (i := 4) nd rfl (.inl rfl) (pe_op op_mod (pe_op op_pow (pe_op op_add (pe_op op_add (pe_op op_mod (pv 2) pe_int) (pe_op op_mul (pe_op op_mul pe_int (pe_ix (k_ixL K) (pv 0) pe_int (fun _ _ => rfl))) (pe_op op_add (pe_ix (k_ixL K) (pv 0) pe_int (fun _ _ => rfl)) pe_int))) pe_int) pe_int) pe_int))
      (pss_one (ps_ret (pe_op op_mod (pe_op op_fdiv (pe_op op_mod (pe_op op_pow (pe_op op_add (pv 4) (pe_op op_mul pe_int (pe_ix (k_ixL K) (pv 0) pe_int (fun _ _ => rfl)))) pe_int) pe_int) pe_int) (pv 1)))))))), ?_⟩
    -- a figure of the feed
    have ix : ∀ {σ : L2.St} {H1 : Hp} {xs : List V} {j : Int} {v : V}, σ[0]? = some (some (.ref p)) → H1 p = some (.lst xs) → atI xs j = some v → Ev (tOp (rIxL K) (tVar 0) (tC (.int j))) σ H1 v := fun h1 h2 h3 => ev_op (ev_var h1) ev_c (rv_ixL (sq_of h2) h3)
    have ln : ∀ {σ : L2.St} {H1 : Hp} {te : TE}, Ev te σ H1 (.ref q) → H1 q = some (.lst (ns.map V.int)) → Ev (tCB (rLenS' K) (tCons te tNil)) σ H1 (.int (ns.length : Int)) := fun h1 h2 H2 e2 Q2 q2 => h1 H2 e2 _ fun H3 e3 => ⟨q, _, rfl, .inl (sq_of ((e2.trans e3) _ _ h2)), by rw [List.length_map]; exact q2 H3 e3⟩
    refine q_setL hp (j := 1) (ev_op (ix rfl hp rfl) ev_c rv_I0) (ev_var rfl) ev_c (by simp) fun H1 e1 => ?_
    have stp : ∀ {H0 H1 : Hp} {o : HO}, ExN (· = p) H H0 → Ex H0 H1 → ExN (· = p) H (upd H1 p o) := fun a b => (a.trans (ExN.ex b)).trans (ExN.upd rfl)
    have hk1 : ((k0 : Int) + 1) = ((k0 + 1 : Nat) : Int) := by omega
    refine q_while (fun m σ' H' => (∃ a, σ' = [some (.ref p), some (.int (many : Int)), a, none, none]) ∧ ∃ (i : Nat) (cur : Int), H' p = some (.lst [.ref q, .int ((k0 + 1 : Nat) : Int), .int cur, .int (i : Int)]) ∧ H' q = some (.lst (ns.map V.int)) ∧ ExN (· = p) H H' ∧ 0 ≤ cur ∧ m = ns.length - i)
      (ns.length - i0) ⟨⟨none, rfl⟩, i0, cur0, by rw [upd_same, ← hk1]; rfl, by rw [upd_ne qp]; exact e1 _ _ hq, stp (ExN.refl _) e1, hcur, rfl⟩ ?_
    rintro m σ' H2 ⟨⟨a, rfl⟩, i, cur, hp2, hq2, en2, hcur2, rfl⟩
    refine ⟨_, et_and (et_test (ev_op (ix rfl hp2 rfl) ev_c (rv_eq rfl))) (fun _ => et_test (ev_op (ix rfl hp2 rfl) (ln (ix rfl hp2 rfl) hq2) rv_I0)), fun hb H3 e3 => ?_, fun hb H3 e3 => ?_⟩
    · simp only [Bool.and_eq_true, decide_eq_true_eq] at hb
      have il : i < ns.length := by omega
      have hp3 := e3 _ _ hp2
      have hq3 := e3 _ _ hq2
      refine ⟨fun σ2 H' => (∃ a, σ2 = [some (.ref p), some (.int (many : Int)), a, none, none]) ∧ ∃ (cur : Int), H' p = some (.lst [.ref q, .int ((k0 + 1 : Nat) : Int), .int cur, .int ((i + 1 : Nat) : Int)]) ∧ H' q = some (.lst (ns.map V.int)) ∧ ExN (· = p) H H' ∧ 0 ≤ cur, ?_, ?_⟩
      · rintro σ2 H' ⟨a, cur', b1, b2, b3, b4⟩
        exact ⟨ns.length - (i + 1), by omega, a, i + 1, cur', b1, b2, b3, b4, rfl⟩
      have hget : (ns.map V.int)[i]? = some (.int ns[i]) := by rw [List.getElem?_map, List.getElem?_eq_getElem il]; rfl
      refine q_asg (ev_abs (ev_op (ix rfl hp3 rfl) (ix rfl hp3 rfl) (rv_ixL (sq_of hq3) (atI_nat hget)))) fun H4 e4 => ?_
      have hp4 := e4 _ _ hp3
      have a0 : 0 ≤ (if ns[i] < 0 then -ns[i] else ns[i]) := by split <;> omega
      generalize (if ns[i] < 0 then -ns[i] else ns[i]) = cell at a0
      refine q_setL hp4 (j := 2) (ev_op (ev_var rfl) (ev_int1 (ev_op (ev_var rfl) (ev_op ev_c ev_c (rv_I ⟨by decide, by decide, by decide⟩)) rv_I0)) (rv_I (.inr ?_))) (ev_var rfl) ev_c (by simp) fun H5 e5 => ?_
      · split <;> decide
      refine s_setL upd_same (j := 3) (ev_op (ix rfl upd_same rfl) ev_c rv_I0) (ev_var rfl) ev_c (by simp) fun H6 e6 => ?_
      refine ⟨⟨_, rfl⟩, _, upd_same, by rw [upd_ne qp]; exact e6 _ _ (by rw [upd_ne qp]; exact (e4.trans e5) _ _ hq3), stp (stp (en2.trans (ExN.ex e3)) (e4.trans e5)) e6, ?_⟩
      split <;> omega
    · have hp3 := e3 _ _ hp2
      have hq3 := e3 _ _ hq2
      have en3 := en2.trans (ExN.ex e3)
      have fin : ∀ {r : Int} {H' : Hp} {i' : Nat} {cur' : Int}, ExN (· = p) H H' → H' p = some (.lst [.ref q, .int ((k0 + 1 : Nat) : Int), .int cur', .int (i' : Int)]) → H' q = some (.lst (ns.map V.int)) → 0 ≤ cur' → 0 ≤ r → r < many → Q (.int r) H' := fun {r H' i' cur'} a b c d e f => by
        have := kk r.toNat H' a ⟨k0 + 1, i', cur', b, qp, c, by omega, d⟩ (by omega)
        rwa [Int.toNat_of_nonneg e] at this
      have mp : (0 : Int) < (many : Int) := by omega
      refine q_when (b := decide (cur > 0)) (et_test (ev_op (ix rfl hp3 rfl) ev_c rv_I0)) (fun hb H4 e4 => ?_) fun hb H4 e4 => ?_
      · have hp4 := e4 _ _ hp3
        refine q_asg (ev_op (ix rfl hp4 rfl) (ev_var rfl) (rv_I mp)) fun H5 e5 => ?_
        have hp5 := e5 _ _ hp4
        refine q_setL hp5 (j := 2) (ev_op (ix rfl hp5 rfl) (ev_var rfl) (rv_I ⟨mp, by omega⟩)) (ev_var rfl) ev_c (by simp) fun H6 e6 => ?_
        refine s_ret (ev_var rfl) fun H7 e7 => ?_
        refine fin (i' := i) (cur' := cur / (many : Int)) ((stp en3 (e4.trans (e5.trans e6))).trans (ExN.ex e7)) (e7 _ _ upd_same) (e7 _ _ (by rw [upd_ne qp]; exact (e4.trans (e5.trans e6)) _ _ hq3)) (Int.ediv_nonneg hcur2 (by omega)) (Int.emod_nonneg _ (by omega)) (Int.emod_lt_of_pos _ mp)
      · have hp4 := e4 _ _ hp3
        have hq4 := e4 _ _ hq3
        refine q_asg (v := .int (if h : ns = [] then 5 else ns[(k0 + 1) % ns.length]'(Nat.mod_lt _ (List.length_pos_iff.mpr h)))) (ev_if (et_test (ev_neI (ix rfl hp4 rfl) hq4)) (fun hb => ?_) fun hb => ?_) fun H5 e5 => ?_
        · have hne : ns ≠ [] := of_decide_eq_true hb
          have lp : 0 < ns.length := List.length_pos_iff.mpr hne
          rw [dif_neg hne]
          refine ev_op (ix rfl hp4 rfl) (ev_is (v := .int (((k0 + 1) % ns.length : Nat) : Int)) (ev_op (ix rfl hp4 rfl) (ln (ix rfl hp4 rfl) hq4) (rv_I (by omega))) (by rw [Int.natCast_emod])) (rv_ixL (sq_of hq4) (atI_nat ?_))
          rw [List.getElem?_map, List.getElem?_eq_getElem (Nat.mod_lt _ lp)]
          rfl
        · have hne : ns = [] := by simpa using hb
          exact ev_is ev_c (by rw [dif_pos hne])
        generalize (if h : ns = [] then 5 else ns[(k0 + 1) % ns.length]'(Nat.mod_lt _ (List.length_pos_iff.mpr h))) = cell
        have hp5 := e5 _ _ hp4
        have b1 : (0 : Int) ≤ ((k0 + 1 : Nat) : Int) ∧ ((k0 + 1 : Nat) : Int) ≤ 100001 := by omega
        have b2 : 0 ≤ 613 * ((k0 + 1 : Nat) : Int) * (((k0 + 1 : Nat) : Int) + 7) ∧ 613 * ((k0 + 1 : Nat) : Int) * (((k0 + 1 : Nat) : Int) + 7) ≤ 613 * 100001 * 100008 :=
          ⟨Int.mul_nonneg (by omega) (by omega), Int.mul_le_mul (by omega) (by omega) (by omega) (by omega)⟩
        have b3 : 0 ≤ cell % 1000003 ∧ cell % 1000003 < 1000003 := ⟨Int.emod_nonneg _ (by decide), Int.emod_lt_of_pos _ (by decide)⟩
        refine q_asg (ev_op (ev_op (ev_op (ev_op (ev_op (ev_var rfl) ev_c (rv_I (by decide))) (ev_op (ev_op ev_c (ix rfl hp5 rfl) (rv_I (.inl ⟨by decide, by decide⟩))) (ev_op (ix rfl hp5 rfl) ev_c rv_I0) (rv_I (.inr ⟨by omega, by omega⟩))) rv_I0) ev_c rv_I0) ev_c (rv_I ⟨by decide, by decide, by omega⟩)) ev_c (rv_I (by decide))) fun H6 e6 => ?_
        have b4 : ∀ x : Int, 0 ≤ x % 2147483647 ∧ x % 2147483647 < 2147483647 := fun x => ⟨Int.emod_nonneg _ (by decide), Int.emod_lt_of_pos _ (by decide)⟩
        generalize hmx : (cell % 1000003 + 613 * ((k0 + 1 : Nat) : Int) * (((k0 + 1 : Nat) : Int) + 7) + 17) ^ (5 : Int).toNat % 2147483647 = mixed
        have b5 : 0 ≤ mixed ∧ mixed < 2147483647 := by rw [← hmx]; exact b4 _
        have hp6 := e6 _ _ hp5
        refine s_ret (ev_op (ev_op (ev_op (ev_op (ev_op (ev_var rfl) (ev_op ev_c (ix rfl hp6 rfl) (rv_I (.inl ⟨by decide, by decide⟩))) rv_I0) ev_c (rv_I ⟨by decide, by decide, by omega⟩)) ev_c (rv_I (by decide))) ev_c (rv_I ⟨by decide, by decide⟩)) (ev_var rfl) (rv_I mp)) fun H7 e7 => ?_
        exact fin (i' := i) (cur' := cur) (en3.trans (ExN.ex (e4.trans (e5.trans (e6.trans e7))))) (e7 _ _ hp6) ((e5.trans (e6.trans e7)) _ _ hq4) hcur2 (Int.emod_nonneg _ (by omega)) (Int.emod_lt_of_pos _ mp)
end
end K33
set_option autoImplicit false
set_option Elab.async false
set_option linter.all false
set_option maxRecDepth 100000
set_option maxHeartbeats 4000000
namespace K33
open PySem PySem.Spec PyProof.Rows L2 Evl
/-- a dict of hands: each has a list of pairs of places -/
structure HandsAt (K : PySem.W.Frag) (H : Hp) (D : Addr) (n : Nat) (rows : List (Str × Addr × List (Addr × Nat × Nat))) : Prop where
  d : H D = some (.dK (rows.map fun r => ((Sum.inr r.1 : Key), V.ref r.2.1)))
  nd : (rows.map (·.1)).Nodup
  nm : ∀ h ∈ rows.map (·.1), h ∈ (["h", "k", "zz"] : List Str)
  ls : ∀ r ∈ rows, H r.2.1 = some (.lst (r.2.2.map fun t => V.ref t.1)) ∧ r.2.2.length < 64 ∧ ∀ t ∈ r.2.2, SqT K H t.1 [.int (t.2.1 : Int), .int (t.2.2 : Int)] ∧ t.2.1 < n ∧ t.2.2 < n
/-- a dict of letters: each has a list of places -/
structure MarksAt (H : Hp) (D : Addr) (n : Nat) (rows : List (Str × Addr × List Nat)) : Prop where
  d : H D = some (.dK (rows.map fun r => ((Sum.inr r.1 : Key), V.ref r.2.1)))
  nd : (rows.map (·.1)).Nodup
  nm : ∀ h ∈ rows.map (·.1), h ∈ (["a", "b", "zz"] : List Str)
  ls : ∀ r ∈ rows, H r.2.1 = some (.lst ((nats r.2.2).map V.int)) ∧ r.2.2.length < 64 ∧ ∀ y ∈ r.2.2, y < n
section
variable {K : PySem.W.Frag} {H H' : Hp} {D : Addr} {n : Nat}
theorem HandsAt.ex {rows : List (Str × Addr × List (Addr × Nat × Nat))} (h : HandsAt K H D n rows) (e : Ex H H') : HandsAt K H' D n rows :=
  ⟨e _ _ h.d, h.nd, h.nm, fun r hr => let ⟨a, b, c⟩ := h.ls r hr; ⟨e _ _ a, b, fun t ht => let ⟨x, y⟩ := c t ht; ⟨ex_t e x, y⟩⟩⟩
theorem MarksAt.ex {rows : List (Str × Addr × List Nat)} (h : MarksAt H D n rows) (e : Ex H H') : MarksAt H' D n rows :=
  ⟨e _ _ h.d, h.nd, h.nm, fun r hr => let ⟨a, b⟩ := h.ls r hr; ⟨e _ _ a, b⟩⟩
end
theorem valV_rows {ρ : Type} (nm : ρ → Str) (ad : ρ → Addr) : ∀ {rows : List ρ} {r : ρ}, (rows.map nm).Nodup → r ∈ rows → valV (rows.map fun r => ((Sum.inr (nm r) : Key), V.ref (ad r))) (Sum.inr (nm r)) = some (.ref (ad r))
  | a :: rows, r, nd, hr => by
    rw [List.map_cons, List.nodup_cons] at nd
    rcases List.mem_cons.mp hr with rfl | hr
    · exact valV_pos rfl
    · rw [List.map_cons, valV_neg (fun z => nd.1 (by rw [show nm a = nm r from Sum.inr.inj z]; exact List.mem_map_of_mem hr))]
      exact valV_rows nm ad nd.2 hr
section
variable {K : PySem.W.Frag} {σ : L2.St} {H H' : Hp} {ta tb te te0 td tx : TE} {t : TT} {wi : TI} {g : TG} {α β : Type} {l : List α} {enc : α → PyData}
/-- [e for .. if ..], in the order of the turns -/
theorem lc_pick {vs : List Nat} {dec : β → PyData} {key : β → Str} {ak : α → Str} {G : β → Prop} (h : Src Ex K wi σ H (l.map enc)) (hz : l.length ≤ 100000)
    (hs : ∀ a ∈ l, ∀ x H1 (Q : L2.St → Hp → Prop), Ex H H1 → TD K H1 x (enc a) → (∀ σ2, wipe σ2 vs = wipe σ vs → (∃ b, EvT t σ2 H1 b) → ED K te σ2 H1 (fun d => ∃ q, d = dec q ∧ key q = ak a ∧ G q) → Q σ2 H1) → g x (wipe σ vs) H1 Q) :
    ELd K (tLc wi g t te vs) σ H (fun ds => ∃ ws : List β, ds = ws.map dec ∧ (ws.map key).Sublist (l.map ak) ∧ ∀ q ∈ ws, G q) := fun H1 e1 Q q => by
  refine lc_wk (h.mono e1) (fun H2 D i H' => H2 D = none ∧ Ex H2 H' ∧ ∃ (k : List V) (ws : List β), H' D = some (.lst k) ∧ k.length ≤ i ∧ TDs K H' k (ws.map dec) ∧ (ws.map key).Sublist ((l.take i).map ak) ∧ ∀ q ∈ ws, G q) (fun H2 D a n => ⟨n, Ex.new n, [], [], upd_same, Nat.le_refl _, .nil, by simp, by simp⟩) (fun H2 D i H' n p => p.2.1) ?_ ?_
  · intro H2 D i d' x H' H3 a n hd p e3 tx
    obtain ⟨_, p2, k, ws, pl, pz, pt, ps, pg⟩ := p
    rw [List.getElem?_map] at hd
    cases hl : l[i]? with
    | none => rw [hl] at hd; cases hd
    | some d =>
      rw [hl] at hd
      cases hd
      have hi : i < l.length := (List.getElem?_eq_some_iff.mp hl).1
      have nD : ∀ {H4 : Hp}, Ex H' H4 → H4 D = some (.lst k) := fun e4 => e4 _ _ pl
      refine hs d (List.mem_of_getElem? hl) x H3 _ ((e1.trans a).trans (p2.trans e3)) tx fun σ2 w2 ht he => ⟨w2, ?_⟩
      obtain ⟨b, ht⟩ := ht
      have tk : (l.take (i + 1)).map ak = (l.take i).map ak ++ [ak d] := by rw [List.take_add_one, hl, List.map_append]; rfl
      refine ht H3 (Ex.refl _) _ fun H4 e4 => ?_
      cases b with
      | true =>
        rw [if_pos rfl]
        refine he H4 e4 _ fun y H5 d' e5 ty ey => ⟨k, nD ((e3.trans e4).trans e5), sz_lt (by omega), n, Ex.mut (((p2.trans e3).trans e4).trans e5) n, ?_⟩
        obtain ⟨q, rfl, kq, gq⟩ := ey
        have kt : Kt H5 (upd H5 D (.lst (k ++ [y]))) := Kt.upd (nD ((e3.trans e4).trans e5)) rfl
        refine ⟨k ++ [y], ws ++ [q], upd_same, by simp; exact pz, ?_, ?_, fun z hz => ?_⟩
        · rw [List.map_append]
          exact ((pt.ex ((e3.trans e4).trans e5)).mono kt).snoc (ty.mono kt)
        · rw [tk, List.map_append]
          exact ps.append (by rw [← kq]; exact List.Sublist.refl _)
        · rcases List.mem_append.mp hz with hz | hz
          · exact pg z hz
          · rw [List.mem_singleton.mp hz]
            exact gq
      | false =>
        rw [if_neg Bool.false_ne_true]
        refine ⟨n, (p2.trans e3).trans e4, k, ws, nD (e3.trans e4), Nat.le_succ_of_le pz, pt.ex (e3.trans e4), ?_, pg⟩
        rw [tk]
        exact ps.trans (List.sublist_append_left _ _)
  · intro H2 D H' a n p
    obtain ⟨_, p2, k, ws, pl, pz, pt, ps, pg⟩ := p
    rw [List.length_map, List.take_length] at ps
    exact q D k H' _ (fresh_back a n) (a.trans p2) pl pt ⟨ws, rfl, ps, pg⟩
/-- over a new list of texts -/
theorem eld_lcS {vs : List Nat} {Pd : List Str → Prop} {R : List PyData → Prop} (h : ∀ H1, Ex H H1 → ∀ Q : VK, (∀ p ys H2, H1 p = none → Ex H1 H2 → H2 p = some (.lst (ys.map V.str)) → Pd ys → Q (.ref p) H2) → te0 σ H1 Q)
    (k : ∀ p ys H1, Ex H H1 → H1 p = some (.lst (ys.map V.str)) → Pd ys → ELd K (tLc (iList K (tC (.ref p))) g t te vs) σ H1 R) : ELd K (tLc (iList K te0) g t te vs) σ H R := fun H1 e1 Q q =>
  h H1 e1 _ fun p ys H2 n e2 hp py => k p ys H2 (e1.trans e2) hp py H2 (Ex.refl _) Q fun p' xs H3 ds n' e3 h3 t3 r3 => q p' xs H3 ds (fresh_back e2 n') (e2.trans e3) h3 t3 r3
theorem eld_list {p : Addr} {xs : List V} {ds : List PyData} (h : Ev te σ H (.ref p)) (hl : SqL K H p xs) (ts : TDs K H xs ds) : ELd K (tCB (rListS K) (tCons te tNil)) σ H (· = ds) := fun H1 e1 Q q =>
  h H1 e1 _ fun H2 e2 => ⟨p, xs, rfl, .inl (ex_l (e1.trans e2) hl), fun m nm => q m xs _ ds (fresh_back e2 nm) (e2.trans (Ex.new nm)) upd_same (ts.ex ((e1.trans e2).trans (Ex.new nm))) rfl⟩
/-- a new list beside [] -/
theorem ev_neLd {ds : List PyData} (h : ELd K te σ H (· = ds)) (hs : ∀ d ∈ ds, Shp 8 d) : Ev (tOp (rNeD K) te (tLst tNil)) σ H (.bl (decide (ds ≠ []))) := fun H1 e1 Q k => h H1 e1 _ fun p xs H2 ds' n e2 hp tp ed => by
  subst ed
  refine ⟨sz_of (by simp), fun m nm => ⟨.list ds', .list [], .lst (sq_of (Ex.new nm _ _ hp)) (TDs.dp _ _ (tp.ex (Ex.new nm))), .lst (sq_of upd_same) .nil, (shp_list hs).shaped (by decide), (shp_list (n := 0) (by simp)).shaped (by decide), ?_⟩⟩
  have : (!PyData.eqv (.list ds') (.list [])) = decide (ds' ≠ []) := by
    cases ds' with
    | nil => simp [PyData.eqv, PyData.eqvAll]
    | cons a r => simp [PyData.eqv, PyData.eqvAll]
  rw [this]
  exact k _ (e2.trans (Ex.new nm))
theorem ev_dget {D : Addr} {kvs : List (Key × V)} {z : Str} {v : V} (h : Ev td σ H (.ref D)) (hx : Ev tx σ H (.str z)) (hd : H D = some (.dK kvs)) (hv : valV kvs (Sum.inr z) = some v) : Ev (tDGet td tx) σ H v := fun H1 e1 Q q =>
  h H1 e1 _ fun H2 e2 => hx H2 (e1.trans e2) _ fun H3 e3 => ⟨D, v, rfl, .inl ⟨kvs, Sum.inr z, .inl ((e1.trans (e2.trans e3)) _ _ hd), rfl, hv.symm⟩, q H3 (e2.trans e3)⟩
theorem nodup_of_map {γ δ : Type} {f : γ → δ} {l : List γ} (h : (l.map f).Nodup) : l.Nodup := (List.pairwise_map.mp h).imp fun h e => h (congrArg f e)
/-- tuple(sorted(set(pairs))) -/
theorem ed_pairs {P : Program} {w : World} {p0 : Addr} {ts : List (Addr × Nat × Nat)} {n : Nat} (h : Ev te σ H (.ref p0)) (hl : H p0 = some (.lst (ts.map fun t => V.ref t.1))) (hz : ts.length < 64) (ht : ∀ t ∈ ts, SqT K H t.1 [.int (t.2.1 : Int), .int (t.2.2 : Int)] ∧ t.2.1 < n ∧ t.2.2 < n) (hn : n ≤ 64) :
    ED K (tCB (rTuple K) (tCons (tCB (rSortedT K P w) (tCons (tCB (rSetOfT K P w) (tCons te tNil)) tNil)) tNil)) σ H (fun d => ∃ ps : List (Nat × Nat), d = dPairs ps ∧ ps.Nodup ∧ ∀ p ∈ ps, p.1 < n ∧ p.2 < n) := fun H1 e1 Q q =>
  h H1 e1 _ fun H2 e2 => by
    have E := e1.trans e2
    have mem : ∀ {p : Addr × List Int}, p ∈ (ts.map fun t => (t.1, [(t.2.1 : Int), (t.2.2 : Int)])) → ∃ t ∈ ts, p = (t.1, [(t.2.1 : Int), (t.2.2 : Int)]) := fun hp => by
      obtain ⟨t, h1, h2⟩ := List.mem_map.mp hp
      exact ⟨t, h1, h2.symm⟩
    refine ⟨p0, ts.map fun t => (t.1, [(t.2.1 : Int), (t.2.2 : Int)]), rfl, sq_of (by rw [List.map_map]; exact E _ _ hl), fun p hp => ?_, by rw [List.length_map]; exact hz, fun a L na hL _ => ?_⟩
    · obtain ⟨t, h1, rfl⟩ := mem hp
      exact ex_t E (ht t h1).1
    refine ⟨a, L, 2, 64, rfl, upd_same, fun p hp => ?_, by decide, fun p hp => ?_, fun L' p pm nd _ _ np => ?_⟩
    · obtain ⟨t, h1, rfl⟩ := mem (hL p hp)
      exact ex_t (E.trans (Ex.new na)) (ht t h1).1
    · obtain ⟨t, h1, rfl⟩ := mem (hL p hp)
      have := (ht t h1).2
      refine ⟨rfl, fun m hm => ?_⟩
      simp only [List.mem_cons, List.not_mem_nil, or_false] at hm
      rcases hm with rfl | rfl <;> omega
    · refine ⟨p, _, rfl, .inl ⟨sq_of upd_same, fun m nm => ?_⟩⟩
      have E3 := (Ex.new (o := SetTO P w a L) na).trans ((Ex.new (o := HO.lst (L'.map fun q => V.ref q.1)) np).trans (Ex.new (o := HO.tup (L'.map fun q => V.ref q.1)) nm))
      have mem' : ∀ {p : Addr × List Int}, p ∈ L' → ∃ t ∈ ts, p = (t.1, [(t.2.1 : Int), (t.2.2 : Int)]) := fun hp => mem (hL _ (pm.mem_iff.mp hp))
      refine q (.ref m) _ (dPairs (L'.map fun q => ((q.2.getD 0 0).toNat, (q.2.getD 1 0).toNat))) (e2.trans E3) (.tup (st_of upd_same) ?_) ⟨_, rfl, ?_, fun p hp => ?_⟩
      · rw [List.map_map]
        refine tds_map fun z hz => ?_
        obtain ⟨t, h1, rfl⟩ := mem' hz
        exact .tup (ex_t (E.trans E3) (ht t h1).1) (.cons (.int _) (.cons (.int _) .nil))
      · refine nodup_of_map (f := fun p : Nat × Nat => [(p.1 : Int), (p.2 : Int)]) ?_
        rw [List.map_map]
        have : L'.map ((fun p : Nat × Nat => [(p.1 : Int), (p.2 : Int)]) ∘ fun q : Addr × List Int => ((q.2.getD 0 0).toNat, (q.2.getD 1 0).toNat)) = L'.map (·.2) := List.map_congr_left fun z hz => by
          obtain ⟨t, h1, rfl⟩ := mem' hz
          rfl
        rw [this]
        exact nd
      · obtain ⟨z, hz, rfl⟩ := List.mem_map.mp hp
        obtain ⟨t, h1, rfl⟩ := mem' hz
        exact (ht t h1).2
/-- tuple(sorted(set(places))) -/
theorem ed_places {w : World} {p0 : Addr} {ys : List Nat} {n : Nat} (h : Ev te σ H (.ref p0)) (hl : H p0 = some (.lst ((nats ys).map V.int))) (hz : ys.length < 64) (ht : ∀ y ∈ ys, y < n) :
    ED K (tCB (rTuple K) (tCons (tCB (rSortedSet w) (tCons (tCB (rSetOfI K w) (tCons te tNil)) tNil)) tNil)) σ H (fun d => ∃ ps : List Nat, d = dNats ps ∧ ps.Nodup ∧ ∀ p ∈ ps, p < n) := fun H1 e1 Q q =>
  h H1 e1 _ fun H2 e2 => by
    have E := e1.trans e2
    have nl : (nats ys).length = ys.length := by simp [nats]
    refine ⟨p0, nats ys, rfl, sq_of (E _ _ hl), by omega, fun a c na hc => ?_⟩
    refine ⟨a, _, c, rfl, upd_same, by omega, fun ns p pw hm _ np => ?_⟩
    refine ⟨p, _, rfl, .inl ⟨sq_of upd_same, fun m nm => ?_⟩⟩
    have E3 := (Ex.new (o := SetO w a (fun j => decide (j ∈ nats ys)) c) na).trans ((Ex.new (o := HO.lst (ns.map V.int)) np).trans (Ex.new (o := HO.tup (ns.map V.int)) nm))
    have mem : ∀ {k : Int}, k ∈ ns → ∃ y ∈ ys, k = (y : Int) := fun hk => by
      have := of_decide_eq_true ((hm _).mp hk)
      obtain ⟨y, h1, h2⟩ := List.mem_map.mp this
      exact ⟨y, h1, h2.symm⟩
    have back : nats (ns.map Int.toNat) = ns := by
      unfold nats
      rw [List.map_map]
      refine (List.map_congr_left fun z hz => ?_).trans (List.map_id ns)
      obtain ⟨y, _, rfl⟩ := mem hz
      rfl
    refine q (.ref m) _ (dNats (ns.map Int.toNat)) (e2.trans E3) (.tup (st_of upd_same) ?_) ⟨_, rfl, ?_, fun p hp => ?_⟩
    · rw [back]
      exact tds_map (f := V.int) (g := PyData.int) fun z _ => .int z
    · refine nodup_of_map (f := fun (y : Nat) => (y : Int)) ?_
      show (nats (ns.map Int.toNat)).Nodup
      rw [back]
      exact pw.imp fun h e => by omega
    · obtain ⟨z, hz, rfl⟩ := List.mem_map.mp hp
      obtain ⟨y, h1, rfl⟩ := mem hz
      exact ht y h1
end
section
variable {P : Program} {w : World} {K : PySem.W.Frag} {mg : Str → Option Value} {base : Heap}
theorem eds_imp {σ : L2.St} {H : Hp} {tl : TA} {R R' : List PyData → Prop} (h : EDs K tl σ H R) (i : ∀ d, R d → R' d) : EDs K tl σ H R' := fun H1 a Q q => h H1 a Q fun vs H2 ds e t r => q vs H2 ds e t (i ds r)
theorem pairs_len {n : Nat} {ps : List (Nat × Nat)} (nd : ps.Nodup) (h : ∀ p ∈ ps, p.1 < n ∧ p.2 < n) : ps.length ≤ n * n := by
  have := nodup_sub (r := (List.range n).flatMap fun x => (List.range n).map fun y => (x, y)) nd fun p hp => by
    simp only [List.mem_flatMap, List.mem_map, List.mem_range]
    exact ⟨p.1, (h p hp).1, p.2, (h p hp).2, rfl⟩
  refine Nat.le_trans this (Nat.le_of_eq ?_)
  have : ∀ l : List Nat, (l.flatMap fun x => (List.range n).map fun y => (x, y)).length = l.length * n := fun l => by
    induction l with
    | nil => simp
    | cons a r ih => rw [List.flatMap_cons, List.length_append, ih, List.length_map, List.length_range, List.length_cons, Nat.succ_mul, Nat.add_comm]
  rw [this, List.length_range]
theorem places_len {n : Nat} {ps : List Nat} (nd : ps.Nodup) (h : ∀ p ∈ ps, p < n) : ps.length ≤ n := by
  have := nodup_sub (r := List.range n) nd fun p hp => List.mem_range.mpr (h p hp)
  rwa [List.length_range] at this
/-- the keys of a dict, sorted -/
theorem sorted_keys {σ : L2.St} {H : Hp} {te : TE} {ρ : Type} {nm : ρ → Str} {ad : ρ → Addr} {D : Addr} {rows : List ρ} (h : Ev te σ H (.ref D)) (hd : H D = some (.dK (rows.map fun r => ((Sum.inr (nm r) : Key), V.ref (ad r))))) (hz : rows.length < 64) :
    ∀ H1, Ex H H1 → ∀ Q : VK, (∀ (p : Addr) (ys : List Str) H2, H1 p = none → Ex H1 H2 → H2 p = some (.lst (ys.map V.str)) → ys.Perm (rows.map nm) → Q (.ref p) H2) →
    tCB (fun xs H Q => ∃ (a : Addr) (kvs : List (Key × V)) (ks : List Str), xs = [.ref a] ∧ Rd H a (.dK kvs) ∧ kvs.map (·.1) = ks.map Sum.inr ∧ ks.length < 64 ∧ ∀ (ys : List Str) (p : Addr), ys.Perm ks → sortedS ys = true → H p = none → Q (.ref p) (upd H p (.lst (ys.map V.str)))) (tCons te tNil) σ H1 Q := fun H1 e1 Q q =>
  h H1 e1 _ fun H2 e2 => ⟨D, _, rows.map nm, rfl, .inl ((e1.trans e2) _ _ hd), by rw [List.map_map, List.map_map]; rfl, by rw [List.length_map]; exact hz, fun ys p pm _ np => q p ys _ (fresh_back e2 np) (e2.trans (Ex.new np)) upd_same pm⟩
abbrev sp_lnet (K : PySem.W.Frag) : Sp := fun vs H Q _ => ∃ (n : Nat) (D1 D2 : Addr) (rows : List (Str × Addr × List (Addr × Nat × Nat))) (ms : List (Str × Addr × List Nat)), vs = [.int (n : Int), .ref D1, .ref D2] ∧ n ≤ 7 ∧ HandsAt K H D1 n rows ∧ MarksAt H D2 n ms ∧
  ∀ v H' W, Ex H H' → TD K H' v (dWeb W) → WebOk n W → W.many = n → Q v H'
theorem has_lnet (D : DefAt K mg "_law_net" st__law_net ["_law_many", "_law_by_hand", "_law_by_word"]) (B : Blt mg) : Has P w K mg base CX0 1 "_law_net" ["_law_many", "_law_by_hand", "_law_by_word"] (sp_lnet K) := by
  refine D.ok sc__law_net (fun vs H Q E h => ?_) (fun f cdv A outer s H vs Q E hr h => ?_)
  · obtain ⟨n, D1, D2, rows, ms, rfl, _⟩ := h
    rfl
  · obtain ⟨n, D1, D2, rows, ms, rfl, hn, hh, hm, kk⟩ := h
    have nd := sc__law_net.nd
    have hu := hu_of hr
    refine ⟨_, pss_cons (ps_setLc (i := 3) (own := [("_law_who", 5)]) (g := gName 5) rfl nd rfl rfl (sw_true rfl rfl rfl (by decide +kernel)) (k_pil K (pe_callB (call_sortedD rfl) (by rfl) B.b_sorted (by decide +kernel) (pa_cons (pv 1) pa_nil))) (blk (N := ["_law_many", "_law_by_hand", "_law_by_word", "_law_ways", "_law_marks_of", "_law_who", "_law_word"]) (sc := defScope st__law_net) (by decide +kernel))
        (fun _ _ _ _ _ => pg_name (i := 5) nd rfl (.inl rfl)) (fun _ _ _ _ _ => pts_one (pt_cmpR (k_neD K hr.units) (pe_callTy (k_listS K) (by rfl) B.b_list (by decide +kernel) (pa_cons (pe_dget (hu_of hr) (pv 1) (pv 5) (fun _ _ => rfl)) pa_nil)) (pe_lst pa_nil) (nomark _)))
        (fun _ _ _ _ _ => pe_tup (pa_cons (pv 5) (pa_cons (pe_callTy (k_tuple K) (by rfl) B.b_tuple (by decide +kernel) (pa_cons (pe_callB (k_sortedT K P w rfl) (by rfl) B.b_sorted (by decide +kernel) (pa_cons (pe_callTy (k_setOfT K P w rfl hr.units) (by rfl) B.b_set (by decide +kernel) (pa_cons (pe_dget (hu_of hr) (pv 1) (pv 5) (fun _ _ => rfl)) pa_nil)) pa_nil)) pa_nil)) pa_nil))))
      (pss_cons (ps_setLc (i := 4) (own := [("_law_word", 6)]) (g := gName 6) rfl nd rfl rfl (sw_true rfl rfl rfl (by decide +kernel)) (k_pil K (pe_callB (call_sortedD rfl) (by rfl) B.b_sorted (by decide +kernel) (pa_cons (pv 2) pa_nil))) (blk (N := ["_law_many", "_law_by_hand", "_law_by_word", "_law_ways", "_law_marks_of", "_law_who", "_law_word"]) (sc := defScope st__law_net) (by decide +kernel))
        (fun _ _ _ _ _ => pg_name (i := 6) nd rfl (.inl rfl)) (fun _ _ _ _ _ => pts_one (pt_cmpR (k_neD K hr.units) (pe_callTy (k_listS K) (by rfl) B.b_list (by decide +kernel) (pa_cons (pe_dget (hu_of hr) (pv 2) (pv 6) (fun _ _ => rfl)) pa_nil)) (pe_lst pa_nil) (nomark _)))
        (fun _ _ _ _ _ => pe_tup (pa_cons (pv 6) (pa_cons (pe_callTy (k_tuple K) (by rfl) B.b_tuple (by decide +kernel) (pa_cons (pe_callB (k_sset w rfl) (by rfl) B.b_sorted (by decide +kernel) (pa_cons (pe_callTy (k_setOfI K w rfl) (by rfl) B.b_set (by decide +kernel) (pa_cons (pe_dget (hu_of hr) (pv 2) (pv 6) (fun _ _ => rfl)) pa_nil)) pa_nil)) pa_nil)) pa_nil))))
      (pss_one (ps_ret (pe_tup (pa_cons (pv 0) (pa_cons (pe_callTy (k_tuple K) (by rfl) B.b_tuple (by decide +kernel) (pa_cons (pv 3) pa_nil)) (pa_cons (pe_callTy (k_tuple K) (by rfl) B.b_tuple (by decide +kernel) (pa_cons (pv 4) pa_nil)) pa_nil))))))), ?_⟩
    have rl : rows.length ≤ 3 := by
      have := nodup_sub hh.nd hh.nm
      rwa [List.length_map] at this
    have ml : ms.length ≤ 3 := by
      have := nodup_sub hm.nd hm.nm
      rwa [List.length_map] at this
    refine q_asgLd (K := K) (R := fun ds => ∃ ys : List Str, ys.Perm (rows.map (·.1)) ∧ ∃ ws : List (Str × List (Nat × Nat)), ds = ws.map dStep ∧ (ws.map (·.1)).Sublist (ys.map id) ∧ ∀ q ∈ ws, q.2.Nodup ∧ ∀ p ∈ q.2, p.1 < n ∧ p.2 < n) (eld_lcS (Pd := fun ys => ys.Perm (rows.map (·.1))) (sorted_keys (rows := rows) (nm := fun r => r.1) (ad := fun r => r.2.1) (ev_var rfl) hh.d (by omega)) fun p ys H1 e1 hp pm => ?_) ?_
    · refine (lc_pick (K := K) (l := ys) (enc := PyData.str) (dec := dStep) (key := fun q => q.1) (ak := id) (G := fun q => q.2.Nodup ∧ ∀ p ∈ q.2, p.1 < n ∧ p.2 < n) (src_lst ev_c (sq_of hp) (TDs.ofStrs ys)) (by rw [(pm.length_eq), List.length_map]; omega) fun h hy x H2 Q2 e2 tx ky => ?_).imp fun ds ⟨ws, a, b, c⟩ => ⟨ys, pm, ws, a, b, c⟩
      obtain rfl := tx.strI
      have h2 := hh.ex (e1.trans e2)
      obtain ⟨r, hr1, hr2⟩ := List.mem_map.mp (pm.mem_iff.mp hy)
      obtain rfl : r.1 = h := hr2
      have hget := valV_rows (fun r : Str × Addr × List (Addr × Nat × Nat) => r.1) (fun r => r.2.1) hh.nd hr1
      obtain ⟨l1, l2, l3⟩ := h2.ls r hr1
      refine ky _ rfl ⟨_, et_test (ev_neLd (K := K) (ds := r.2.2.map fun t => dPair t.2) (eld_list (ev_dget (ev_var rfl) (ev_var rfl) h2.d hget) (sq_of l1) (tds_map fun t ht => .tup (l3 t ht).1 (.cons (.int _) (.cons (.int _) .nil)))) fun d hd => ?_)⟩ ?_
      · obtain ⟨t, _, rfl⟩ := List.mem_map.mp hd
        exact (shp_tup (n := 7) fun d hd => by
          simp only [List.mem_cons, List.not_mem_nil, or_false] at hd
          rcases hd with rfl | rfl <;> exact shp_int _)
      · refine (ed_tupP (R := fun l => ∃ ps : List (Nat × Nat), l = [.str r.1, dPairs ps] ∧ ps.Nodup ∧ ∀ p ∈ ps, p.1 < n ∧ p.2 < n) (eds_imp (eds_cons (ed_s (ev_var rfl)) (eds_cons (ed_pairs (P := P) (w := w) (ev_dget (ev_var rfl) (ev_var rfl) h2.d hget) l1 l2 l3 (by omega)) eds_nil)) ?_) (by rintro l ⟨_, rfl, _⟩; simp)).imp ?_
        · rintro l ⟨d, r1, rfl, rfl, d2, r2, rfl, ⟨ps, rfl, a, b⟩, rfl⟩
          exact ⟨ps, rfl, a, b⟩
        · rintro d ⟨l, rfl, ps, rfl, a, b⟩
          exact ⟨(r.1, ps), rfl, rfl, a, b⟩
    · rintro pw ww ds H1 nw e1 hw tw ⟨ys, pm, ws, rfl, sub, gw⟩
      have hm1 := hm.ex e1
      refine q_asgLd (K := K) (R := fun ds => ∃ ys : List Str, ys.Perm (ms.map (·.1)) ∧ ∃ ws : List (Str × List Nat), ds = ws.map dMark ∧ (ws.map (·.1)).Sublist (ys.map id) ∧ ∀ q ∈ ws, q.2.Nodup ∧ ∀ p ∈ q.2, p < n) (eld_lcS (Pd := fun ys => ys.Perm (ms.map (·.1))) (sorted_keys (rows := ms) (nm := fun r => r.1) (ad := fun r => r.2.1) (ev_var rfl) hm1.d (by omega)) fun p ys H2 e2 hp pm => ?_) ?_
      · refine (lc_pick (K := K) (l := ys) (enc := PyData.str) (dec := dMark) (key := fun q => q.1) (ak := id) (G := fun q => q.2.Nodup ∧ ∀ p ∈ q.2, p < n) (src_lst ev_c (sq_of hp) (TDs.ofStrs ys)) (by rw [(pm.length_eq), List.length_map]; omega) fun h hy x H3 Q2 e3 tx ky => ?_).imp fun ds ⟨ws, a, b, c⟩ => ⟨ys, pm, ws, a, b, c⟩
        obtain rfl := tx.strI
        have h2 := hm1.ex (e2.trans e3)
        obtain ⟨r, hr1, hr2⟩ := List.mem_map.mp (pm.mem_iff.mp hy)
        obtain rfl : r.1 = h := hr2
        have hget := valV_rows (fun r : Str × Addr × List Nat => r.1) (fun r => r.2.1) hm.nd hr1
        obtain ⟨l1, l2, l3⟩ := h2.ls r hr1
        refine ky _ rfl ⟨_, et_test (ev_neLd (K := K) (ds := (nats r.2.2).map PyData.int) (eld_list (ev_dget (ev_var rfl) (ev_var rfl) h2.d hget) (sq_of l1) (tds_map fun t ht => .int t)) fun d hd => ?_)⟩ ?_
        · obtain ⟨t, _, rfl⟩ := List.mem_map.mp hd
          exact shp_int t
        · refine (ed_tupP (R := fun l => ∃ ps : List Nat, l = [.str r.1, dNats ps] ∧ ps.Nodup ∧ ∀ p ∈ ps, p < n) (eds_imp (eds_cons (ed_s (ev_var rfl)) (eds_cons (ed_places (w := w) (ev_dget (ev_var rfl) (ev_var rfl) h2.d hget) l1 l2 l3) eds_nil)) ?_) (by rintro l ⟨_, rfl, _⟩; simp)).imp ?_
          · rintro l ⟨d, r1, rfl, rfl, d2, r2, rfl, ⟨ps, rfl, a, b⟩, rfl⟩
            exact ⟨ps, rfl, a, b⟩
          · rintro d ⟨l, rfl, ps, rfl, a, b⟩
            exact ⟨(r.1, ps), rfl, rfl, a, b⟩
      · rintro pz zz ds H2 nz e2 hz tz ⟨yz, pmz, wz, rfl, subz, gz⟩
        refine s_retD (K := K) (P := (· = .tuple [.int (n : Int), dSteps ws, dMarks wz])) (ed_tup (eds_c (ed_of (ev_var rfl) (.int _)) (eds_c (ed_tupleL (ev_var rfl) (sq_of (e2 _ _ hw)) (tw.ex e2)) (eds_c (ed_tupleL (ev_var rfl) (sq_of hz) tz) eds_nil))) (by simp)) fun v d H3 e3 t3 p3 => ?_
        subst p3
        rw [List.map_id] at sub subz
        have sw : ∀ h ∈ ws.map (·.1), h ∈ rows.map (·.1) := fun h hx => pm.mem_iff.mp (sub.subset hx)
        have sz : ∀ h ∈ wz.map (·.1), h ∈ ms.map (·.1) := fun h hx => pmz.mem_iff.mp (subz.subset hx)
        exact kk v H3 ⟨n, ws, wz⟩ (e1.trans (e2.trans e3)) t3 ⟨⟨(pm.nodup_iff.mpr hh.nd).sublist sub, (pmz.nodup_iff.mpr hm.nd).sublist subz, fun p hp => (gw p hp).2, fun p hp => (gz p hp).2⟩, hn, Nat.le_refl _, fun h hx => hh.nm h (sw h hx), fun z hx => hm.nm z (sz z hx), fun q hq => pairs_len (gw q hq).1 (gw q hq).2, fun q hq => places_len (gz q hq).1 (gz q hq).2⟩ rfl
end
end K33
set_option autoImplicit false
set_option Elab.async false
set_option linter.all false
set_option maxRecDepth 100000
set_option maxHeartbeats 4000000
namespace K33
open PySem PySem.Spec PyProof.Rows L2 Evl
theorem ExN.back {N : Addr → Prop} {H H' : Hp} {l : Addr} (e : ExN N H H') (h : H' l = none) (n : ¬ N l) : H l = none := by
  cases q : H l with
  | none => rfl
  | some o => rw [e l o q n] at h; cases h
theorem FeedAt.kt {p q : Addr} {ns : List Int} {c : Nat} {H H' : Hp} (f : FeedAt p q ns c H) (e : ExN (· = p) H H') : Kt H H' := fun a xs r => by
  obtain ⟨k, i, cur, hp, _⟩ := f
  have ne : ∀ {o : HO}, H a = some o → (∀ l, o ≠ .lst l) → a ≠ p := fun ha hn z => by
    subst z
    rw [hp] at ha
    exact hn _ (Option.some.inj ha).symm
  rcases r with r | ⟨ob, r⟩
  · exact .inl (e _ _ r (ne r (fun l z => nomatch z)))
  · exact .inr ⟨ob, e _ _ r (ne r (fun l z => nomatch z))⟩
theorem FeedAt.nep {p q : Addr} {ns : List Int} {c : Nat} {H : Hp} {l : Addr} (f : FeedAt p q ns c H) (h : H l = none) : l ≠ p ∧ l ≠ q := by
  obtain ⟨k, i, cur, hp, _, hq, _⟩ := f
  exact ⟨(fun z => by subst z; rw [hp] at h; cases h), (fun z => by subst z; rw [hq] at h; cases h)⟩
theorem ints_of {n : Nat} : ∀ {xs : List V}, (∀ v ∈ xs, ∃ y : Nat, y < n ∧ v = .int (y : Int)) → ∃ ys : List Nat, xs = (nats ys).map V.int ∧ ∀ y ∈ ys, y < n
  | [], _ => ⟨[], rfl, fun _ h => nomatch h⟩
  | v :: xs, h => by
    obtain ⟨y, hy, rfl⟩ := h v (by simp)
    obtain ⟨ys, rfl, h2⟩ := ints_of fun u hu => h u (List.mem_cons_of_mem _ hu)
    refine ⟨y :: ys, rfl, fun z hz => ?_⟩
    rcases List.mem_cons.mp hz with rfl | hz
    · exact hy
    · exact h2 z hz
section
variable {K : PySem.W.Frag} {σ : L2.St} {H H' : Hp} {te : TE} {t : TT} {wi : TI} {g : TG} {α : Type} {l : List α} {enc : α → PyData} {p q : Addr} {ns : List Int} {c : Nat}
/-- a draw -/
theorem c_draw {i : Nat} {E : XK} {m : Nat} {Q : VK} (hi : σ[i]? = some (some (.ref p))) (hf : FeedAt p q ns c H) (hc : c ≤ 100000) (m0 : 0 < m) (m1 : m ≤ 1000) (k : ∀ (r : Nat) H', ExN (· = p) H H' → FeedAt p q ns (c + 1) H' → r < m → Q (.int (r : Int)) H') :
    tCall (sp_ldraw K) [] E (tCons (tVar i) (tCons (tC (.int (m : Int))) tNil)) σ H Q := ⟨_, hi, p, q, ns, c, m, rfl, hf, hc, m0, m1, k⟩
/-- [e for .. if a draw says so]: what comes is such that G -/
theorem lc_feed {S : Hp → Hp → Prop} {vs : List Nat} {G : V → Hp → Prop} {Q : VK} (mG : ∀ v H H', Kt H H' → G v H → G v H') (h : Src S K wi σ H (l.map enc)) (hS : ∀ H1 H', ExN (· = p) H1 H' → S H1 H') (hz : l.length ≤ 1000) (hf : FeedAt p q ns c H)
    (hs : ∀ a ∈ l, ∀ x H1 (Q : L2.St → Hp → Prop), ExN (· = p) H H1 → TD K H1 x (enc a) → (∀ σ2, wipe σ2 vs = wipe σ vs → (∀ c' H2, c' < c + l.length → ExN (· = p) H H2 → FeedAt p q ns c' H2 → ∀ Qt : Bool → Hp → Prop, (∀ b H3, ExN (· = p) H2 H3 → FeedAt p q ns (c' + 1) H3 → Qt b H3) → t σ2 H2 Qt) →
      (∀ H2, ExN (· = p) H H2 → ∀ Qe : VK, (∀ v H3, Ex H2 H3 → G v H3 → Qe v H3) → te σ2 H2 Qe) → Q σ2 H1) → g x (wipe σ vs) H1 Q)
    (k : ∀ D xs H', H D = none → ExN (· = p) H H' → FeedAt p q ns (c + l.length) H' → H' D = some (.lst xs) → xs.length ≤ l.length → (∀ v ∈ xs, G v H') → Q (.ref D) H') : tLc wi g t te vs σ H Q := by
  refine lc_wk (K := K) h (fun H1 D i H' => H1 D = none ∧ Ex H H1 ∧ ExN (· = p) H1 H' ∧ FeedAt p q ns (c + i) H' ∧ ∃ xs : List V, H' D = some (.lst xs) ∧ xs.length ≤ i ∧ ∀ v ∈ xs, G v H') (fun H1 D e n => ?_) (fun H1 D i H' n pv => hS _ _ pv.2.2.1) ?_ ?_
  · have f1 := hf.ex e
    exact ⟨n, e, ExN.ex (Ex.new n), f1.upd (f1.nep n).1 (f1.nep n).2, [], upd_same, Nat.le_refl _, fun v hv => nomatch hv⟩
  · intro H1 D i d' x H' H2 e n hd pv e2 tx
    obtain ⟨_, _, en, f, xs, hD, hl, hg⟩ := pv
    rw [List.getElem?_map] at hd
    cases hla : l[i]? with
    | none => rw [hla] at hd; cases hd
    | some a =>
      rw [hla] at hd
      cases hd
      have il : i < l.length := (List.getElem?_eq_some_iff.mp hla).1
      have f1 := hf.ex e
      have Dp := (f1.nep n).1
      have E0 : ExN (· = p) H H2 := (ExN.ex e).trans (en.trans (ExN.ex e2))
      refine hs a (List.mem_of_getElem? hla) x H2 _ E0 tx fun σ2 w2 ht he => ⟨w2, ?_⟩
      refine ht (c + i) H2 (by omega) E0 (f.ex e2) _ fun b H3 en3 f3 => ?_
      have hD3 : H3 D = some (.lst xs) := en3 _ _ (e2 _ _ hD) Dp
      have kt3 : Kt H' H3 := (Kt.ex e2).trans ((f.ex e2).kt en3)
      cases b with
      | true =>
        rw [if_pos rfl]
        refine he H3 (E0.trans en3) _ fun v H4 e4 gv => ?_
        have hD4 := e4 _ _ hD3
        have kt4 : Kt H4 (upd H4 D (.lst (xs ++ [v]))) := Kt.upd hD4 rfl
        have f4 := f3.ex e4
        have Dq : D ≠ q := (f1.nep n).2
        refine ⟨xs, hD4, sz_lt (by omega), n, e, (en.trans ((ExN.ex e2).trans (en3.trans (ExN.ex e4)))).updN n, f4.upd Dp Dq, xs ++ [v], upd_same, by simp; omega, fun u hu => ?_⟩
        rcases List.mem_append.mp hu with hu | hu
        · exact mG u _ _ (kt3.trans ((Kt.ex e4).trans kt4)) (hg u hu)
        · rw [List.mem_singleton.mp hu]
          exact mG v _ _ kt4 gv
      | false =>
        rw [if_neg Bool.false_ne_true]
        exact ⟨n, e, en.trans ((ExN.ex e2).trans en3), f3, xs, hD3, by omega, fun u hu => mG u _ _ kt3 (hg u hu)⟩
  · intro H1 D H' e n pv
    obtain ⟨_, _, en, f, xs, hD, hl, hg⟩ := pv
    rw [List.length_map] at f hl
    exact k D xs H' (fresh_back e n) ((ExN.ex e).trans en) f hD hl hg
end
section
variable {P : Program} {w : World} {K : PySem.W.Frag} {mg : Str → Option Value} {base : Heap}
theorem MarksAt.put {H : Hp} {D l : Addr} {n : Nat} {ms : List (Str × Addr × List Nat)} {z : Str} {ys : List Nat} (h : MarksAt H D n ms) (hl : H l = some (.lst ((nats ys).map V.int))) (hz : ys.length < 64) (hy : ∀ y ∈ ys, y < n) (zn : z ∉ ms.map (·.1)) (zi : z ∈ (["a", "b", "zz"] : List Str)) :
    MarksAt (upd H D (.dK (putK (ms.map fun r => ((Sum.inr r.1 : Key), V.ref r.2.1)) (Sum.inr z) (.ref l)))) D n (ms ++ [(z, l, ys)]) := by
  have vn : ∀ {ms : List (Str × Addr × List Nat)}, z ∉ ms.map (·.1) → valV (ms.map fun r => ((Sum.inr r.1 : Key), V.ref r.2.1)) (Sum.inr z) = none := fun {ms} hn => by
    induction ms with
    | nil => rfl
    | cons a r ih =>
      rw [List.map_cons, List.mem_cons, not_or] at hn
      rw [List.map_cons, valV_neg (fun e => hn.1 (Sum.inr.inj e).symm)]
      exact ih hn.2
  have ne : ∀ {a : Addr} {xs : List V}, H a = some (.lst xs) → a ≠ D := fun h1 e => by
    subst e
    rw [h.d] at h1
    cases h1
  refine ⟨?_, ?_, fun h' hh => ?_, fun r hr => ?_⟩
  · rw [upd_same, putK_new _ (vn zn), List.map_append]
    rfl
  · rw [List.map_append, List.nodup_append]
    refine ⟨h.nd, by simp, fun a ha b hb e => ?_⟩
    simp only [List.map_cons, List.map_nil, List.mem_singleton] at hb
    exact zn (by rw [← hb, ← e]; exact ha)
  · rw [List.map_append] at hh
    rcases List.mem_append.mp hh with hh | hh
    · exact h.nm _ hh
    · rw [List.mem_singleton.mp hh]
      exact zi
  · rcases List.mem_append.mp hr with hr | hr
    · obtain ⟨a, b⟩ := h.ls r hr
      exact ⟨by rw [upd_ne (ne a)]; exact a, b⟩
    · rw [List.mem_singleton.mp hr]
      exact ⟨by rw [upd_ne (ne hl)]; exact hl, hz, hy⟩
theorem MarksAt.exN {p : Addr} {H H' : Hp} {D : Addr} {n : Nat} {ms : List (Str × Addr × List Nat)} (h : MarksAt H D n ms) (e : ExN (· = p) H H') (d : D ≠ p) (hp : ∀ r ∈ ms, r.2.1 ≠ p) : MarksAt H' D n ms :=
  ⟨e _ _ h.d d, h.nd, h.nm, fun r hr => let ⟨a, b⟩ := h.ls r hr; ⟨e _ _ a (hp r hr), b⟩⟩
abbrev sp_lmarks (K : PySem.W.Frag) : Sp := fun vs H Q _ => ∃ (p q : Addr) (ns : List Int) (c n : Nat), vs = [.ref p, .int (n : Int)] ∧ FeedAt p q ns c H ∧ n ≤ 7 ∧ c + 3 * n ≤ 100000 ∧
  ∀ D ms H', H D = none → ExN (· = p) H H' → FeedAt p q ns (c + 3 * n) H' → MarksAt H' D n ms → Q (.ref D) H'
theorem has_lmarks (D : DefAt K mg "_law_marks" st__law_marks ["_law_feed_here", "_law_many"]) (B : Blt mg) (GD : Has P w K mg base CX0 1 "_law_draw" ["_law_feed_here", "_law_many"] (sp_ldraw K)) : Has P w K mg base CX0 2 "_law_marks" ["_law_feed_here", "_law_many"] (sp_lmarks K) := by
  refine D.ok sc__law_marks (fun vs H Q E h => ?_) (fun f cdv A outer s H vs Q E hr h => ?_)
  · obtain ⟨p, q, ns, c, n, rfl, _⟩ := h
    rfl
  · obtain ⟨p, q, ns, c, n, rfl, hf, hn, hc, kk⟩ := h
    have nd := sc__law_marks.nd
    have hu := hu_of hr
    refine ⟨_, pss_cons (ps_set (i := 2) nd rfl (.inl rfl) pe_dnewK)
      (pss_cons (ps_for PassesOwn.never rfl (k_pit K (pe_tup (pa_cons pe_str (pa_cons pe_str (pa_cons pe_str pa_nil))))) (pg_name (i := 3) nd rfl (.inl rfl))
        (pss_one (ps_dput hu (pv 2) (pv 3) (pe_lc (own := [("_law_x", 4)]) (g := gName 4) rfl nd (pi_range1 (by rfl) B.b_range (pa_cons (pv 1) pa_nil)) (blk (N := ["_law_feed_here", "_law_many", "_law_found", "_law_word", "_law_x"]) (sc := defScope st__law_marks) (by decide +kernel))
          (fun _ _ _ _ _ => pg_name (i := 4) nd rfl (.inl rfl)) (fun _ _ _ _ _ => pts_one (pt_cmpR op_eq (pe_has GD hr (by rfl) pass0 (pa_cons (pv 0) (pa_cons pe_int pa_nil))) pe_int (nomark _))) (fun _ _ _ _ _ => pv 4)) rfl)))
      (pss_one (ps_ret (pv 2)))), ?_⟩
    intro D0 nD
    obtain ⟨Dp, Dq⟩ := hf.nep nD
    have f0 := hf.upd (o := .dK []) Dp Dq
    refine q_for (K := K) (ds := (["a", "b", "zz"] : List Str).map PyData.str) (src_tup (ed_tup (eds_c (ed_s ev_c) (eds_c (ed_s ev_c) (eds_c (ed_s ev_c) eds_nil))) (by simp)))
      (fun H1 i σ H' => (∃ z, σ = [some (.ref p), some (.int (n : Int)), some (.ref D0), z, none]) ∧ Kt H1 H' ∧ ExN (· = p) H H' ∧ FeedAt p q ns (c + i * n) H' ∧ ∃ ms, MarksAt H' D0 n ms ∧ ms.map (·.1) = (["a", "b", "zz"] : List Str).take i ∧ ∀ r ∈ ms, H r.2.1 = none)
      (fun H1 e1 => ⟨⟨none, rfl⟩, Kt.refl _, (ExN.ex (Ex.new nD)).trans (ExN.ex e1), (f0.ex e1).mono (by omega), [], ⟨e1 _ _ upd_same, by simp, by simp, by simp⟩, rfl, by simp⟩) (fun H1 i σ H' q => q.2.1) ?_ ?_
    · rintro H1 i d x σ' H2 H3 e1 hd ⟨⟨z, rfl⟩, kt, en, f, ms, hm, hk, hz⟩ e3 tx
      rw [List.getElem?_map] at hd
      cases hzi : (["a", "b", "zz"] : List Str)[i]? with
      | none => rw [hzi] at hd; cases hd
      | some z' =>
        rw [hzi] at hd
        cases hd
        obtain rfl := tx.strI
        have il : i < 3 := (List.getElem?_eq_some_iff.mp hzi).1
        have f3 := f.ex e3
        have zm : z' ∉ ms.map (·.1) := by
          rw [hk]
          rcases i with _ | _ | _ | i
          · simp
          · simp at hzi
            subst hzi
            decide
          · simp at hzi
            subst hzi
            decide
          · omega
        have in3 : i * n ≤ 2 * n := Nat.mul_le_mul_right _ (by omega)
        unfold gName sDPut
        refine lc_feed (K := K) (l := List.range n) (enc := fun (i : Nat) => PyData.int (i : Int)) (G := fun v _ => ∃ y : Nat, y < n ∧ v = .int (y : Int)) (fun _ _ _ _ h => h) ?_ (fun _ _ _ => True.intro) (by simp; omega) f3 (fun a ha x H4 Q4 en4 tx k4 => ?_) fun l xs H4 nl en4 f4 hl hlen hg => ?_
        · exact src_rngT (ev_var rfl) (by omega)
        · obtain rfl := tx.intI
          refine k4 _ rfl (fun c' H5 hc' en5 f5 Qt qt => ?_) fun H5 en5 Qe qe => ⟨_, rfl, qe _ H5 (Ex.refl _) ⟨a, List.mem_range.mp ha, rfl⟩⟩
          rw [List.length_range] at hc'
          exact c_draw (K := K) (m := 2) rfl f5 (by omega) (by decide) (by decide) fun r H6 en6 f6 _ => ⟨rfl, _, rfl, qt _ _ en6 f6⟩
        · obtain ⟨ys, rfl, hy⟩ := ints_of hg
          rw [List.length_range] at hlen f4
          have hm4 : MarksAt H4 D0 n ms := (hm.ex e3).exN en4 Dp fun r hr => (hf.nep (hz r hr)).1
          have E4 := en.trans ((ExN.ex e3).trans en4)
          refine ⟨_, rfl, _, rfl, D0, _, rfl, DPut.k (k := Sum.inr z') hm4.d (sz_lt (by
            have := congrArg List.length hk
            rw [List.length_map, List.length_take] at this
            rw [List.length_map]
            omega)), ?_⟩
          refine ⟨⟨_, rfl⟩, kt.trans ((Kt.ex e3).trans ((f3.kt en4).trans (Kt.upd hm4.d rfl))), E4.updN nD, (f4.upd Dp Dq).mono (by rw [Nat.succ_mul]; omega), ms ++ [(z', l, ys)], hm4.put hl (by simp [nats] at hlen; omega) hy zm (List.mem_of_getElem? hzi), ?_, fun r hr => ?_⟩
          · rw [List.map_append, hk, List.take_add_one, hzi]
            rfl
          · rcases List.mem_append.mp hr with hr | hr
            · exact hz r hr
            · rw [List.mem_singleton.mp hr]
              exact (en.trans (ExN.ex e3)).back nl (f3.nep nl).1
    · rintro H1 σ' H2 e1 ⟨⟨z, rfl⟩, kt, en, f, ms, hm, hk, hz⟩
      exact ⟨_, rfl, kk D0 ms H2 nD en (f.mono (by simp)) hm⟩
end
end K33
set_option autoImplicit false
set_option Elab.async false
set_option linter.all false
set_option maxRecDepth 100000
set_option maxHeartbeats 4000000
namespace K33
open PySem PySem.Spec PyProof.Rows L2 Evl
theorem q_rawG {σ : L2.St} {H : Hp} {te : TE} {g : TG} {tz : TS} {D : Ends} (h : te σ H fun x H1 => g x σ H1 fun σ' H' => tz D σ' H') : tSeq (tAsg te g) tz D σ H := h
theorem g_name {i : Nat} {v : V} {σ : L2.St} {H : Hp} {Q : L2.St → Hp → Prop} (h : Q (σ.set i (some v)) H) : gName i v σ H Q := h
section
variable {K : PySem.W.Frag} {H H' : Hp} {D l p : Addr} {n : Nat} {rows : List (Str × Addr × List (Addr × Nat × Nat))}
theorem HandsAt.exN (h : HandsAt K H D n rows) (kt : Kt H H') (e : ExN (· = p) H H') (d : D ≠ p) (hp : ∀ r ∈ rows, r.2.1 ≠ p) : HandsAt K H' D n rows :=
  ⟨e _ _ h.d d, h.nd, h.nm, fun r hr => let ⟨a, b, c⟩ := h.ls r hr; ⟨e _ _ a (hp r hr), b, fun t ht => let ⟨x, y⟩ := c t ht; ⟨kt_t kt x, y⟩⟩⟩
theorem HandsAt.nel {r : Str × Addr × List (Addr × Nat × Nat)} (h : HandsAt K H D n rows) (hr : r ∈ rows) (hl : H l = none) : r.2.1 ≠ l := fun e => by
  have := (h.ls r hr).1
  rw [e, hl] at this
  cases this
theorem HandsAt.put {z : Str} {ts : List (Addr × Nat × Nat)} (h : HandsAt K H D n rows) (hl : H l = some (.lst (ts.map fun t => V.ref t.1))) (hz : ts.length < 64) (ht : ∀ t ∈ ts, SqT K H t.1 [.int (t.2.1 : Int), .int (t.2.2 : Int)] ∧ t.2.1 < n ∧ t.2.2 < n) (zn : z ∉ rows.map (·.1)) (zi : z ∈ (["h", "k", "zz"] : List Str)) :
    HandsAt K (upd H D (.dK (putK (rows.map fun r => ((Sum.inr r.1 : Key), V.ref r.2.1)) (Sum.inr z) (.ref l)))) D n (rows ++ [(z, l, ts)]) := by
  have vn : ∀ {rows : List (Str × Addr × List (Addr × Nat × Nat))}, z ∉ rows.map (·.1) → valV (rows.map fun r => ((Sum.inr r.1 : Key), V.ref r.2.1)) (Sum.inr z) = none := fun {ms} hn => by
    induction ms with
    | nil => rfl
    | cons a r ih =>
      rw [List.map_cons, List.mem_cons, not_or] at hn
      rw [List.map_cons, valV_neg (fun e => hn.1 (Sum.inr.inj e).symm)]
      exact ih hn.2
  have ne : ∀ {a : Addr} {xs : List V}, H a = some (.lst xs) → a ≠ D := fun h1 e => by
    subst e
    rw [h.d] at h1
    cases h1
  have kt : ∀ {o : HO}, Kt H (upd H D o) := Kt.upd h.d rfl
  refine ⟨?_, ?_, fun h' hh => ?_, fun r hr => ?_⟩
  · rw [upd_same, putK_new _ (vn zn), List.map_append]
    rfl
  · rw [List.map_append, List.nodup_append]
    refine ⟨h.nd, by simp, fun a ha b hb e => ?_⟩
    simp only [List.map_cons, List.map_nil, List.mem_singleton] at hb
    exact zn (by rw [← hb, ← e]; exact ha)
  · rw [List.map_append] at hh
    rcases List.mem_append.mp hh with hh | hh
    · exact h.nm _ hh
    · rw [List.mem_singleton.mp hh]
      exact zi
  · rcases List.mem_append.mp hr with hr | hr
    · obtain ⟨a, b, c⟩ := h.ls r hr
      exact ⟨by rw [upd_ne (ne a)]; exact a, b, fun t ht => ⟨kt_t kt (c t ht).1, (c t ht).2⟩⟩
    · rw [List.mem_singleton.mp hr]
      exact ⟨by rw [upd_ne (ne hl)]; exact hl, hz, fun t h2 => ⟨kt_t kt (ht t h2).1, (ht t h2).2⟩⟩
/-- pairs made on the way -/
def PairG (K : PySem.W.Frag) (n : Nat) (v : V) (H : Hp) : Prop := ∃ t : Addr × Nat × Nat, v = .ref t.1 ∧ SqT K H t.1 [.int (t.2.1 : Int), .int (t.2.2 : Int)] ∧ t.2.1 < n ∧ t.2.2 < n
theorem PairG.kt {v : V} (e : Kt H H') (h : PairG K n v H) : PairG K n v H' := let ⟨t, a, b, c⟩ := h; ⟨t, a, kt_t e b, c⟩
theorem pairs_of : ∀ {xs : List V}, (∀ v ∈ xs, PairG K n v H) → ∃ ts : List (Addr × Nat × Nat), xs = ts.map (fun t => V.ref t.1) ∧ ∀ t ∈ ts, SqT K H t.1 [.int (t.2.1 : Int), .int (t.2.2 : Int)] ∧ t.2.1 < n ∧ t.2.2 < n
  | [], _ => ⟨[], rfl, fun _ h => nomatch h⟩
  | v :: xs, h => by
    obtain ⟨t, rfl, ht⟩ := h v (by simp)
    obtain ⟨ts, rfl, h2⟩ := pairs_of fun u hu => h u (List.mem_cons_of_mem _ hu)
    refine ⟨t :: ts, rfl, fun z hz => ?_⟩
    rcases List.mem_cons.mp hz with rfl | hz
    · exact ht
    · exact h2 z hz
end
section
variable {P : Program} {w : World} {K : PySem.W.Frag} {mg : Str → Option Value} {base : Heap}
abbrev sp_lany (K : PySem.W.Frag) : Sp := fun vs H Q _ => ∃ (p q : Addr) (ns : List Int) (c most : Nat), vs = [.ref p, .int (most : Int)] ∧ FeedAt p q ns c H ∧ 0 < most ∧ most ≤ 3 ∧ c + 1000 ≤ 100000 ∧
  ∀ v H' W, ExN (· = p) H H' → FeedAt p q ns (c + 1000) H' → TD K H' v (dWeb W) → WebOk W.many W → 1 ≤ W.many → W.many ≤ most → Q v H'
theorem has_lany (D : DefAt K mg "_law_any_net" st__law_any_net ["_law_feed_here", "_law_most"]) (B : Blt mg) (GD : Has P w K mg base CX0 1 "_law_draw" ["_law_feed_here", "_law_many"] (sp_ldraw K)) (GN : Has P w K mg base CX0 1 "_law_net" ["_law_many", "_law_by_hand", "_law_by_word"] (sp_lnet K)) (GM : Has P w K mg base CX0 2 "_law_marks" ["_law_feed_here", "_law_many"] (sp_lmarks K)) : Has P w K mg base CX0 3 "_law_any_net" ["_law_feed_here", "_law_most"] (sp_lany K) := by
  refine D.ok sc__law_any_net (fun vs H Q E h => ?_) (fun f cdv A outer s H vs Q E hr h => ?_)
  · obtain ⟨p, q, ns, c, most, rfl, _⟩ := h
    rfl
  · obtain ⟨p, q, ns, c, most, rfl, hf, h0, h3, hc, kk⟩ := h
    have nd := sc__law_any_net.nd
    have hu := hu_of hr
    refine ⟨_, pss_cons (ps_par (i := 2) (j := 3) rfl nd rfl rfl (by decide) rfl rfl (pa_cons (pe_op op_add pe_int (pe_has GD (hr.mono (by omega)) (by rfl) pass0 (pa_cons (pv 0) (pa_cons (pv 1) pa_nil)))) (pa_cons pe_dnewK pa_nil)) rfl)
      (pss_cons (ps_for PassesOwn.never rfl (k_pit K (pe_tup (pa_cons pe_str (pa_cons pe_str (pa_cons pe_str pa_nil))))) (pg_name (i := 4) nd rfl (.inl rfl))
        (pss_cons (ps_asg (pe_tup (pa_cons (pe_op op_add pe_int (pe_has GD (hr.mono (by omega)) (by rfl) pass0 (pa_cons (pv 0) (pa_cons pe_int pa_nil)))) (pa_cons (pe_lst pa_nil) pa_nil)))
          (k_tup K 2 rfl (pgs_cons (pg_name (i := 5) nd rfl (.inr rfl)) (pgs_cons (pg_name (i := 6) nd rfl (.inl rfl)) pgs_nil))))
        (pss_cons (ps_for PassesOwn.never rfl (pi_range1 (by rfl) B.b_range (pa_cons (pv 2) pa_nil)) (pg_name (i := 7) nd rfl (.inr rfl))
          (pss_one (ps_expr (pe_bm PySem.F.plainAttrs_list PySem.F.slot_list_extend PySem.F.type_list_extend mt_extend (pv 6) (pa_cons
            (pe_lc (own := [("_law_y", 8)]) (g := gName 8) rfl nd (pi_range1 (by rfl) B.b_range (pa_cons (pv 2) pa_nil)) (blk (N := ["_law_feed_here", "_law_most", "_law_many", "_law_by_hand", "_law_who", "_law_often", "_law_some", "_law_x", "_law_y"]) (sc := defScope st__law_any_net) (by decide +kernel))
              (fun _ _ _ _ _ => pg_name (i := 8) nd rfl (.inl rfl)) (fun _ _ _ _ _ => pts_one (pt_cmpR op_lt (pe_has GD (hr.mono (by omega)) (by rfl) pass0 (pa_cons (pv 0) (pa_cons pe_int pa_nil))) (pe_op op_sub (pv 5) pe_int) (nomark _))) (fun _ _ _ _ _ => pe_tup (pa_cons (pv 7) (pa_cons (pv 8) pa_nil)))) pa_nil)))))
        (pss_one (ps_dput hu (pv 3) (pv 4) (pv 6) rfl)))))
      (pss_one (ps_ret (pe_has GN (hr.mono (by omega)) (by rfl) pass0 (pa_cons (pv 2) (pa_cons (pv 3) (pa_cons (pe_has GM hr (by rfl) pass0 (pa_cons (pv 0) (pa_cons (pv 2) pa_nil))) pa_nil))))))), ?_⟩
    refine q_par2 ?_
    refine ⟨_, rfl, _, rfl, p, q, ns, c, most, rfl, hf, by omega, h0, by omega, fun r0 H1 en1 f1 hr0 => ?_⟩
    refine ⟨1, r0, rfl, rfl, fun D0 nD1 => ⟨_, _, rfl, ?_⟩⟩
    obtain ⟨n, hn⟩ : ∃ n : Nat, n = 1 + r0 := ⟨_, rfl⟩
    have e : (1 : Int) + (r0 : Int) = (n : Int) := by omega
    dsimp only
    rw [e]
    obtain ⟨Dp, Dq⟩ := f1.nep nD1
    have nD : H D0 = none := en1.back nD1 Dp
    have f0 := f1.upd (o := .dK []) Dp Dq
    refine q_for (K := K) (ds := (["h", "k", "zz"] : List Str).map PyData.str) (src_tup (ed_tup (eds_c (ed_s ev_c) (eds_c (ed_s ev_c) (eds_c (ed_s ev_c) eds_nil))) (by simp)))
      (fun H1 i σ H' => (∃ a b c' d, σ = [some (.ref p), some (.int (most : Int)), some (.int (n : Int)), some (.ref D0), a, b, c', d, none]) ∧ Kt H1 H' ∧ ExN (· = p) H H' ∧ FeedAt p q ns (c + 1 + i * 10) H' ∧ ∃ rows, HandsAt K H' D0 n rows ∧ rows.map (·.1) = (["h", "k", "zz"] : List Str).take i ∧ ∀ r ∈ rows, H r.2.1 = none)
      (fun H2 e2 => ⟨⟨none, none, none, none, rfl⟩, Kt.refl _, (en1.trans (ExN.ex (Ex.new nD1))).trans (ExN.ex e2), (f0.ex e2).mono (by omega), [], ⟨e2 _ _ upd_same, by simp, by simp, by simp⟩, rfl, by simp⟩) (fun H1 i σ H' q => q.2.1) ?_ ?_
    · rintro H2 i d x σ' H3 H4 e2 hd ⟨⟨a1, a2, a3, a4, rfl⟩, kt, en, f, rows, hm, hk, hz⟩ e4 tx
      rw [List.getElem?_map] at hd
      cases hzi : (["h", "k", "zz"] : List Str)[i]? with
      | none => rw [hzi] at hd; cases hd
      | some z' =>
        rw [hzi] at hd
        cases hd
        obtain rfl := tx.strI
        have il : i < 3 := (List.getElem?_eq_some_iff.mp hzi).1
        have f4 := f.ex e4
        have hm4 := hm.ex e4
        have kt4 := kt.trans (Kt.ex e4)
        have en4 := en.trans (ExN.ex e4)
        have zm : z' ∉ rows.map (·.1) := by
          rw [hk]
          rcases i with _ | _ | _ | i
          · simp
          · simp at hzi
            subst hzi
            decide
          · simp at hzi
            subst hzi
            decide
          · omega
        refine g_name ?_
        refine q_rawG ?_
        refine ⟨_, rfl, p, q, ns, _, 4, rfl, f4, by omega, by decide, by decide, fun r1 H5 en5 f5 hr1 => ?_⟩
        refine ⟨1, r1, rfl, rfl, sz_of (by simp), fun l nl => ⟨sz_of (by simp), fun tt nt => ?_⟩⟩
        refine ⟨tt, _, rfl, st_of upd_same, rfl, _, _, rfl, _, _, rfl, rfl, ?_⟩
        obtain ⟨lp, lq⟩ := f5.nep nl
        have e5 : Ex H5 (upd (upd H5 l (.lst [])) tt (.tup [.int ((1 : Int) + (r1 : Int)), .ref l])) := (Ex.new nl).trans (Ex.new nt)
        have hm5 : HandsAt K H5 D0 n rows := hm4.exN (f4.kt en5) en5 Dp fun r hr => (hf.nep (hz r hr)).1
        have hl0 : upd (upd H5 l (.lst [])) tt (.tup [.int ((1 : Int) + (r1 : Int)), .ref l]) l = some (.lst []) := Ex.new nt _ _ upd_same
        have lD : l ≠ D0 := fun z => by subst z; rw [hm5.d] at nl; cases nl
        have lr : ∀ r ∈ rows, r.2.1 ≠ l := fun r hr => hm5.nel hr nl
        have nlH : H l = none := (en4.trans en5).back nl lp
        have hm6 := hm5.ex e5
        have kt6 : Kt H2 _ := kt4.trans ((f4.kt en5).trans (Kt.ex e5))
        have en6 := en4.trans (en5.trans (ExN.ex e5))
        have f6 := f5.ex e5
        generalize upd (upd H5 l (.lst [])) tt (.tup [.int ((1 : Int) + (r1 : Int)), .ref l]) = H6 at *
        dsimp only
        refine q_for (K := K) (ds := (List.range n).map fun (i : Nat) => PyData.int (i : Int)) (S := fun _ _ => True) ?_
          (fun H7 j σ H' => (∃ b, σ = [some (.ref p), some (.int (most : Int)), some (.int (n : Int)), some (.ref D0), some (.str z'), some (.int (1 + (r1 : Int))), some (.ref l), b, none]) ∧ Kt H2 H' ∧ ExN (· = p) H H' ∧ FeedAt p q ns (c + 2 + i * 10 + j * 3) H' ∧ HandsAt K H' D0 n rows ∧ ∃ ts : List (Addr × Nat × Nat), H' l = some (.lst (ts.map fun t => V.ref t.1)) ∧ ts.length ≤ j * 3 ∧ ∀ t ∈ ts, SqT K H' t.1 [.int (t.2.1 : Int), .int (t.2.2 : Int)] ∧ t.2.1 < n ∧ t.2.2 < n)
          (fun H7 e7 => ⟨⟨_, rfl⟩, kt6.trans (Kt.ex e7), en6.trans (ExN.ex e7), (f6.ex e7).mono (by omega), hm6.ex e7, [], e7 _ _ hl0, by simp, by simp⟩) (fun _ _ _ _ _ => True.intro) ?_ ?_
        · exact src_rngT (ev_var rfl) (by omega)
        · rintro H7 x d u σ' H8 H9 e7 hd ⟨⟨b, rfl⟩, kt8, en8, f8, hm8, ts, hl8, tl8, tg8⟩ e9 tz
          obtain ⟨hx, rfl⟩ := range_at hd
          obtain rfl := tz.intI
          have f9 := f8.ex e9
          have hl9 := e9 _ _ hl8
          have en9 := en8.trans (ExN.ex e9)
          have x3 : x * 3 ≤ 6 := by omega
          refine ⟨_, rfl, .inl ⟨rfl, _, sq_of hl9⟩, ?_⟩
          unfold tCons tNil
          refine lc_feed (K := K) (l := List.range n) (enc := fun (i : Nat) => PyData.int (i : Int)) (G := PairG K n) (fun _ _ _ e h => h.kt e) ?_ (fun _ _ _ => True.intro) (by simp; omega) f9 (fun a ha u H10 Q10 en10 tu k10 => ?_) fun b2 xs H10 nb en10 f10 hb hlen hg => ?_
          · exact src_rngT (ev_var rfl) (by omega)
          · obtain rfl := tu.intI
            refine k10 _ rfl (fun c' H11 hc' en11 f11 Qt qt => ?_) fun H11 en11 Qe qe => ?_
            · rw [List.length_range] at hc'
              refine ⟨_, rfl, p, q, ns, c', 4, rfl, f11, by omega, by decide, by decide, fun r H12 en12 f12 _ => ?_⟩
              exact ⟨_, rfl, _, _, rfl, rfl, _, _, rfl, rfl, _, rfl, qt _ _ en12 f12⟩
            · exact ⟨_, rfl, _, rfl, sz_of (by simp), fun t nt => qe _ _ (Ex.new nt) ⟨(t, x, a), rfl, st_of upd_same, hx, List.mem_range.mp ha⟩⟩
          · obtain ⟨ts2, rfl, hg2⟩ := pairs_of hg
            rw [List.length_range] at hlen f10
            rw [List.length_map] at hlen
            have hl10 := en10 _ _ hl9 lp
            have ktA := (Kt.ex e9).trans (f9.kt en10)
            have ktL : Kt H10 (upd H10 l (.lst ((ts.map fun t => V.ref t.1) ++ ts2.map fun t => V.ref t.1))) := Kt.upd hl10 rfl
            have hm10 : HandsAt K H10 D0 n rows := (hm8.ex e9).exN (f9.kt en10) en10 Dp fun r hr => (hf.nep (hz r hr)).1
            refine ⟨l, b2, _, _, rfl, rfl, hl10, hb, sz_of (by simp; omega), ?_⟩
            refine ⟨⟨_, rfl⟩, (kt8.trans ktA).trans ktL, (en9.trans en10).updN nlH, (f10.upd lp lq).mono (by omega), ?_, ts ++ ts2, by rw [upd_same, List.map_append], by simp; omega, fun t ht => ?_⟩
            · exact ⟨by rw [upd_ne lD.symm]; exact hm10.d, hm10.nd, hm10.nm, fun r hr => let ⟨a, b, c⟩ := hm10.ls r hr; ⟨by rw [upd_ne (lr r hr)]; exact a, b, fun t ht => ⟨kt_t ktL (c t ht).1, (c t ht).2⟩⟩⟩
            · rcases List.mem_append.mp ht with ht | ht
              · exact ⟨kt_t (ktA.trans ktL) (tg8 t ht).1, (tg8 t ht).2⟩
              · exact ⟨kt_t ktL (hg2 t ht).1, (hg2 t ht).2⟩
        · rintro H7 σ' H8 e7 ⟨⟨b, rfl⟩, kt8, en8, f8, hm8, ts, hl8, tl8, tg8⟩
          rw [List.length_map, List.length_range] at f8 tl8
          refine ⟨_, rfl, _, rfl, _, rfl, D0, _, rfl, DPut.k (k := Sum.inr z') hm8.d (sz_lt (by
            have := congrArg List.length hk
            rw [List.length_map, List.length_take] at this
            rw [List.length_map]
            omega)), ?_⟩
          refine ⟨⟨_, _, _, _, rfl⟩, kt8.trans (Kt.upd hm8.d rfl), en8.updN nD, (f8.upd Dp Dq).mono (by omega), rows ++ [(z', l, ts)], hm8.put hl8 (by omega) tg8 zm (List.mem_of_getElem? hzi), ?_, fun r hr => ?_⟩
          · rw [List.map_append, hk, List.take_add_one, hzi]
            rfl
          · rcases List.mem_append.mp hr with hr | hr
            · exact hz r hr
            · rw [List.mem_singleton.mp hr]
              exact nlH
    · rintro H2 σ' H3 e2 ⟨⟨a1, a2, a3, a4, rfl⟩, kt, en, f, rows, hm, hk, hz⟩
      have f := f.mono (c' := c + 31) (by simp)
      refine ⟨_, rfl, _, rfl, _, rfl, _, rfl, p, q, ns, _, n, rfl, f, by omega, by omega, fun D2 ms H4 nD2 en4 f4 hm4 => ?_⟩
      refine ⟨n, D0, D2, rows, ms, rfl, by omega, hm.exN (f.kt en4) en4 Dp (fun r hr => (hf.nep (hz r hr)).1), hm4, fun v H5 W e5 tv ok wn => ?_⟩
      exact kk v H5 W (en.trans (en4.trans (ExN.ex e5))) ((f4.ex e5).mono (by omega)) tv (by rw [wn]; exact ok) (by omega) (by omega)
end
end K33
set_option autoImplicit false
set_option Elab.async false
set_option linter.all false
set_option maxRecDepth 100000
set_option maxHeartbeats 4000000
namespace K33
open PySem PySem.Spec PyProof.Rows L2 Evl
section
variable {K : PySem.W.Frag} {H H' H0 : Hp} {D l p : Addr} {n : Nat}
theorem HandsAt.ext {rows : List (Str × Addr × List (Addr × Nat × Nat))} {z : Str} {ts ts2 : List (Addr × Nat × Nat)} (h : HandsAt K H D n (rows ++ [(z, l, ts)])) (hr : ∀ r ∈ rows, r.2.1 ≠ l) (hz : (ts ++ ts2).length < 64)
    (ht : ∀ t ∈ ts2, SqT K H t.1 [.int (t.2.1 : Int), .int (t.2.2 : Int)] ∧ t.2.1 < n ∧ t.2.2 < n) : HandsAt K (upd H l (.lst ((ts ++ ts2).map fun t => V.ref t.1))) D n (rows ++ [(z, l, ts ++ ts2)]) := by
  obtain ⟨hl, _, hg⟩ := h.ls (z, l, ts) (by simp)
  have lD : D ≠ l := fun e => by
    have := h.d
    rw [e, hl] at this
    cases this
  have kt : ∀ {o : HO}, Kt H (upd H l o) := Kt.upd hl rfl
  refine ⟨?_, ?_, ?_, fun r hr' => ?_⟩
  · rw [upd_ne lD, h.d, List.map_append, List.map_append]
    rfl
  · have := h.nd
    rw [List.map_append] at this ⊢
    exact this
  · have := h.nm
    rw [List.map_append] at this ⊢
    exact this
  · rcases List.mem_append.mp hr' with hr' | hr'
    · obtain ⟨a, b, c⟩ := h.ls r (List.mem_append.mpr (.inl hr'))
      exact ⟨by rw [upd_ne (hr r hr')]; exact a, b, fun t h2 => ⟨kt_t kt (c t h2).1, (c t h2).2⟩⟩
    · rw [List.mem_singleton.mp hr']
      refine ⟨upd_same, hz, fun t h2 => ?_⟩
      rcases List.mem_append.mp h2 with h2 | h2
      · exact ⟨kt_t kt (hg t h2).1, (hg t h2).2⟩
      · exact ⟨kt_t kt (ht t h2).1, (ht t h2).2⟩
theorem MarksAt.ext {rows : List (Str × Addr × List Nat)} {z : Str} {ts ts2 : List Nat} (h : MarksAt H D n (rows ++ [(z, l, ts)])) (hr : ∀ r ∈ rows, r.2.1 ≠ l) (hz : (ts ++ ts2).length < 64) (ht : ∀ t ∈ ts2, t < n) :
    MarksAt (upd H l (.lst ((nats (ts ++ ts2)).map V.int))) D n (rows ++ [(z, l, ts ++ ts2)]) := by
  obtain ⟨hl, _, hg⟩ := h.ls (z, l, ts) (by simp)
  have lD : D ≠ l := fun e => by
    have := h.d
    rw [e, hl] at this
    cases this
  refine ⟨?_, ?_, ?_, fun r hr' => ?_⟩
  · rw [upd_ne lD, h.d, List.map_append, List.map_append]
    rfl
  · have := h.nd
    rw [List.map_append] at this ⊢
    exact this
  · have := h.nm
    rw [List.map_append] at this ⊢
    exact this
  · rcases List.mem_append.mp hr' with hr' | hr'
    · obtain ⟨a, b⟩ := h.ls r (List.mem_append.mpr (.inl hr'))
      exact ⟨by rw [upd_ne (hr r hr')]; exact a, b⟩
    · rw [List.mem_singleton.mp hr']
      refine ⟨upd_same, hz, fun t h2 => ?_⟩
      rcases List.mem_append.mp h2 with h2 | h2
      · exact hg t h2
      · exact ht t h2
/-- each world's own copies -/
def OwnAt (H0 H : Hp) (D : Addr) (m n j : Nat) : Prop := ∃ kvs : List (Key × V), H D = some (.dK kvs) ∧ kvs.length ≤ 50 + j ∧ ∀ x, x < m → ∃ (a : Addr) (ys : List Nat), valV kvs (Sum.inl (x : Int)) = some (.ref a) ∧ H a = some (.lst ((nats ys).map V.int)) ∧ ys.length ≤ j ∧ (∀ y ∈ ys, y < n) ∧ H0 a = none
theorem OwnAt.exN {m j : Nat} (h : OwnAt H0 H D m n j) (e : ExN (· = p) H H') (d : D ≠ p) (hp : H0 p ≠ none) : OwnAt H0 H' D m n j :=
  let ⟨kvs, h1, h2, h3⟩ := h
  ⟨kvs, e _ _ h1 d, h2, fun x hx => let ⟨a, ys, g1, g2, g3, g4, g5⟩ := h3 x hx; ⟨a, ys, g1, e _ _ g2 (fun z => hp (by rw [← show a = p from z]; exact g5)), g3, g4, g5⟩⟩
theorem OwnAt.ex {m j : Nat} (h : OwnAt H0 H D m n j) (e : Ex H H') : OwnAt H0 H' D m n j :=
  let ⟨kvs, h1, h2, h3⟩ := h
  ⟨kvs, e _ _ h1, h2, fun x hx => let ⟨a, ys, g1, g2, g3⟩ := h3 x hx; ⟨a, ys, g1, e _ _ g2, g3⟩⟩
theorem OwnAt.get {σ : L2.St} {td tx : TE} {m j x : Nat} (h : OwnAt H0 H D m n j) (hd : Ev td σ H (.ref D)) (hx : Ev tx σ H (.int (x : Int))) (xm : x < m) : ∃ (a : Addr) (ys : List Nat), Ev (tDGet td tx) σ H (.ref a) ∧ H a = some (.lst ((nats ys).map V.int)) ∧ ys.length ≤ j ∧ (∀ y ∈ ys, y < n) ∧ H0 a = none := by
  obtain ⟨kvs, h1, h2, h3⟩ := h
  obtain ⟨a, ys, g1, g2, g3, g4, g5⟩ := h3 x xm
  exact ⟨a, ys, fun H1 e1 Q q => hd H1 e1 _ fun H2 e2 => hx H2 (e1.trans e2) _ fun H3 e3 => ⟨D, .ref a, rfl, .inl ⟨kvs, Sum.inl (x : Int), .inl ((e1.trans (e2.trans e3)) _ _ h1), rfl, g1.symm⟩, q H3 (e2.trans e3)⟩, g2, g3, g4, g5⟩
theorem valV_keys {ρ : Type} (ky : ρ → Key) (ad : ρ → Addr) : ∀ {rows : List ρ} {r : ρ}, (rows.map ky).Nodup → r ∈ rows → valV (rows.map fun r => (ky r, V.ref (ad r))) (ky r) = some (.ref (ad r))
  | a :: rows, r, nd, hr => by
    rw [List.map_cons, List.nodup_cons] at nd
    rcases List.mem_cons.mp hr with rfl | hr
    · exact valV_pos rfl
    · rw [List.map_cons, valV_neg (fun z => nd.1 (by rw [show ky a = ky r from z]; exact List.mem_map_of_mem hr))]
      exact valV_keys ky ad nd.2 hr
theorem mergeK_nodup : ∀ (more kvs : List (Key × V)), (more.map (·.1)).Nodup → (∀ kv ∈ more, valV kvs kv.1 = none) → mergeK kvs more = kvs ++ more
  | [], kvs, _, _ => by simp [mergeK]
  | a :: r, kvs, nd, h => by
    rw [List.map_cons, List.nodup_cons] at nd
    show mergeK (putK kvs a.1 a.2) r = _
    have ha := h a (by simp)
    rw [putK_new _ ha, mergeK_nodup r _ nd.2 fun kv hkv => ?_]
    · simp
    · rw [valV_snoc a.1 kv.1 a.2 kvs ha, if_neg (fun e => nd.1 (by rw [← e]; exact List.mem_map_of_mem hkv))]
      exact h kv (List.mem_cons_of_mem _ hkv)
theorem own_pairs : ∀ (as : List Nat) (k : List V), k.length = as.length → (∀ (i : Nat) a v, as[i]? = some a → k[i]? = some v → ∃ t l, v = .ref t ∧ SqT K H t [.int (a : Int), .ref l] ∧ H l = some (.lst [.int (a : Int)]) ∧ H0 l = none) →
    ∃ ls : List (Addr × Addr × Nat), k = ls.map (fun z => V.ref z.1) ∧ ls.map (·.2.2) = as ∧ ∀ z ∈ ls, SqT K H z.1 [.int (z.2.2 : Int), .ref z.2.1] ∧ H z.2.1 = some (.lst [.int (z.2.2 : Int)]) ∧ H0 z.2.1 = none
  | [], [], _, _ => ⟨[], rfl, rfl, fun _ h => nomatch h⟩
  | a :: as, v :: k, hl, h => by
    obtain ⟨t, l, rfl, h1⟩ := h 0 a v rfl rfl
    obtain ⟨ls, rfl, rfl, h2⟩ := own_pairs as k (by simpa using hl) fun i a v ha hv => h (i + 1) a v (by simpa using ha) (by simpa using hv)
    refine ⟨(t, l, a) :: ls, rfl, rfl, fun z hz => ?_⟩
    rcases List.mem_cons.mp hz with rfl | hz
    · exact h1
    · exact h2 z hz
theorem own_paired {F : Addr → Key × V → Prop} {f : Addr × Addr × Nat → Key × V} : ∀ {ls : List (Addr × Addr × Nat)}, (∀ z ∈ ls, F z.1 (f z)) → Paired F (ls.map (·.1)) (ls.map f)
  | [], _ => .nil
  | z :: ls, h => .cons (h z (by simp)) (own_paired fun y hy => h y (List.mem_cons_of_mem _ hy))
theorem cut_mem {xs : List V} {lo hi : Option Int} {v : V} (h : v ∈ cutV xs lo hi) : v ∈ xs := by
  unfold cutV at h
  exact List.mem_of_mem_drop (List.mem_of_mem_take h)
theorem OwnAt.mono {m j j' : Nat} (h : OwnAt H0 H D m n j) (hj : j ≤ j') : OwnAt H0 H D m n j' :=
  let ⟨kvs, h1, h2, h3⟩ := h
  ⟨kvs, h1, by omega, fun x hx => let ⟨a, ys, g1, g2, g3, g4⟩ := h3 x hx; ⟨a, ys, g1, g2, by omega, g4⟩⟩
theorem zip_len {cs : List Nat} : (cs.zipIdx.map fun p => PyData.tuple [.int (p.2 : Int), .int (p.1 : Int)]).length = cs.length := by simp
theorem OwnAt.get8 {σ : L2.St} {td tx : TE} {H8 : Hp} {m j x : Nat} (h : OwnAt H0 H8 D m n j) (e : ExN (· = p) H8 H') (d : D ≠ p) (hp : H0 p ≠ none) (hd : Ev td σ H' (.ref D)) (hx : Ev tx σ H' (.int (x : Int))) (xm : x < m) :
    ∃ (a : Addr) (ys : List Nat), Ev (tDGet td tx) σ H' (.ref a) ∧ H' a = some (.lst ((nats ys).map V.int)) ∧ ys.length ≤ j ∧ (∀ y ∈ ys, y < n) ∧ a ≠ p ∧ ∀ l, H8 l = none → a ≠ l := by
  obtain ⟨kvs, h1, h2, h3⟩ := h
  obtain ⟨a, ys, g1, g2, g3, g4, g5⟩ := h3 x xm
  have ap : a ≠ p := fun z => hp (by rw [← z]; exact g5)
  refine ⟨a, ys, fun H1 e1 Q q => hd H1 e1 _ fun H2 e2 => hx H2 (e1.trans e2) _ fun H3 e3 => ⟨D, .ref a, rfl, .inl ⟨kvs, Sum.inl (x : Int), .inl ((e1.trans (e2.trans e3)) _ _ (e _ _ h1 d)), rfl, g1.symm⟩, q H3 (e2.trans e3)⟩, e _ _ g2 ap, g3, g4, ap, fun l hl z => ?_⟩
  rw [z, hl] at g2
  cases g2
/-- one more copy -/
theorem OwnAt.put {m j x : Nat} {b : Addr} {ys : List Nat} (h : OwnAt H0 H D m n j) (hb : H b = some (.lst ((nats ys).map V.int))) (hl : ys.length ≤ j + 1) (hy : ∀ y ∈ ys, y < n) (h0 : H0 b = none) (xm : x < m) {kvs : List (Key × V)} (hD : H D = some (.dK kvs)) :
    OwnAt H0 (upd H D (.dK (putK kvs (Sum.inl (x : Int)) (.ref b)))) D m n (j + 1) := by
  obtain ⟨kvs', h1, h2, h3⟩ := h
  obtain rfl : kvs' = kvs := by rw [h1] at hD; cases hD; rfl
  have ne : ∀ {a : Addr} {xs : List V}, H a = some (.lst xs) → a ≠ D := fun g e => by
    subst e
    rw [h1] at g
    cases g
  refine ⟨_, upd_same, by have := length_putK kvs' (Sum.inl (x : Int) : Key) (.ref b); omega, fun z zm => ?_⟩
  rw [valV_put]
  by_cases e : (Sum.inl (z : Int) : Key) = Sum.inl (x : Int)
  · rw [if_pos e]
    exact ⟨b, ys, rfl, by rw [upd_ne (ne hb)]; exact hb, hl, hy, h0⟩
  · rw [if_neg e]
    obtain ⟨a, ys', g1, g2, g3, g4⟩ := h3 z zm
    exact ⟨a, ys', g1, by rw [upd_ne (ne g2)]; exact g2, by omega, g4⟩
theorem q_dput0 {σ : L2.St} {i j : Nat} {tz : TS} {D : Ends} (h : ∀ l, H l = none → ∃ (a : Addr) (y : V) (H4 : Hp), σ[i]? = some (some (.ref a)) ∧ σ[j]? = some (some y) ∧ DPut (upd H l (.lst [])) a y (.ref l) H4 ∧ tz D σ H4) : tSeq (sDPut (tVar i) (tVar j) (tLst tNil)) tz D σ H :=
  ⟨sz_of (by simp), fun l nl => let ⟨a, y, H4, h1, h2, h3, h4⟩ := h l nl; ⟨.ref a, h1, y, h2, a, H4, rfl, h3, h4⟩⟩
/-- enumerate over a list of ints, others written -/
theorem wk_enumI {a : Addr} {ns : List Nat} {G : Hp → Prop} (h : ∀ H', G H' → H' a = some (.lst ((nats ns).map V.int))) : Wk K (Ite K a) G (ns.zipIdx.map fun p => PyData.tuple [.int (p.2 : Int), .int (p.1 : Int)]) where
  go := fun i H1 g l => by
    have l : i < ns.length := by simpa using l
    exact ⟨_, .int (ns[i] : Nat), sq_of (h H1 g), by simp [nats, l]⟩
  stop := fun H1 g => ⟨_, sq_of (h H1 g), by simp [nats]⟩
  yld := fun i H1 x H2 d g e y => by
    obtain ⟨T, w, rfl, hT, rfl, y⟩ := y
    rw [List.getElem?_map, List.getElem?_zipIdx] at e
    have hw := y _ (sq_of (h H1 g))
    cases q : ns[i]? with
    | none => rw [q] at e; cases e
    | some k =>
      rw [q] at e
      cases e
      simp only [nats, List.getElem?_map, q, Option.map_some] at hw
      cases hw
      refine ⟨Ex.new hT, .tup (st_of upd_same) (.cons ?_ (.cons (.int _) .nil))⟩
      simpa using TD.int (K := K) _
theorem src_enumI {σ : L2.St} {te : TE} {a : Addr} {ns : List Nat} (h : Ev te σ H (.ref a)) (hl : H a = some (.lst ((nats ns).map V.int))) : Src (fun _ H' => H' a = some (.lst ((nats ns).map V.int))) K (iEnum K (tCons te tNil)) σ H (ns.zipIdx.map fun p => PyData.tuple [.int (p.2 : Int), .int (p.1 : Int)]) := fun H1 e1 R q =>
  h H1 e1 _ fun H2 e2 => ⟨a, _, rfl, sq_of ((e1.trans e2) _ _ hl), q _ H2 e2 (wk_enumI fun H' g => g)⟩
end
section
variable {P : Program} {w : World} {K : PySem.W.Frag} {mg : Str → Option Value} {base : Heap}
abbrev sp_ltwin (K : PySem.W.Frag) : Sp := fun vs H Q _ => ∃ (p q : Addr) (ns : List Int) (c : Nat) (u : L2.V) (W : Web Str), vs = [.ref p, u] ∧ FeedAt p q ns c H ∧ c + 1000 ≤ 100000 ∧ TD K H u (dWeb W) ∧ WebOk W.many W ∧ 1 ≤ W.many ∧ W.many ≤ 2 ∧
  ∀ v H' V, ExN (· = p) H H' → FeedAt p q ns (c + 1000) H' → TD K H' v (dWeb V) → WebOk V.many V → 1 ≤ V.many → V.many ≤ 4 → Q v H'
theorem has_ltwin (D : DefAt K mg "_law_twin_net" st__law_twin_net ["_law_feed_here", "_law_net_here"]) (B : Blt mg) (GD : Has P w K mg base CX0 1 "_law_draw" ["_law_feed_here", "_law_many"] (sp_ldraw K)) (GN : Has P w K mg base CX0 1 "_law_net" ["_law_many", "_law_by_hand", "_law_by_word"] (sp_lnet K)) : Has P w K mg base CX0 2 "_law_twin_net" ["_law_feed_here", "_law_net_here"] (sp_ltwin K) := by
  refine D.ok sc__law_twin_net (fun vs H Q E h => ?_) (fun f cdv A outer s H vs Q E hr h => ?_)
  · obtain ⟨p, q, ns, c, u, W, rfl, _⟩ := h
    rfl
  · obtain ⟨p, q, ns, c, u, W, rfl, hf, hc, tu, ok, w1, w2, kk⟩ := h
    have nd := sc__law_twin_net.nd
    have hu := hu_of hr
    refine ⟨_, pss_cons (ps_set (i := 2) nd rfl (.inl rfl) (pe_slice (k_slL K)
        (pe_lc (own := [("_law_x", 5)]) (g := gName 5) rfl nd (pi_range1 (by rfl) B.b_range (pa_cons (pe_ix (k_ixT K) (pv 1) pe_int (fun _ _ => rfl)) pa_nil)) (blk (N := ["_law_feed_here", "_law_net_here", "_law_copies", "_law_own", "_law_k", "_law_x", "_law_by_hand", "_law_by_word", "_law_who", "_law_pairs", "_law_y", "_law_first", "_law_some", "_law_word", "_law_places", "_law_z"]) (sc := defScope st__law_twin_net) (by decide +kernel))
          (fun _ _ _ _ _ => pg_name (i := 5) nd rfl (.inl rfl)) (fun _ _ _ _ _ => pts_one (pt_cmpR op_eq (pe_has GD hr (by rfl) pass0 (pa_cons (pv 0) (pa_cons pe_int pa_nil))) pe_int (nomark _))) (fun _ _ _ _ _ => pv 5))
        po_none (po_some (pe_op op_sub pe_int (pe_ix (k_ixT K) (pv 1) pe_int (fun _ _ => rfl))))))
      (pss_cons (ps_set (i := 3) nd rfl (.inl rfl) (pe_callTy (call_dictP rfl) (by rfl) B.b_dict (by decide +kernel) (pa_cons
        (pe_lc (own := [("_law_x", 5)]) (g := gName 5) rfl nd (pi_range1 (by rfl) B.b_range (pa_cons (pe_ix (k_ixT K) (pv 1) pe_int (fun _ _ => rfl)) pa_nil)) (blk (N := ["_law_feed_here", "_law_net_here", "_law_copies", "_law_own", "_law_k", "_law_x", "_law_by_hand", "_law_by_word", "_law_who", "_law_pairs", "_law_y", "_law_first", "_law_some", "_law_word", "_law_places", "_law_z"]) (sc := defScope st__law_twin_net) (by decide +kernel))
          (fun _ _ _ _ _ => pg_name (i := 5) nd rfl (.inl rfl)) (fun _ _ _ _ _ => pts_nil) (fun _ _ _ _ _ => pe_tup (pa_cons (pv 5) (pa_cons (pe_lst (pa_cons (pv 5) pa_nil)) pa_nil)))) pa_nil)))
      (pss_cons (ps_for PassesOwn.never rfl (pi_enum (by rfl) B.b_enumerate (pa_cons (pv 2) pa_nil)) (k_tup K 2 rfl (pgs_cons (pg_name (i := 4) nd rfl (.inl rfl)) (pgs_cons (pg_name (i := 5) nd rfl (.inl rfl)) pgs_nil)))
        (pss_one (ps_dput hu (pv 3) (pv 5) (pe_op op_cat (pe_dget hu (pv 3) (pv 5) (fun _ _ => rfl)) (pe_lst (pa_cons (pe_op op_add (pe_ix (k_ixT K) (pv 1) pe_int (fun _ _ => rfl)) (pv 4)) pa_nil))) rfl)))
      (pss_cons (ps_par (i := 6) (j := 7) rfl nd rfl rfl (by decide) rfl rfl (pa_cons pe_dnewK (pa_cons pe_dnewK pa_nil)) rfl)
      (pss_cons (ps_for PassesOwn.never rfl (k_pit K (pe_ix (k_ixT K) (pv 1) pe_int (fun _ _ => rfl))) (k_tup K 2 rfl (pgs_cons (pg_name (i := 8) nd rfl (.inl rfl)) (pgs_cons (pg_name (i := 9) nd rfl (.inl rfl)) pgs_nil)))
        (pss_cons (ps_dput hu (pv 6) (pv 8) (pe_lst pa_nil) rfl)
        (pss_one (ps_for PassesOwn.never rfl (k_pit K (pv 9)) (k_tup K 2 rfl (pgs_cons (pg_name (i := 5) nd rfl (.inl rfl)) (pgs_cons (pg_name (i := 10) nd rfl (.inl rfl)) pgs_nil)))
          (pss_one (ps_for PassesOwn.never rfl (k_pil K (pe_dget hu (pv 3) (pv 5) (fun _ _ => rfl))) (pg_name (i := 11) nd rfl (.inr rfl))
            (pss_cons (ps_setLc (i := 12) (own := [("_law_z", 15)]) (g := gName 15) rfl nd rfl rfl (sw_true rfl rfl rfl (by decide +kernel)) (k_pil K (pe_dget hu (pv 3) (pv 10) (fun _ _ => rfl))) (blk (N := ["_law_feed_here", "_law_net_here", "_law_copies", "_law_own", "_law_k", "_law_x", "_law_by_hand", "_law_by_word", "_law_who", "_law_pairs", "_law_y", "_law_first", "_law_some", "_law_word", "_law_places", "_law_z"]) (sc := defScope st__law_twin_net) (by decide +kernel))
              (fun _ _ _ _ _ => pg_name (i := 15) nd rfl (.inl rfl)) (fun _ _ _ _ _ => pts_one (pt_cmpR op_eq (pe_has GD hr (by rfl) pass0 (pa_cons (pv 0) (pa_cons pe_int pa_nil))) pe_int (nomark _))) (fun _ _ _ _ _ => pv 15))
            (pss_one (ps_expr (pe_bm PySem.F.plainAttrs_list PySem.F.slot_list_extend PySem.F.type_list_extend mt_extend (pe_dget hu (pv 6) (pv 8) (fun _ _ => rfl)) (pa_cons
              (pe_lc (own := [("_law_z", 15)]) (g := gName 15) rfl nd (k_pil K (pe_ifExp (pt_cmpR (k_neD K hr.units) (pv 12) (pe_lst pa_nil) (nomark _)) (pv 12) (pe_dget hu (pv 3) (pv 10) (fun _ _ => rfl)))) (blk (N := ["_law_feed_here", "_law_net_here", "_law_copies", "_law_own", "_law_k", "_law_x", "_law_by_hand", "_law_by_word", "_law_who", "_law_pairs", "_law_y", "_law_first", "_law_some", "_law_word", "_law_places", "_law_z"]) (sc := defScope st__law_twin_net) (by decide +kernel))
                (fun _ _ _ _ _ => pg_name (i := 15) nd rfl (.inl rfl)) (fun _ _ _ _ _ => pts_nil) (fun _ _ _ _ _ => pe_tup (pa_cons (pv 11) (pa_cons (pv 15) pa_nil)))) pa_nil)))))))))))
      (pss_cons (ps_for PassesOwn.never rfl (k_pit K (pe_ix (k_ixT K) (pv 1) pe_int (fun _ _ => rfl))) (k_tup K 2 rfl (pgs_cons (pg_name (i := 13) nd rfl (.inl rfl)) (pgs_cons (pg_name (i := 14) nd rfl (.inl rfl)) pgs_nil)))
        (pss_cons (ps_dput hu (pv 7) (pv 13) (pe_lst pa_nil) rfl)
        (pss_one (ps_for PassesOwn.never rfl (k_pit K (pv 14)) (pg_name (i := 5) nd rfl (.inl rfl))
          (pss_one (ps_expr (pe_bm PySem.F.plainAttrs_list PySem.F.slot_list_extend PySem.F.type_list_extend mt_extend (pe_dget hu (pv 7) (pv 13) (fun _ _ => rfl)) (pa_cons (pe_dget hu (pv 3) (pv 5) (fun _ _ => rfl)) pa_nil))))))))
      (pss_one (ps_ret (pe_has GN hr (by rfl) pass0 (pa_cons (pe_op op_add (pe_ix (k_ixT K) (pv 1) pe_int (fun _ _ => rfl)) (pe_callB (k_len K) (by rfl) B.b_len (by decide +kernel) (pa_cons (pv 2) pa_nil))) (pa_cons (pv 6) (pa_cons (pv 7) pa_nil))))))))))), ?_⟩
    have hm := ok.wf
    have hp0 : H p ≠ none := fun z => by
      obtain ⟨_, _, _, hp, _⟩ := hf
      rw [hp] at z
      cases z
    -- the copies
    refine q_raw ?_
    unfold tSl tNoPart tPart
    refine lc_feed (K := K) (l := List.range W.many) (enc := fun (i : Nat) => PyData.int (i : Int)) (G := fun v _ => ∃ y : Nat, y < W.many ∧ v = .int (y : Int)) (fun _ _ _ _ h => h) ?_ (fun _ _ _ => True.intro) (by simp; omega) hf (fun a ha x H4 Q4 en4 tx k4 => ?_) fun l0 xs H1 nl0 en1 f1 hl0 hlen hg => ?_
    · exact src_rngT (ev_many0 (ed_var (v := u) rfl tu)) (by omega)
    · obtain rfl := tx.intI
      refine k4 _ rfl (fun c' H5 hc' en5 f5 Qt qt => ?_) fun H5 en5 Qe qe => ⟨_, rfl, qe _ H5 (Ex.refl _) ⟨a, List.mem_range.mp ha, rfl⟩⟩
      rw [List.length_range] at hc'
      exact c_draw (K := K) (m := 2) rfl f5 (by omega) (by decide) (by decide) fun r H6 en6 f6 _ => ⟨rfl, _, rfl, qt _ _ en6 f6⟩
    rw [List.length_range] at hlen f1
    have tu1 := tu.mono (hf.kt en1)
    refine ev_op (x := .int 8) (y := .int (W.many : Int)) ev_c (ev_many0 (ed_var (v := u) rfl tu1)) rv_I0 H1 (Ex.refl _) _ fun H2 e2 => ⟨_, rfl, l0, xs, rfl, sq_of (e2 _ _ hl0), fun L nL => ?_⟩
    obtain ⟨cs, hcs, hcl⟩ := ints_of (xs := cutV xs none (some (8 - (W.many : Int)))) (n := W.many) fun v hv => hg v (cut_mem hv)
    have csl : cs.length ≤ W.many := by
      have := cutV_length xs none (some (8 - (W.many : Int)))
      rw [hcs] at this
      simp [nats] at this
      omega
    rw [hcs]
    have en3 : ExN (· = p) H (upd H2 L (.lst ((nats cs).map V.int))) := en1.trans (ExN.ex (e2.trans (Ex.new nL)))
    have f3 := (f1.ex e2).ex (Ex.new (o := HO.lst ((nats cs).map V.int)) nL)
    have tu3 := tu1.ex (e2.trans (Ex.new (o := HO.lst ((nats cs).map V.int)) nL))
    have hL3 : upd H2 L (.lst ((nats cs).map V.int)) L = some (.lst ((nats cs).map V.int)) := upd_same
    generalize upd H2 L (.lst ((nats cs).map V.int)) = H3 at en3 f3 tu3 hL3 ⊢
    -- own
    refine q_raw ?_
    refine cb_one ?_
    refine lc_gen (K := K) (l := List.range W.many) (enc := fun (i : Nat) => PyData.int (i : Int)) (fun H1 D a v H' => ∃ t l, v = .ref t ∧ SqT K H' t [.int ((a : Nat) : Int), .ref l] ∧ H' l = some (.lst [.int (a : Int)]) ∧ H1 l = none ∧ l ≠ D) (by simp; omega)
      (fun H1 D a v H' H'' e ⟨t, l, h1, h2, h3, h4⟩ => ⟨t, l, h1, ex_t e h2, e _ _ h3, h4⟩) (fun H1 D a v H' k k' n hD ⟨t, l, h1, h2, h3, h4, h5⟩ => ⟨t, l, h1, kt_t (Kt.upd hD rfl) h2, by rw [upd_ne h5]; exact h3, h4, h5⟩) ?_ (fun _ _ _ => True.intro) (fun H4 D e4 nD a ha x H5 Q2 e5 hD tx k5 => ?_) fun H4 D H5 k e4 nD e5 hD hk hR => ?_
    · exact src_rngT (ev_many0 (ed_var (v := u) rfl tu3)) (by omega)
    · obtain rfl := tx.intI
      obtain ⟨k, hD⟩ := hD
      refine k5 _ rfl fun H6 e6 Q6 q6 => ?_
      refine ⟨_, rfl, _, rfl, sz_of (by simp), fun l nl => ⟨sz_of (by simp), fun t nt => q6 _ _ ((Ex.new nl).trans (Ex.new nt)) ⟨t, l, rfl, st_of upd_same, Ex.new nt _ _ upd_same, ?_, ?_⟩⟩⟩
      · exact fresh_back (e5.trans e6) nl
      · exact fun z => by subst z; rw [e6 _ _ hD] at nl; cases nl
    obtain ⟨ls, rfl, hls, hz⟩ := own_pairs (K := K) (H := H5) (H0 := H) (List.range W.many) k hk fun i a v h1 h2 => by
      obtain ⟨t, l, g1, g2, g3, g4, _⟩ := hR i a v h1 h2
      exact ⟨t, l, g1, g2, g3, (en3.trans (ExN.ex e4)).back g4 ((f3.ex e4).nep g4).1⟩
    refine ⟨D, ls.map (·.1), ls.map fun z => (Sum.inl (z.2.2 : Int), V.ref z.2.1), rfl, sq_of (by rw [List.map_map]; exact hD), own_paired fun z hz' => (hz z hz').1, fun O nO => ?_⟩
    have knd : (ls.map fun z => (Sum.inl ((z.2.2 : Nat) : Int) : Key)).Nodup := by
      have : (ls.map fun z => (Sum.inl ((z.2.2 : Nat) : Int) : Key)) = (ls.map (·.2.2)).map fun x => (Sum.inl ((x : Nat) : Int) : Key) := by rw [List.map_map]; rfl
      rw [this, hls]
      exact List.pairwise_map.mpr (List.nodup_range.imp fun h e => h (by have := Sum.inl.inj e; omega))
    rw [mergeK_nodup _ [] (by rw [List.map_map]; exact knd) (fun _ _ => rfl), List.nil_append]
    have E5 := e4.trans e5
    have nOH : H O = none := (en3.trans (ExN.ex E5)).back nO ((f3.ex E5).nep nO).1
    have Op := ((f3.ex E5).nep nO).1
    have Oq := ((f3.ex E5).nep nO).2
    have own0 : OwnAt H (upd H5 O (.dK (ls.map fun z => (Sum.inl (z.2.2 : Int), V.ref z.2.1)))) O W.many (W.many + cs.length) 1 := by
      have ll : ls.length = W.many := by
        have := congrArg List.length hls
        simpa using this
      refine ⟨_, upd_same, by simp [ll]; omega, fun x hx => ?_⟩
      obtain ⟨z, hz1, hz2⟩ := List.mem_map.mp (by rw [hls]; exact List.mem_range.mpr hx : x ∈ ls.map (·.2.2))
      subst hz2
      have ne : z.2.1 ≠ O := fun e => by
        have := (hz z hz1).2.1
        rw [e, nO] at this
        cases this
      refine ⟨z.2.1, [z.2.2], valV_keys (fun z : Addr × Addr × Nat => (Sum.inl ((z.2.2 : Nat) : Int) : Key)) (fun z => z.2.1) knd hz1, by rw [upd_ne ne]; exact (hz z hz1).2.1, Nat.le_refl _, fun y hy => ?_, (hz z hz1).2.2⟩
      rw [List.mem_singleton.mp hy]
      omega
    have e6 : Ex H3 (upd H5 O (.dK (ls.map fun z => (Sum.inl (z.2.2 : Int), V.ref z.2.1)))) := E5.trans (Ex.new nO)
    have en6 := en3.trans (ExN.ex e6)
    have f6 := f3.ex e6
    have tu6 := tu3.ex e6
    have hL6 := e6 _ _ hL3
    generalize upd H5 O (.dK (ls.map fun z => (Sum.inl (z.2.2 : Int), V.ref z.2.1))) = H6 at own0 en6 f6 tu6 hL6 ⊢
    dsimp only
    have Lp : L ≠ p := fun z => by
      obtain ⟨_, _, _, hp, _⟩ := f6
      rw [← z, hL6] at hp
      have := Option.some.inj hp
      cases cs with
      | nil => cases this
      | cons a r => simp [nats] at this
    have LO : L ≠ O := fun z => by
      obtain ⟨_, h1, _⟩ := own0
      rw [← z, hL6] at h1
      cases h1
    refine q_for (K := K) (ds := cs.zipIdx.map fun p => PyData.tuple [.int (p.2 : Int), .int (p.1 : Int)]) (S := fun _ H' => H' L = some (.lst ((nats cs).map V.int))) ?_
      (fun H1 i σ H' => (∃ a b, σ = [some (.ref p), some u, some (.ref L), some (.ref O), a, b, none, none, none, none, none, none, none, none, none, none]) ∧ ExN (· = p) H H' ∧ FeedAt p q ns (c + 10) H' ∧ H' L = some (.lst ((nats cs).map V.int)) ∧ TD K H' u (dWeb W) ∧ OwnAt H H' O W.many (W.many + cs.length) (1 + i))
      (fun H7 e7 => ⟨⟨none, none, rfl⟩, en6.trans (ExN.ex e7), (f6.ex e7).mono (by omega), e7 _ _ hL6, tu6.ex e7, own0.ex e7⟩) (fun H1 i σ H' q => q.2.2.2.1) ?_ ?_
    · exact src_enumI (ev_var rfl) hL6
    · rintro H7 i d x σ' H8 H9 e7 hd ⟨⟨a, b, rfl⟩, en, f, hL, tw, own⟩ e9 tx
      rw [List.getElem?_map, List.getElem?_zipIdx] at hd
      cases hci : cs[i]? with
      | none => rw [hci] at hd; cases hd
      | some x =>
        rw [hci] at hd
        cases hd
        have il : i < cs.length := (List.getElem?_eq_some_iff.mp hci).1
        have xm : x < W.many := hcl x (List.mem_of_getElem? hci)
        refine tg_pair tx fun b1 b2 tb1 tb2 => ?_
        obtain rfl := tb1.intI
        obtain rfl := tb2.intI
        have own9 := own.ex e9
        have tw9 := tw.ex e9
        obtain ⟨a2, ys, hget, ha2, yl, yb, _⟩ := own9.get (td := tVar 3) (tx := tVar 5) (σ := [some (.ref p), some u, some (.ref L), some (.ref O), some (.int ((0 + i : Nat) : Int)), some (.int (x : Int)), none, none, none, none, none, none, none, none, none, none]) (ev_var rfl) (ev_var rfl) xm
        refine hget H9 (Ex.refl _) _ fun H10 e10 => ?_
        refine ev_op (x := .int (W.many : Int)) (y := .int ((0 + i : Nat) : Int)) (ev_many0 (ed_var (v := u) rfl (tw9.ex e10))) (ev_var rfl) rv_I0 H10 (Ex.refl _) _ fun H11 e11 => ⟨sz_of (by simp), fun bb nb => ?_⟩
        refine ⟨a2, bb, _, _, rfl, rfl, ((e10.trans e11).trans (Ex.new nb)) _ _ ha2, upd_same, sz_of (by simp [nats]; omega), fun r nr => ?_⟩
        have E := e9.trans (((e10.trans e11).trans (Ex.new nb)).trans (Ex.new (o := HO.lst ((nats ys).map V.int ++ [V.int ((W.many : Int) + ((0 + i : Nat) : Int))])) nr))
        have own12 := own.ex E
        obtain ⟨kvs, hO, hk2, _⟩ := own12
        have nrH : H r = none := (en.trans (ExN.ex (e9.trans ((e10.trans e11).trans (Ex.new nb))))).back nr (((f.ex (e9.trans ((e10.trans e11).trans (Ex.new nb)))).nep nr).1)
        refine ⟨_, rfl, _, rfl, O, _, rfl, DPut.k (k := Sum.inl (x : Int)) hO (sz_lt (by omega)), ?_⟩
        refine ⟨⟨_, _, rfl⟩, (en.trans (ExN.ex E)).updN nOH, (f.ex E).upd Op Oq, by rw [upd_ne LO]; exact E _ _ hL, (tw.ex E).mono (Kt.upd hO rfl), (own.ex E).put (b := r) (ys := ys ++ [W.many + i]) ?_ (by simp; omega) (fun y hy => ?_) nrH xm hO⟩
        · rw [upd_same]
          simp [nats]
        · rcases List.mem_append.mp hy with hy | hy
          · exact yb y hy
          · rw [List.mem_singleton.mp hy]
            omega
    · rintro H7 σ' H8 e7 ⟨⟨a, b, rfl⟩, en, f, hL, tw, own⟩
      rw [zip_len] at own
      have own := own.mono (j' := 3) (by omega)
      have bk8 : ∀ {a : Addr}, H8 a = none → a ≠ p → H a = none := fun h1 h2 => en.back h1 h2
      refine q_par2 ?_
      intro D1 n1 D2 n2
      refine ⟨_, _, rfl, ?_⟩
      obtain ⟨D1p, D1q⟩ := f.nep n1
      have n2' : H8 D2 = none := fresh_back (Ex.new (o := .dK []) n1) n2
      obtain ⟨D2p, D2q⟩ := f.nep n2'
      have D21 : D2 ≠ D1 := fun z => by subst z; rw [upd_same] at n2; cases n2
      obtain ⟨N, hN⟩ : ∃ N, N = W.many + cs.length := ⟨_, rfl⟩
      rw [← hN] at own
      have eB : Ex H8 (upd (upd H8 D1 (.dK [])) D2 (.dK [])) := (Ex.new n1).trans (Ex.new n2)
      have fB := f.ex eB
      have d1B : upd (upd H8 D1 (.dK [])) D2 (.dK []) D1 = some (.dK []) := by rw [upd_ne D21.symm, upd_same]
      have d2B : upd (upd H8 D1 (.dK [])) D2 (.dK []) D2 = some (.dK []) := upd_same
      generalize upd (upd H8 D1 (.dK [])) D2 (.dK []) = HB at eB fB d1B d2B ⊢
      have ownN : ∀ {H'}, ExN (· = p) H8 H' → OwnAt H H' O W.many N 3 := fun e => own.exN e Op hp0
      have sl3 : W.steps.length ≤ 3 := ok.hl
      have hp8 : ∀ {a : Addr}, H8 a = none → a ≠ p ∧ a ≠ q := fun h => f.nep h
      refine q_for (K := K) (ds := W.steps.map dStep) (S := Kt) ?_
        (fun H1 i σ H' => (∃ a4 a5 a8 a9 a10 a11 a12, σ = [some (.ref p), some u, some (.ref L), some (.ref O), a4, a5, some (.ref D1), some (.ref D2), a8, a9, a10, a11, a12, none, none, none]) ∧ Kt H1 H' ∧ ExN (· = p) H8 H' ∧ FeedAt p q ns (c + 10 + i * 100) H' ∧ H' D2 = some (.dK []) ∧ ∃ rows, HandsAt K H' D1 N rows ∧ rows.map (·.1) = (W.steps.map (·.1)).take i ∧ ∀ r ∈ rows, H8 r.2.1 = none)
        (fun H9 e9 => ⟨⟨a, b, none, none, none, none, none, rfl⟩, Kt.refl _, ExN.ex (eB.trans e9), (fB.ex e9).mono (by omega), e9 _ _ d2B, [], ⟨e9 _ _ d1B, by simp, by simp, by simp⟩, rfl, by simp⟩) (fun H1 i σ H' q => q.2.1) ?_ ?_
      · exact src_tup (ed_ix (i := 1) (ed_var (v := u) rfl (tw.ex eB)) ev_c rfl)
      · rintro H9 i d x σ' H10 H11 e9 hd ⟨⟨a4, a5, a8, a9, a10, a11, a12, rfl⟩, kt, en8, f10, hd2, rows, hm, hk, hz8⟩ e11 tx
        rw [List.getElem?_map] at hd
        cases hsi : W.steps[i]? with
        | none => rw [hsi] at hd; cases hd
        | some st =>
          obtain ⟨h, ps⟩ := st
          rw [hsi] at hd
          cases hd
          have il : i < W.steps.length := (List.getElem?_eq_some_iff.mp hsi).1
          have hst := List.mem_of_getElem? hsi
          have psl : ps.length ≤ 4 := Nat.le_trans (ok.ps (h, ps) hst) (Nat.mul_le_mul w2 w2)
          have hnm : h ∈ (["h", "k", "zz"] : List Str) := ok.hnd h (List.mem_map.mpr ⟨_, hst, rfl⟩)
          have zm : h ∉ rows.map (·.1) := by
            rw [hk]
            intro hm'
            obtain ⟨j, hj, e⟩ := List.getElem_of_mem hm'
            rw [List.length_take] at hj
            rw [List.getElem_take] at e
            have e2 : (W.steps.map (·.1))[i]'(by simpa using il) = h := by
              have := (List.getElem?_eq_some_iff.mp hsi).2
              simp [this]
            have := (List.pairwise_iff_getElem.mp ok.wf.nds) j i (by omega) (by simpa using il) (by omega)
            exact this (by rw [e, e2])
          refine tg_pair tx fun b1 b2 tb1 tb2 => ?_
          obtain rfl := tb1.strI
          refine q_dput0 (fun l nl => ?_)
          have f11 := f10.ex e11
          have hm11 := hm.ex e11
          have en11 := en8.trans (ExN.ex e11)
          have nl8 : H8 l = none := en11.back nl (f11.nep nl).1
          have lD1 : l ≠ D1 := fun z => by subst z; rw [hm11.d] at nl; cases nl
          have lD2 : l ≠ D2 := fun z => by subst z; rw [e11 _ _ hd2] at nl; cases nl
          have lr : ∀ r ∈ rows, r.2.1 ≠ l := fun r hr => hm11.nel hr nl
          have hmL := hm11.ex (Ex.new (o := .lst []) nl)
          refine ⟨D1, .str h, _, rfl, rfl, DPut.k (k := Sum.inr h) hmL.d (sz_lt (by
            have := congrArg List.length hk
            rw [List.length_map, List.length_take] at this
            rw [List.length_map]
            omega)), ?_⟩
          have hmP := hmL.put (z := h) (l := l) (ts := []) upd_same (by simp) (by simp) zm hnm
          have enP : ExN (· = p) H8 (upd (upd H11 l (.lst [])) D1 (.dK (putK (rows.map fun r => ((Sum.inr r.1 : Key), V.ref r.2.1)) (Sum.inr h) (.ref l)))) := (en11.trans (ExN.ex (Ex.new nl))).updN n1
          have fP := (f11.ex (Ex.new (o := .lst []) nl)).upd (o := .dK (putK (rows.map fun r => ((Sum.inr r.1 : Key), V.ref r.2.1)) (Sum.inr h) (.ref l))) D1p D1q
          have ktP : Kt H11 (upd (upd H11 l (.lst [])) D1 (.dK (putK (rows.map fun r => ((Sum.inr r.1 : Key), V.ref r.2.1)) (Sum.inr h) (.ref l)))) := (Kt.new nl).trans (Kt.upd hmL.d rfl)
          have d2P : upd (upd H11 l (.lst [])) D1 (.dK (putK (rows.map fun r => ((Sum.inr r.1 : Key), V.ref r.2.1)) (Sum.inr h) (.ref l))) D2 = some (.dK []) := by rw [upd_ne D21, upd_ne lD2.symm]; exact e11 _ _ hd2
          generalize upd (upd H11 l (.lst [])) D1 (.dK (putK (rows.map fun r => ((Sum.inr r.1 : Key), V.ref r.2.1)) (Sum.inr h) (.ref l))) = HP at hmP enP fP ktP d2P ⊢
          have tps := (tb2.mono ktP)
          refine s_for (K := K) (ds := ps.map dPair) (S := Kt) ?_
            (fun H1 j σ H' => (∃ a5 a10 a11 a12, σ = [some (.ref p), some u, some (.ref L), some (.ref O), a4, a5, some (.ref D1), some (.ref D2), some (.str h), some b2, a10, a11, a12, none, none, none]) ∧ Kt H1 H' ∧ ExN (· = p) H8 H' ∧ FeedAt p q ns (c + 10 + i * 100 + j * 20) H' ∧ H' D2 = some (.dK []) ∧ ∃ ts, HandsAt K H' D1 N (rows ++ [(h, l, ts)]) ∧ ts.length ≤ j * 9)
            (fun H12 e12 => ⟨⟨a5, a10, a11, a12, rfl⟩, Kt.refl _, enP.trans (ExN.ex e12), (fP.ex e12).mono (by omega), e12 _ _ d2P, [], hmP.ex e12, by simp⟩) (fun H1 i σ H' q => q.2.1) ?_ ?_
          · exact src_tup (ed_var rfl tps)
          · rintro H12 j d x2 σ' H13 H14 e12 hd ⟨⟨a5, a10, a11, a12, rfl⟩, kt13, en13, f13, hd13, ts, hm13, tl13⟩ e14 tx2
            rw [List.getElem?_map] at hd
            cases hpj : ps[j]? with
            | none => rw [hpj] at hd; cases hd
            | some pr =>
              obtain ⟨x, y⟩ := pr
              rw [hpj] at hd
              cases hd
              have jl : j < ps.length := (List.getElem?_eq_some_iff.mp hpj).1
              refine tg_pair tx2 fun c1 c2 t1 t2 => ?_
              obtain rfl := t1.intI
              obtain rfl := t2.intI
              have xy : x < W.many ∧ y < W.many := ok.wf.inS _ hst (x, y) (List.mem_of_getElem? hpj)
              have en14 := en13.trans (ExN.ex e14)
              have f14 := f13.ex e14
              obtain ⟨a1, ys1, hg1, ha1, yl1, yb1, ap1, al1⟩ := own.get8 (td := tVar 3) (tx := tVar 5) (σ := [some (.ref p), some u, some (.ref L), some (.ref O), a4, some (.int (x : Int)), some (.ref D1), some (.ref D2), some (.str h), some b2, some (.int (y : Int)), a11, a12, none, none, none]) en14 Op hp0 (ev_var rfl) (ev_var rfl) xy.1
              refine s_for (K := K) (ds := ys1.map fun (y : Nat) => PyData.int (y : Int)) (S := ExN fun b => b = p ∨ b = l) ?_
                (fun H1 k σ H' => (∃ a11 a12, σ = [some (.ref p), some u, some (.ref L), some (.ref O), a4, some (.int (x : Int)), some (.ref D1), some (.ref D2), some (.str h), some b2, some (.int (y : Int)), a11, a12, none, none, none]) ∧ ExN (fun b => b = p ∨ b = l) H1 H' ∧ Kt H12 H' ∧ ExN (· = p) H8 H' ∧ FeedAt p q ns (c + 10 + i * 100 + j * 20 + k * 6) H' ∧ H' D2 = some (.dK []) ∧ ∃ ts, HandsAt K H' D1 N (rows ++ [(h, l, ts)]) ∧ ts.length ≤ j * 9 + k * 3)
                (fun H15 e15 => ⟨⟨a11, a12, rfl⟩, ExN.refl _, kt13.trans (Kt.ex (e14.trans e15)), en14.trans (ExN.ex e15), (f14.ex e15).mono (by omega), (e14.trans e15) _ _ hd13, ts, hm13.ex (e14.trans e15), by omega⟩) (fun H1 i σ H' q => q.2.1) ?_ ?_
              · exact src_ilN (N := fun b => b = p ∨ b = l) fun H1 e1 Q q => hg1 H1 e1 _ fun H2 e2 => q a1 H2 e2 ((e1.trans e2) _ _ ha1) (by
                  rintro (z | z)
                  · exact ap1 z
                  · exact al1 l nl8 z)
              · rintro H15 k d z σ' H16 H17 e15 hd ⟨⟨a11, a12, rfl⟩, exl, kt16, en16, f16, hd16, ts, hm16, tl16⟩ e17 tz
                rw [List.getElem?_map] at hd
                cases hzk : ys1[k]? with
                | none => rw [hzk] at hd; cases hd
                | some z0 =>
                  rw [hzk] at hd
                  cases hd
                  obtain rfl := tz.intI
                  have kl : k < ys1.length := (List.getElem?_eq_some_iff.mp hzk).1
                  have z0N : z0 < N := yb1 z0 (List.mem_of_getElem? hzk)
                  have en17 := en16.trans (ExN.ex e17)
                  have f17 := f16.ex e17
                  refine g_name ?_
                  refine q_raw ?_
                  obtain ⟨a2, ys2, hg2, ha2, yl2, yb2, ap2, al2⟩ := own.get8 (td := tVar 3) (tx := tVar 10) (σ := [some (.ref p), some u, some (.ref L), some (.ref O), a4, some (.int (x : Int)), some (.ref D1), some (.ref D2), some (.str h), some b2, some (.int (y : Int)), some (.int (z0 : Int)), a12, none, none, none]) en17 Op hp0 (ev_var rfl) (ev_var rfl) xy.2
                  have bd1 : i * 100 ≤ 200 := by omega
                  refine lc_feed (K := K) (l := ys2) (enc := fun (i : Nat) => PyData.int (i : Int)) (S := ExN (· = p)) (G := fun v _ => ∃ y : Nat, y < N ∧ v = .int (y : Int)) (fun _ _ _ _ h => h) ?_ (fun _ _ e => e) (by omega) f17 (fun a ha x H4 Q4 en4 tx k4 => ?_) fun sl xs H18 nsl en18 f18 hsl hlen hg => ?_
                  · exact src_ilN (N := (· = p)) fun H1 e1 Q q => hg2 H1 e1 _ fun H2 e2 => q a2 H2 e2 ((e1.trans e2) _ _ ha2) ap2
                  · obtain rfl := tx.intI
                    refine k4 _ rfl (fun c' H5 hc' en5 f5 Qt qt => ?_) fun H5 en5 Qe qe => ⟨_, rfl, qe _ H5 (Ex.refl _) ⟨a, yb2 a ha, rfl⟩⟩
                    exact c_draw (K := K) (m := 2) rfl f5 (by omega) (by decide) (by decide) fun r H6 en6 f6 _ => ⟨rfl, _, rfl, qt _ _ en6 f6⟩
                  · obtain ⟨sy, rfl, syb⟩ := ints_of hg
                    have syl : sy.length ≤ 3 := by
                      simp [nats] at hlen
                      omega
                    have en18' := en17.trans en18
                    have rp : ∀ r ∈ rows ++ [(h, l, ts)], r.2.1 ≠ p := fun r hr => by
                      rcases List.mem_append.mp hr with hr | hr
                      · exact (hp8 (hz8 r hr)).1
                      · rw [List.mem_singleton.mp hr]
                        exact (hp8 nl8).1
                    have hm18 : HandsAt K H18 D1 N (rows ++ [(h, l, ts)]) := (hm16.ex e17).exN (f17.kt en18) en18 D1p rp
                    have slp : sl ≠ p := (f17.nep nsl).1
                    obtain ⟨a3, ys3, hg3, ha3, yl3, yb3, ap3⟩ : ∃ (a3 : Addr) (ys3 : List Nat), Ev (tIf (tTest (tOp (rNeD K) (tVar 12) (tLst tNil))) (tVar 12) (tDGet (tVar 3) (tVar 10))) [some (.ref p), some u, some (.ref L), some (.ref O), a4, some (.int (x : Int)), some (.ref D1), some (.ref D2), some (.str h), some b2, some (.int (y : Int)), some (.int (z0 : Int)), some (.ref sl), none, none, none] H18 (.ref a3) ∧ H18 a3 = some (.lst ((nats ys3).map V.int)) ∧ ys3.length ≤ 3 ∧ (∀ y ∈ ys3, y < N) ∧ a3 ≠ p := by
                      by_cases hsy : nats sy = []
                      · obtain ⟨a3, ys3, hg3, ha3, yl3, yb3, ap3, _⟩ := own.get8 (td := tVar 3) (tx := tVar 10) (σ := [some (.ref p), some u, some (.ref L), some (.ref O), a4, some (.int (x : Int)), some (.ref D1), some (.ref D2), some (.str h), some b2, some (.int (y : Int)), some (.int (z0 : Int)), some (.ref sl), none, none, none]) en18' Op hp0 (ev_var rfl) (ev_var rfl) xy.2
                        exact ⟨a3, ys3, ev_if (et_test (ev_neI (ev_var rfl) hsl)) (fun hb => absurd hsy (of_decide_eq_true hb)) (fun _ => hg3), ha3, yl3, yb3, ap3⟩
                      · exact ⟨sl, sy, ev_if (et_test (ev_neI (ev_var rfl) hsl)) (fun _ => ev_var rfl) (fun hb => absurd hsy (by simpa using hb)), hsl, syl, syb, slp⟩
                    have hget := valV_rows (fun r : Str × Addr × List (Addr × Nat × Nat) => r.1) (fun r => r.2.1) hm18.nd (List.mem_append.mpr (.inr (List.mem_singleton.mpr rfl)) : (h, l, ts) ∈ rows ++ [(h, l, ts)])
                    unfold tDrop tBM
                    refine ev_dget (td := tVar 6) (tx := tVar 8) (ev_var rfl) (ev_var rfl) hm18.d hget H18 (Ex.refl _) _ fun H19 e19 => ⟨.inl ⟨rfl, _, sq_of (e19 _ _ (hm18.ls (h, l, ts) (by simp)).1)⟩, ?_⟩
                    unfold tCons tNil
                    refine lc_feed (K := K) (l := ys3) (enc := fun (i : Nat) => PyData.int (i : Int)) (S := ExN (· = p)) (G := PairG K N) (fun _ _ _ e h => h.kt e) ?_ (fun _ _ e => e) (by omega) (f18.ex e19) (fun a ha x4 H4 Q4 en4 tx k4 => ?_) fun b3 xs H20 nb en20 f20 hb hlen3 hg3 => ?_
                    · exact src_ilN (N := (· = p)) fun H1 e1 Q q => hg3 H1 (e19.trans e1) _ fun H2 e2 => q a3 H2 e2 ((e19.trans (e1.trans e2)) _ _ ha3) ap3
                    · obtain rfl := tx.intI
                      refine k4 _ rfl (fun c' H5 hc' en5 f5 Qt qt => qt true H5 (ExN.refl _) (f5.mono (by omega))) fun H5 en5 Qe qe => ?_
                      exact ⟨_, rfl, _, rfl, sz_of (by simp), fun t nt => qe _ _ (Ex.new nt) ⟨(t, z0, a), rfl, st_of upd_same, z0N, yb3 a ha⟩⟩
                    · obtain ⟨ts2, rfl, hts2⟩ := pairs_of hg3
                      rw [List.length_map] at hlen3
                      have hm20 : HandsAt K H20 D1 N (rows ++ [(h, l, ts)]) := (hm18.ex e19).exN ((f18.ex e19).kt en20) en20 D1p rp
                      have hl20 := (hm20.ls (h, l, ts) (by simp)).1
                      have lp : l ≠ p := (hp8 nl8).1
                      have en20' := en18'.trans ((ExN.ex e19).trans en20)
                      have d20 := en20 _ _ (e19 _ _ (en18 _ _ (e17 _ _ hd16) D2p)) D2p
                      refine ⟨l, b3, _, _, rfl, rfl, hl20, hb, sz_of (by simp; omega), ?_⟩
                      rw [← List.map_append]
                      refine ⟨⟨_, _, rfl⟩, ?_, ?_, en20'.updN nl8, (f20.upd lp (hp8 nl8).2).mono (by simp [nats] at hlen; omega), by rw [upd_ne lD2.symm]; exact d20, ts ++ ts2, hm20.ext lr (by simp; omega) hts2, by simp; omega⟩
                      · have wk : ∀ {A B : Hp}, ExN (· = p) A B → ExN (fun b => b = p ∨ b = l) A B := fun e b o hb hn => e b o hb fun z => hn (.inl z)
                        exact exl.trans ((ExN.ex e17).trans ((wk en18).trans ((ExN.ex e19).trans ((wk en20).trans (ExN.upd (.inr rfl))))))
                      · exact kt16.trans ((Kt.ex e17).trans ((f17.kt en18).trans ((Kt.ex e19).trans (((f18.ex e19).kt en20).trans (Kt.upd hl20 rfl)))))
              · rintro H15 σ' H16 e15 ⟨⟨a11, a12, rfl⟩, exl, kt16, en16, f16, hd16, ts, hm16, tl16⟩
                rw [List.length_map] at f16 tl16
                exact ⟨⟨_, _, _, _, rfl⟩, kt16, en16, f16.mono (by omega), hd16, ts, hm16, by omega⟩
          · rintro H12 σ' H13 e12 ⟨⟨a5, a10, a11, a12, rfl⟩, kt13, en13, f13, hd13, ts, hm13, tl13⟩
            rw [List.length_map] at f13 tl13
            refine ⟨⟨_, _, _, _, _, _, _, rfl⟩, kt.trans ((Kt.ex e11).trans (ktP.trans ((Kt.ex e12).trans kt13))), en13, f13.mono (by omega), hd13, _, hm13, ?_, fun r hr => ?_⟩
            · rw [List.map_append, hk, List.take_add_one, List.getElem?_map, hsi]
              rfl
            · rcases List.mem_append.mp hr with hr | hr
              · exact hz8 r hr
              · rw [List.mem_singleton.mp hr]
                exact nl8
      · rintro H9 σ' H10 e9 ⟨⟨a4, a5, a8, a9, a10, a11, a12, rfl⟩, kt, en8, f10, hd2, rows, hm, hk, hz8⟩
        rw [List.length_map] at f10
        have f10 := f10.mono (c' := c + 400) (by omega)
        have tu10 := (tw.ex (eB.trans e9)).mono kt
        have ml3 : W.marks.length ≤ 3 := ok.ml
        have rD2 : ∀ r ∈ rows, r.2.1 ≠ D2 := fun r hr z => by
          have := (hm.ls r hr).1
          rw [z, hd2] at this
          cases this
        refine q_for (K := K) (ds := W.marks.map dMark) (S := Kt) ?_
          (fun H1 i σ H' => (∃ a5 a13 a14, σ = [some (.ref p), some u, some (.ref L), some (.ref O), a4, a5, some (.ref D1), some (.ref D2), a8, a9, a10, a11, a12, a13, a14, none]) ∧ Kt H1 H' ∧ ExN (· = D2) H10 H' ∧ ExN (· = p) H8 H' ∧ ∃ ms, MarksAt H' D2 N ms ∧ ms.map (·.1) = (W.marks.map (·.1)).take i)
          (fun H11 e11 => ⟨⟨a5, none, none, rfl⟩, Kt.refl _, ExN.ex e11, en8.trans (ExN.ex e11), [], ⟨e11 _ _ hd2, by simp, by simp, by simp⟩, rfl⟩) (fun H1 i σ H' q => q.2.1) ?_ ?_
        · exact src_tup (ed_ix (i := 2) (ed_var (v := u) rfl tu10) ev_c rfl)
        · rintro H11 i d x σ' H12 H13 e11 hd ⟨⟨a5, a13, a14, rfl⟩, kt12, enD, en12, ms, hm12, hk12⟩ e13 tx
          rw [List.getElem?_map] at hd
          cases hsi : W.marks[i]? with
          | none => rw [hsi] at hd; cases hd
          | some st =>
            obtain ⟨h, ys⟩ := st
            rw [hsi] at hd
            cases hd
            have il : i < W.marks.length := (List.getElem?_eq_some_iff.mp hsi).1
            have hst := List.mem_of_getElem? hsi
            have ysl : ys.length ≤ 2 := Nat.le_trans (ok.ys (h, ys) hst) w2
            have hnm : h ∈ (["a", "b", "zz"] : List Str) := ok.mrk h (List.mem_map.mpr ⟨_, hst, rfl⟩)
            have zm : h ∉ ms.map (·.1) := by
              rw [hk12]
              intro hm'
              obtain ⟨j, hj, e⟩ := List.getElem_of_mem hm'
              rw [List.length_take] at hj
              rw [List.getElem_take] at e
              have e2 : (W.marks.map (·.1))[i]'(by simpa using il) = h := by
                have := (List.getElem?_eq_some_iff.mp hsi).2
                simp [this]
              have := (List.pairwise_iff_getElem.mp ok.wf.ndm) j i (by omega) (by simpa using il) (by omega)
              exact this (by rw [e, e2])
            refine tg_pair tx fun b1 b2 tb1 tb2 => ?_
            obtain rfl := tb1.strI
            refine q_dput0 (fun l nl => ?_)
            have hm13 := hm12.ex e13
            have en13 := en12.trans (ExN.ex e13)
            have nl8 : H8 l = none := en13.back nl (fun z => by
              obtain ⟨_, _, _, hp, _⟩ := f10
              have := e13 _ _ (enD _ _ hp D2p.symm)
              rw [← show l = p from z, nl] at this
              cases this)
            have nl10 : H10 l = none := (enD.trans (ExN.ex e13)).back nl (fun z => by
              have := hm13.d
              rw [← show l = D2 from z, nl] at this
              cases this)
            have lr : ∀ r ∈ ms, r.2.1 ≠ l := fun r hr z => by
              have := (hm13.ls r hr).1
              rw [z, nl] at this
              cases this
            have hmL := hm13.ex (Ex.new (o := .lst []) nl)
            refine ⟨D2, .str h, _, rfl, rfl, DPut.k (k := Sum.inr h) hmL.d (sz_lt (by
              have := congrArg List.length hk12
              rw [List.length_map, List.length_take] at this
              rw [List.length_map]
              omega)), ?_⟩
            have hmP := hmL.put (z := h) (l := l) (ys := []) upd_same (by simp) (by simp) zm hnm
            have enP := (en13.trans (ExN.ex (Ex.new (o := .lst []) nl))).updN (o := .dK (putK (ms.map fun r => ((Sum.inr r.1 : Key), V.ref r.2.1)) (Sum.inr h) (.ref l))) n2'
            have enDP : ExN (· = D2) H10 (upd (upd H13 l (.lst [])) D2 (.dK (putK (ms.map fun r => ((Sum.inr r.1 : Key), V.ref r.2.1)) (Sum.inr h) (.ref l)))) := (enD.trans (ExN.ex (e13.trans (Ex.new nl)))).trans (ExN.upd rfl)
            have ktP : Kt H13 (upd (upd H13 l (.lst [])) D2 (.dK (putK (ms.map fun r => ((Sum.inr r.1 : Key), V.ref r.2.1)) (Sum.inr h) (.ref l)))) := (Kt.new nl).trans (Kt.upd hmL.d rfl)
            generalize upd (upd H13 l (.lst [])) D2 (.dK (putK (ms.map fun r => ((Sum.inr r.1 : Key), V.ref r.2.1)) (Sum.inr h) (.ref l))) = HP at hmP enP enDP ktP ⊢
            refine s_for (K := K) (ds := (nats ys).map PyData.int) (S := Kt) ?_
              (fun H1 j σ H' => (∃ a5, σ = [some (.ref p), some u, some (.ref L), some (.ref O), a4, a5, some (.ref D1), some (.ref D2), a8, a9, a10, a11, a12, some (.str h), some b2, none]) ∧ Kt H1 H' ∧ ExN (· = D2) H10 H' ∧ ExN (· = p) H8 H' ∧ ∃ ts, MarksAt H' D2 N (ms ++ [(h, l, ts)]) ∧ ts.length ≤ j * 3)
              (fun H14 e14 => ⟨⟨a5, rfl⟩, Kt.refl _, enDP.trans (ExN.ex e14), enP.trans (ExN.ex e14), [], hmP.ex e14, by simp⟩) (fun H1 i σ H' q => q.2.1) ?_ ?_
            · exact src_tup (ed_var rfl (tb2.mono ktP))
            · rintro H14 j d x2 σ' H15 H16 e14 hd ⟨⟨a5, rfl⟩, kt15, enD15, en15, ts, hm15, tl15⟩ e16 tx2
              unfold nats at hd
              rw [List.map_map, List.getElem?_map] at hd
              cases hyj : ys[j]? with
              | none => rw [hyj] at hd; cases hd
              | some y =>
                rw [hyj] at hd
                cases hd
                obtain rfl := tx2.intI
                have jl : j < ys.length := (List.getElem?_eq_some_iff.mp hyj).1
                have yl : y < W.many := ok.wf.inM _ hst y (List.mem_of_getElem? hyj)
                refine g_name ?_
                have hm16 := hm15.ex e16
                have en16 := en15.trans (ExN.ex e16)
                have hget := valV_rows (fun r : Str × Addr × List Nat => r.1) (fun r => r.2.1) hm16.nd (List.mem_append.mpr (.inr (List.mem_singleton.mpr rfl)) : (h, l, ts) ∈ ms ++ [(h, l, ts)])
                unfold tDrop tBM
                refine ev_dget (td := tVar 7) (tx := tVar 13) (ev_var rfl) (ev_var rfl) hm16.d hget H16 (Ex.refl _) _ fun H17 e17 => ⟨.inl ⟨rfl, _, sq_of (e17 _ _ (hm16.ls (h, l, ts) (by simp)).1)⟩, ?_⟩
                unfold tCons tNil
                have hm17 := hm16.ex e17
                have en17 := en16.trans (ExN.ex e17)
                obtain ⟨a1, ys1, hg1, ha1, yl1, yb1, ap1, al1⟩ := own.get8 (td := tVar 3) (tx := tVar 5) (σ := [some (.ref p), some u, some (.ref L), some (.ref O), a4, some (.int (y : Int)), some (.ref D1), some (.ref D2), a8, a9, a10, a11, a12, some (.str h), some b2, none]) en17 Op hp0 (ev_var rfl) (ev_var rfl) yl
                refine hg1 H17 (Ex.refl _) _ fun H18 e18 => ?_
                have hm18 := hm17.ex e18
                have hl18 := (hm18.ls (h, l, ts) (by simp)).1
                refine ⟨l, a1, _, _, rfl, rfl, hl18, e18 _ _ ha1, sz_of (by simp [nats]; omega), ?_⟩
                have ee : (nats ts).map V.int ++ (nats ys1).map V.int = (nats (ts ++ ys1)).map V.int := by simp [nats]
                rw [ee]
                exact ⟨⟨_, rfl⟩, kt15.trans ((Kt.ex (e16.trans (e17.trans e18))).trans (Kt.upd hl18 rfl)), (enD15.trans (ExN.ex (e16.trans (e17.trans e18)))).updN nl10, (en17.trans (ExN.ex e18)).updN nl8, ts ++ ys1, hm18.ext lr (by simp; omega) yb1, by simp; omega⟩
            · rintro H14 σ' H15 e14 ⟨⟨a5, rfl⟩, kt15, enD15, en15, ts, hm15, tl15⟩
              refine ⟨⟨_, _, _, rfl⟩, kt12.trans ((Kt.ex e13).trans (ktP.trans ((Kt.ex e14).trans kt15))), enD15, en15, _, hm15, ?_⟩
              rw [List.map_append, hk12, List.take_add_one, List.getElem?_map, hsi]
              rfl
        · rintro H11 σ' H12 e11 ⟨⟨a5, a13, a14, rfl⟩, kt12, enD, en12, ms, hm12, hk12⟩
          have tu12 := (tu10.ex e11).mono kt12
          have hL12 : H12 L = some (.lst ((nats cs).map V.int)) := en12 _ _ hL Lp
          have hm2 : HandsAt K H12 D1 N rows := hm.exN (p := D2) ((Kt.ex e11).trans kt12) enD D21.symm rD2
          have f12 : FeedAt p q ns (c + 400) H12 := by
            obtain ⟨k, i, cur, g1, g2, g3, g4⟩ := f10
            exact ⟨k, i, cur, enD _ _ g1 D2p.symm, g2, enD _ _ g3 D2q.symm, g4⟩
          have eN : (W.many : Int) + ((((nats cs).map V.int).length : Nat) : Int) = (N : Int) := by simp [nats]; omega
          refine ev_op (x := .int (W.many : Int)) (y := .int ((((nats cs).map V.int).length : Nat) : Int)) (ev_many0 (ed_var (v := u) rfl tu12)) (fun H1 e1 Q1 q1 => ⟨_, rfl, L, _, rfl, .inl (sq_of (e1 _ _ hL12)), q1 H1 (Ex.refl _)⟩) rv_I0 H12 (Ex.refl _) _ fun H13 e13 => ?_
          dsimp only
          rw [eN]
          refine ⟨_, rfl, _, rfl, N, D1, D2, rows, ms, rfl, by omega, hm2.ex e13, hm12.ex e13, fun v H14 V e14 tv okV vn => ?_⟩
          exact kk v H14 V (en.trans (en12.trans (ExN.ex (e13.trans e14)))) ((f12.ex (e13.trans e14)).mono (by omega)) tv (by rw [vn]; exact okV) (by omega) (by omega)
end
end K33
set_option autoImplicit false
set_option Elab.async false
set_option linter.all false
set_option maxRecDepth 100000
set_option maxHeartbeats 4000000
/-! Own exceptions over LookupError, own bases ahead of it: made by an own __init__ that calls the base's by the base's name. -/
namespace K33
open PySem PySem.Spec PyProof.Rows L2 Evl
abbrev leTail : List Value := [.type "LookupError", .type "Exception", .type "BaseException", .type "object"]
/-- what is asked of the class at C -/
structure LackC (K : PySem.W.Frag) (C : Addr) : Prop where
  made : PySem.W.excInitIn K C leTail "LookupError.__new__" = true
  over : PySem.W.excOver K C leTail = true
  hasD : PySem.W.hasDictIn K C = true
  sa : PySem.W.findIn K (.ref C) "__setattr__" = some (some (.builtin "object.__setattr__"))
  exC : PySem.W.subIn K (.ref C) (.type "BaseException") = some true
  tyC : PySem.W.typeIn K (.ref C) = some (.type "type")
  kC : PySem.W.keepIn K (.ref C) = true
section
variable {X : Cx} {pins : List (Addr × Obj)} {σ : L2.St} {H : Hp} {s : Shared} {a C : Addr} {f : PySem.Str} {y : V} {u : Value} {E : Value → Shared → Prop} {A : Around}
/-- the exception's first own field: its dict comes to be -/
theorem lack_set {Q : Unit → Shared → Prop} (T : LackC X.K C) (ht : PySem.W.takerIn X.K C f = some none) (I : Inv X pins σ H s) (e : H a = some (exo a C none)) (ry : RelV y u)
    (h : ∀ dx s', H dx = none → dx ≠ a → Inv X pins σ (upd (upd H dx (exd dx [(f, y)])) a (exo a C (some dx))) s' → Q () s') : wpAny (model X.prog X.w) A (setAttr (.ref a) f u) Q E s := by
  obtain ⟨tb, told⟩ := exo_at I.hok e
  obtain ⟨cd, look, dct⟩ := PySem.W.any_some T.hasD
  have kin := I.kIn
  refine PySem.W.set_plain (od := none) kin ⟨told, rfl, rfl, trivial⟩ T.sa ?_
  refine PySem.W.osa_openX (od := none) (s := { s with toks := s.toks + 1 }) PySem.F.store_LookupError kin ⟨told, rfl, rfl, trivial⟩ T.over ht fun b => ?_
  refine wpAny_bind (wpAny_pure (wpAny_bind (PySem.W.instanceDict_exc told (PySem.W.looks_clsIn kin look) dct ?_)))
  obtain ⟨h0, g, dr, tk, os⟩ := s
  dsimp only at told kin ⊢
  have far : h0.objs.size ≠ a := Nat.ne_of_gt (Heap.lt_size told)
  refine PySem.HandSPX.store_in_new ⟨_, #[], _, (Heap.get?_update_ne _ _ _ _ far).trans (Heap.get?_push_at rfl rfl), rfl, fun q hq => absurd hq (by simp), fun _ => rfl⟩ fun h1 tk1 dict same => ?_
  have nowA := (same.2 a far.symm).trans (Heap.get?_update_self (fun o => { o with dict := some h0.objs.size }) (Heap.get?_push_of_some _ told) rfl)
  -- the heap as it were, had the exception itself stayed
  have back : ∃ G : Heap, G.get? a = h0.get? a ∧ ∀ c, c ≠ a → G.get? c = h1.get? c :=
    ⟨h1.update a fun _ => { cls := .ref C, dict := none, data := .fields #[.ref tb, .none, .none, .none, .bool false, .none] }, (Heap.get?_update_self _ nowA rfl).trans told.symm, fun c hc => Heap.get?_update_ne _ _ _ _ hc⟩
  obtain ⟨G, atA, off⟩ := back
  have fresh : H h0.objs.size = none := I.hok.fresh (Nat.le_refl _)
  have stay : ∀ c o, h0.get? c = some o → G.get? c = some o := fun c o q => by
    by_cases hc : c = a
    · rw [hc, atA, ← hc]
      exact q
    · rw [off c hc, same.2 c (Nat.ne_of_lt (Heap.lt_size q)), Heap.get?_update_ne _ _ _ _ hc]
      exact Heap.get?_push_of_some _ q
  have J := I.laid (t' := tk1) stay (Nat.le_refl h0.objs.size) (exd_ok (fs := [(f, y)]) (dict.at fun o q => (off _ far).trans q) (relO_put (fs := []) ry fun _ => True.intro))
  have J2 := J.write (t' := tk1) (x := a) (e := a) (h' := h1) (o := exo a C (some h0.objs.size)) (by rw [upd_ne far.symm, e]; exact True.intro) (.inl rfl) (fun c o hc q => (off c hc).symm.trans q) ⟨_, nowA⟩ (exo_ok nowA)
  exact h _ _ fresh far J2
/-- the base's __init__: nothing that is told changes -/
theorem lack_init {us : List Value} {Q : Value → Shared → Prop} (T : LackC X.K C) (I : Inv X pins σ H s) (e : H a = some (exo a C none)) (few : us.length ≤ sizeLine) (h : ∀ s', Inv X pins σ H s' → Q .none s') :
    wpAny (model X.prog X.w) A (call (.builtin "LookupError.__init__") (.ref a :: us)) Q E s := by
  obtain ⟨tb, told⟩ := exo_at I.hok e
  obtain ⟨_, _, _, _, bm, _, _, _, _, _, _, _, _, _, _, _, stands, over⟩ := PySem.W.excInit_of I.kIn T.made
  have upd_id : upd H a (exo a C none) = H := funext fun c => by
    by_cases hc : c = a
    · rw [hc, upd_same, e]
    · rw [upd_ne hc]
  cases s with
  | mk h0 g dr tk os => exact wpAny_call (PySem.HandSPX.init_base F.excBase_LookupError over stands told few fun h1 tb1 keep nowA => h _ (upd_id ▸ I.write (t' := tk) (x := a) (e := a) (o := exo a C none) (by rw [e]; exact True.intro) (.inl rfl) keep ⟨_, nowA⟩ (exo_ok nowA)))
end
/-- B.__init__(self, ..) -/
def tLackI (K : PySem.W.Frag) (ta : TA) : TE := fun σ H Q => ta σ H fun vs H1 => ∃ (a C : Addr) (ws : List V), vs = .ref a :: ws ∧ ws.length ≤ 1000 ∧ LackC K C ∧ H1 a = some (exo a C none) ∧ Q .non H1
/-- self.f = e, the first one -/
def tLackS (K : PySem.W.Frag) (f : Str) (to te : TE) : TS := fun D σ H => te σ H fun y H1 => to σ H1 fun x H2 => ∃ a C : Addr, x = .ref a ∧ LackC K C ∧ PySem.W.takerIn K C f = some none ∧ H2 a = some (exo a C none) ∧
  ∀ dx, H2 dx = none → dx ≠ a → D.nx σ (upd (upd H2 dx (exd dx [(f, y)])) a (exo a C (some dx)))
section
variable {X : Cx} {o e : Expr} {es : List Expr} {to te : TE} {ta : TA} {f x : Str} {p p' p1 p2 pos : Pos}
theorem pe_lackI {B : Addr} {pl : Sem Bool} (hg : Gl X x) (hm : X.mg x = some (.ref B)) (r : ClX.CRead X.K B (.type "type")) (hi : PySem.W.findCls X.K (.ref B) (.type "type") "__init__" = some (.val (.builtin "LookupError.__init__"))) (ha : PA X (e :: es) ta)
    (hdb : (x == ("__debug__" : Str)) = false := by decide)
    (hc : eval (.Call (.Attribute (.Name x p1) "__init__" p2) (e :: es) [] pos) X.env = (do
      let ov ← eval (.Name x p1) X.env
      standAt p2.atName
      let (f, first) ← holding [ov] (getMethod ov "__init__" pl)
      callWith pos f first (backTo pos (starEach (e :: es) X.env)) (backToKw pos (keywordEach [] X.env))) := by rfl)
    (he : starEach (e :: es) X.env = (false, eval e X.env) :: starEach es X.env := by rfl) (hpl : (backTo pos (starEach es X.env)).any (·.1) = false := by rfl) :
    PE X (.Call (.Attribute (.Name x p1) "__init__" p2) (e :: es) [] pos) (tLackI X.K ta) := ⟨fun pins s σ H Q I h => by
  refine PySem.W.methodCall_KW (ld_glob I hg hm ?_ hdb) hc
  refine PySem.W.method_cls I.kIn r.ga (PySem.W.cls_value I.kIn r.rd hi (by decide +kernel) ?_)
  show wpAny _ _ (callWith pos (Value.builtin "LookupError.__init__") [] (backTo pos (starEach (e :: es) X.env)) []) _ _ _
  refine PyProof.Rows.callWith_method1 (thn (ha.run pos pins _ σ H _ (I.tok _) h) fun us s1 got => ?_) he hpl
  obtain ⟨vs, H1, I1, rs, a, C, ws, rfl, few, T, at_, q⟩ := got
  obtain ⟨u0, ur, rfl, r0, rr⟩ : ∃ u0 ur, us = u0 :: ur ∧ RelV (.ref a) u0 ∧ Vals ws ur := by
    cases rs with
    | cons r0 rr => exact ⟨_, _, rfl, r0, rr⟩
  obtain rfl : u0 = Value.ref a := r0
  refine lack_init T I1 at_ (Nat.le_trans (Nat.le_of_eq (Paired.length rr).symm) (Nat.le_trans few (by rw [sizeLine_eq]; omega))) fun s2 I2 => ⟨.non, H1, I2, rfl, q⟩⟩
theorem ps_lackS (ho : PE X o to) (he : PE X e te) (hs : swapsWith e (some (.Attribute o f p')) pos.line X.env = pure false := by rfl) : PS X (.Assign [.Attribute o f p'] e pos) (tLackS X.K f to te) := ⟨fun pins s σ H D I h =>
  plainObj_wpAny_Assign_Attribute (thn (he.run pins s σ H _ I h) fun v s1 ⟨y, H1, I1, ry, q1⟩ => thn (ho.run pins s1 σ H1 _ I1 q1) fun u s2 ⟨x, H2, I2, rx, a, C, ex, T, no, at_, q⟩ => by
    subst ex
    obtain rfl : u = Value.ref a := rx
    exact lack_set T no I2 at_ ry fun dx s3 nd ne I3 => ⟨σ, _, I3, q dx nd ne⟩) hs⟩
/-- the new exception and its tuple of arguments, laid -/
theorem lack_laid {pins : List (Addr × Obj)} {σ : L2.St} {H : Hp} {s : Shared} {C : Addr} (I : Inv X pins σ H s) (us : List Value) :
    Inv X pins σ (upd H (s.heap.objs.size + 1) (exo (s.heap.objs.size + 1) C none)) { s with heap := (s.heap.push (PySem.W.kdv_tup us)).push (PySem.HandSPX.excO C s.heap.objs.size) } := by
  have there : ((s.heap.push (PySem.W.kdv_tup us)).push (PySem.HandSPX.excO C s.heap.objs.size)).get? (s.heap.objs.size + 1) = some (PySem.HandSPX.excO C s.heap.objs.size) := by heap_get
  exact I.laid (t' := s.toks) (fun c o q => Heap.get?_push_of_some _ (Heap.get?_push_of_some _ q)) (Nat.le_succ _) (exo_ok there)
theorem pmk_lack {CX : CXT} {C fI : Addr} {k : Nat} {fd : FuncData} {ps : List Str} {sp : Sp} (T : LackC X.K C) (iC : PySem.W.findIn X.K (.ref C) "__init__" = some (some (.ref fI))) (tI : PySem.W.typeIn X.K (.ref fI) = some (.type "function"))
    (G : FnOk X.prog X.w X.K X.mg X.base CX k fI fd ps sp) (hr : Room (k + 1) X.A) (hb : Binds X.K fd ps []) (hx : Passes CX X (fun _ _ _ => False)) (hg : Gl X x) (hm : X.mg x = some (.ref C)) (ha : PA X (e :: es) ta)
    (hdb : (x == ("__debug__" : Str)) = false := by decide) (he : starEach (e :: es) X.env = (false, eval e X.env) :: starEach es X.env := by rfl) (hpl : (backTo pos (starEach es X.env)).any (·.1) = false := by rfl) :
    PMk X (.Call (.Name x p) (e :: es) [] pos) (tMkO C sp [] ta) := fun pins s σ H Q I h => by
  refine wpAny_Call_Name_kw (ld_glob I hg hm (PySem.W.callWith_K (h₀ := X.base) I.ok.mod.kin T.kC (thn (ha.run pos pins s σ H _ I h) fun us s1 got => ?_) he hpl) hdb)
  obtain ⟨vs, H1, I1, rs, few, want⟩ := got
  refine ⟨I1.kIn, ?_⟩
  obtain ⟨_, _, _, _, bm, _, _, _, _, _, _, _, _, _, _, _, stands, over⟩ := PySem.W.excInit_of I1.kIn T.made
  have J := lack_laid (C := C) I1 us
  have ask := want (s1.heap.objs.size + 1) (I1.hok.fresh (Nat.le_succ _))
  rw [List.append_nil] at ask
  have rs' : Vals (V.ref (s1.heap.objs.size + 1) :: vs) (Value.ref (s1.heap.objs.size + 1) :: us) := .cons rfl rs
  have many : us.length ≤ sizeLine := by
    have := Paired.length rs
    rw [sizeLine_eq]
    omega
  have arity : (Value.ref (s1.heap.objs.size + 1) :: us).length = ps.length := rs'.length.symm.trans (G.len _ _ _ _ ask)
  have bound := hb { s1 with heap := (s1.heap.push (PySem.W.kdv_tup us)).push (PySem.HandSPX.excO C s1.heap.objs.size) } (Value.ref (s1.heap.objs.size + 1) :: us) J.kIn (by rw [List.append_nil]; exact arity)
  rw [List.append_nil] at bound
  obtain ⟨h0, gn, dr, tk, os⟩ := s1
  have ran := G.run _ X.stack _ _ ⟨Value.ref (h0.objs.size + 1) :: us, []⟩ (Value.ref (h0.objs.size + 1) :: us) _ _ (fun _ _ _ => False) (hr.make C us []) (J.env0.make C us []) bound rs' ask
  refine wpAny_call (PySem.HandSPX.call_own F.excBase_LookupError over stands (PySem.W.looks_findIn I1.kIn iC) (fun self => PySem.W.bind_fn I1.kIn self tI) many (codeAny_mono ran fun r s2 out => ?_))
  rcases r with er | (_ | _ | _ | u)
  · exact hx pins σ _ _ er s2 J out
  · exact False.elim out
  · exact False.elim out
  · exact False.elim out
  · obtain ⟨v, H2, os2, bare2, un2, ok2, rv, ev, d, fs, at_, dict, new, q2⟩ := out
    subst ev
    obtain ⟨h2, g2, d2, t2, os'⟩ := s2
    exact ⟨rv, mk_end (raises_own T.exC T.tyC) I1 (Nat.le_succ _) (fun c o q => Heap.get?_push_of_some _ (Heap.get?_push_of_some _ q)) un2 ok2 os2 bare2 at_ dict new q2⟩
end
end K33
set_option autoImplicit false
set_option Elab.async false
set_option linter.all false
set_option maxRecDepth 100000
set_option maxHeartbeats 4000000
/-! Numbers of no worlds: NoWorld, raised through need_world, need_both, pair_paper, parting_saying. -/
namespace K33
open PySem PySem.Spec PyProof.Rows L2 Evl
/-- what is asked of NoWorld at C and of its base LackError at B -/
structure NoW (K : PySem.W.Frag) (mg : Str → Option Value) (C B : Addr) : Prop where
  T : LackC K C
  tk : PySem.W.takerIn K C "world" = some none
  rdB : ClX.CRead K B (.type "type")
  atB : PySem.W.findCls K (.ref B) (.type "type") "__init__" = some (.val (.builtin "LookupError.__init__"))
  mgB : mg "LackError" = some (.ref B)
  mgC : mg "NoWorld" = some (.ref C)
/-- C(e, ..) raised: the class of the module's name x, its own __init__ keeping sp -/
def HasX (P : Program) (w : World) (K : PySem.W.Frag) (mg : Str → Option Value) (base : Heap) (k : Nat) (C : Addr) (ps : List Str) (sp : Sp) : Prop :=
  ∃ f fd, FnOk P w K mg base CX0 k f fd ps sp ∧ PySem.W.findIn K (.ref C) "__init__" = some (some (.ref f)) ∧ PySem.W.typeIn K (.ref f) = some (.type "function") ∧ Binds K fd ps []
def InitX (K : PySem.W.Frag) (C : Addr) (qual : Str) (st : Stmt) (ps : List Str) : Prop := ∃ f fd, Fun K "__init__" qual st f fd ∧ PySem.W.findIn K (.ref C) "__init__" = some (some (.ref f)) ∧ PySem.W.typeIn K (.ref f) = some (.type "function") ∧ Binds K fd ps []
theorem InitX.ok {P : Program} {w : World} {K : PySem.W.Frag} {mg : Str → Option Value} {base : Heap} {C : Addr} {qual : Str} {st : Stmt} {N ps : List Str} {k : Nat} {sp : Sp} (D : InitX K C qual st ps) (S : FnScope N ps (defScope st)) (len : ∀ vs H Q E, sp vs H Q E → vs.length = ps.length)
    (hbody : ∀ (f : Addr) (cdv : Value) (A : Around) (outer : List Env) (s : Shared) (H : Hp) (vs : List V) (Q : VK) (E : XK), Room k (A.deeper (envOfC qual (defScope st) s.heap.objs.size f cdv)) → sp vs H Q E →
      ∃ t, PSs (cxOf CX0 P w K mg base N qual (defScope st) f cdv A outer s H E).nox (defBody st) t ∧ t { nx := fun _ H' => Q .non H', rt := Q } (start N vs) H) : HasX P w K mg base (k + 1) C ps sp := by
  obtain ⟨f, fd, F, e1, e2, hb⟩ := D
  exact ⟨f, fd, F.ok S len fun cdv A outer s H vs Q E hr h => hbody f cdv A outer s H vs Q E hr h, e1, e2, hb⟩
theorem pmk_hasX {X : Cx} {k : Nat} {ps : List Str} {sp : Sp} {x : Str} {C : Addr} {p pos : Pos} {e : Expr} {es : List Expr} {t : TA} (T : LackC X.K C) (h : HasX X.prog X.w X.K X.mg X.base k C ps sp) (hr : Room (k + 1) X.A) (hg : Gl X x) (hm : X.mg x = some (.ref C))
    (ha : PA X (e :: es) t) (hdb : (x == ("__debug__" : Str)) = false := by decide) (he : starEach (e :: es) X.env = (false, eval e X.env) :: starEach es X.env := by rfl) (hpl : (backTo pos (starEach es X.env)).any (·.1) = false := by rfl) :
    PMk X (.Call (.Name x p) (e :: es) [] pos) (tMkO C sp [] t) := by
  obtain ⟨f, fd, F, e1, e2, hb⟩ := h
  exact pmk_lack T e1 e2 F hr hb pass0 hg hm ha hdb he hpl
/-- what E is told of a number of no world -/
def OutW (C : Addr) (H : Hp) (E : XK) (i : Int) : Prop := ∀ d H', Ex H H' → H' d = some (.xd [("world", .int i)]) → E (.ref C) (some d) H'
theorem OutW.ex {C : Addr} {H H' : Hp} {E : XK} {i : Int} (e : Ex H H') (o : OutW C H E i) : OutW C H' E i := fun d H2 e2 h => o d H2 (e.trans e2) h
/-- x in the one, y in the other: which of them is told -/
def BadW (W V : Web Str) (x y due : Int) : Prop := (¬ (0 ≤ x ∧ x < (W.many : Int)) ∧ due = x) ∨ ((0 ≤ x ∧ x < (W.many : Int)) ∧ ¬ (0 ≤ y ∧ y < (V.many : Int)) ∧ due = y)
section
variable {P : Program} {w : World} {K : PySem.W.Frag} {mg : Str → Option Value} {base : Heap} {C B : Addr}
abbrev sp_now (C : Addr) : Sp := fun vs H Q _ => ∃ (a : Addr) (i : Int), vs = [.ref a, .int i] ∧ H a = some (exo a C none) ∧ ∀ dx, H dx = none → dx ≠ a → Q .non (upd (upd H dx (exd dx [("world", .int i)])) a (exo a C (some dx)))
theorem has_now (D : InitX K C "NoWorld.__init__" st_NoWorld___init__ ["self", "world"]) (N : NoW K mg C B) : HasX P w K mg base 1 C ["self", "world"] (sp_now C) := by
  refine D.ok sc_NoWorld___init__ (fun vs H Q E h => ?_) (fun f cdv A outer s H vs Q E hr h => ?_)
  · obtain ⟨a, i, rfl, _⟩ := h
    rfl
  · obtain ⟨a, i, rfl, at_, k⟩ := h
    refine ⟨_, pss_cons (ps_expr (pe_lackI (by rfl) N.mgB N.rdB N.atB (pa_cons (pv 0) (pa_cons pe_str pa_nil)))) (pss_one (ps_lackS (pv 0) (pv 1))), ?_⟩
    exact ⟨_, rfl, a, C, _, rfl, by simp, N.T, at_, _, rfl, _, rfl, a, C, rfl, N.T, N.tk, at_, fun dx nd ne => k dx nd ne⟩
abbrev sp_needX (K : PySem.W.Frag) (C : Addr) : Sp := fun vs H _ E => ∃ (W : Web Str) (v : V) (x : Int), vs = [v, .int x] ∧ TD K H v (dWeb W) ∧ ¬ (0 ≤ x ∧ x < (W.many : Int)) ∧ OutW C H E x
theorem has_needX (D : DefAt K mg "need_world" st_need_world ["web", "world"]) (N : NoW K mg C B) (G : HasX P w K mg base 1 C ["self", "world"] (sp_now C)) : Has P w K mg base (L2.CX P w) 3 "need_world" ["web", "world"] (sp_needX K C) := by
  refine D.okX sc_need_world (fun vs H Q E h => ?_) (fun f cdv A outer s H vs Q E hr h => ?_)
  · obtain ⟨W, v, x, rfl, _⟩ := h
    rfl
  · obtain ⟨W, v, x, rfl, tv, bad, out⟩ := h
    refine ⟨_, pss_one (ps_if (pt_not (pt_chain op_le op_lt pe_int (pv 1) (pe_ix (k_ixT K) (pv 0) pe_int (fun _ _ => rfl)))) (pss_one (ps_raise rfl (takes_of rfl rfl rfl rfl) (pmk_hasX N.T G hr (by rfl) N.mgC (pa_cons (pv 1) pa_nil)))) pss_nil), ?_⟩
    refine s_when (b := true) (et_is (et_not (et_test (ev_chain (a := decide (0 ≤ x)) (b := decide (x < (W.many : Int))) ev_c (ev_var rfl) (fun H1 e => rv_I0 (g := fun i j => V.bl (decide (i ≤ j)))) (fun _ => ev_int (ed_ix (i := 0) (ed_var rfl tv) ev_c rfl)) (fun _ H1 e => rv_I0 (g := fun i j => V.bl (decide (i < j))))))) (by
      by_cases h0 : 0 ≤ x
      · rw [decide_eq_true h0, decide_eq_false fun z => bad ⟨h0, z⟩]
        rfl
      · rw [decide_eq_false h0]
        rfl)) (fun _ H1 e1 => ?_) fun h => nomatch h
    refine ⟨_, rfl, by simp, fun a na => ⟨a, x, rfl, upd_same, fun dx nd ne => ⟨rfl, dx, _, upd_same, by rw [upd_ne ne]; exact upd_same, ?_, ?_⟩⟩⟩
    · rw [upd_ne ne] at nd
      exact nd
    · have nd1 : H1 dx = none := by
        rw [upd_ne ne] at nd
        exact nd
      refine out dx _ (e1.trans fun b o hb => ?_) upd_same
      have hba : b ≠ a := ne_of_none hb na
      have hbd : b ≠ dx := ne_of_none hb nd1
      rw [upd_ne hbd, del_ne hba, upd_ne hba, upd_ne hbd, upd_ne hba]
      exact hb
abbrev sp_refX (K : PySem.W.Frag) (C : Addr) : Sp := fun vs H _ E => ∃ (W V : Web Str) (v u : L2.V) (x y due : Int), vs = [v, .int x, u, .int y] ∧ TD K H v (dWeb W) ∧ TD K H u (dWeb V) ∧ BadW W V x y due ∧ OutW C H E due
theorem has_needBX (D : DefAt K mg "need_both" st_need_both ["web", "world", "other", "second"]) (GN : Has P w K mg base CX0 1 "need_world" ["web", "world"] (sp_need K)) (GX : Has P w K mg base (L2.CX P w) 3 "need_world" ["web", "world"] (sp_needX K C)) : Has P w K mg base (L2.CX P w) 4 "need_both" ["web", "world", "other", "second"] (sp_refX K C) := by
  refine D.okX sc_need_both (fun vs H Q E h => ?_) (fun f cdv A outer s H vs Q E hr h => ?_)
  · obtain ⟨W, V, v, u, x, y, due, rfl, _⟩ := h
    rfl
  · obtain ⟨W, V, v, u, x, y, due, rfl, tv, tu, bad, out⟩ := h
    rcases bad with ⟨bx, rfl⟩ | ⟨ox, bY, rfl⟩
    · refine ⟨_, pss_cons (ps_expr (pe_has GX hr (by rfl) (passes_call (takes_of rfl rfl rfl rfl) fun _ _ _ _ z => z) (pa_cons (pv 0) (pa_cons (pv 1) pa_nil)))) pss_never, ?_⟩
      exact ⟨_, rfl, _, rfl, W, v, due, rfl, tv, bx, out⟩
    · refine ⟨_, pss_cons (ps_expr (pe_has GN (hr.mono (by omega)) (by rfl) (E := E) pass0 (pa_cons (pv 0) (pa_cons (pv 1) pa_nil)))) (pss_one (ps_expr (pe_has GX hr (by rfl) (passes_call (takes_of rfl rfl rfl rfl) fun _ _ _ _ z => z) (pa_cons (pv 2) (pa_cons (pv 3) pa_nil))))), ?_⟩
      refine ⟨_, rfl, _, rfl, W, v, x.toNat, ?_, tv, by omega, fun H1 e1 => ⟨_, rfl, _, rfl, V, u, due, rfl, tu.ex e1, bY, out.ex e1⟩⟩
      show [v, L2.V.int x] = _
      rw [Int.toNat_of_nonneg ox.1]
theorem has_paperX (D : DefAt K mg "pair_paper" st_pair_paper ["web", "world", "other", "second"]) (GX : Has P w K mg base (L2.CX P w) 4 "need_both" ["web", "world", "other", "second"] (sp_refX K C)) : Has P w K mg base (L2.CX P w) 5 "pair_paper" ["web", "world", "other", "second"] (sp_refX K C) := by
  refine D.okX sc_pair_paper (fun vs H Q E h => ?_) (fun f cdv A outer s H vs Q E hr h => ?_)
  · obtain ⟨W, V, v, u, x, y, due, rfl, _⟩ := h
    rfl
  · obtain ⟨W, V, v, u, x, y, due, rfl, tv, tu, bad, out⟩ := h
    refine ⟨_, pss_cons (ps_expr (pe_has GX hr (by rfl) (passes_call (takes_of rfl rfl rfl rfl) fun _ _ _ _ z => z) (pa_cons (pv 0) (pa_cons (pv 1) (pa_cons (pv 2) (pa_cons (pv 3) pa_nil)))))) pss_never, ?_⟩
    exact ⟨_, rfl, _, rfl, _, rfl, _, rfl, W, V, v, u, x, y, due, rfl, tv, tu, bad, out⟩
theorem has_psayX (D : DefAt K mg "parting_saying" st_parting_saying ["web", "world", "other", "second"]) (GX : Has P w K mg base (L2.CX P w) 4 "need_both" ["web", "world", "other", "second"] (sp_refX K C)) : Has P w K mg base (L2.CX P w) 5 "parting_saying" ["web", "world", "other", "second"] (sp_refX K C) := by
  refine D.okX sc_parting_saying (fun vs H Q E h => ?_) (fun f cdv A outer s H vs Q E hr h => ?_)
  · obtain ⟨W, V, v, u, x, y, due, rfl, _⟩ := h
    rfl
  · obtain ⟨W, V, v, u, x, y, due, rfl, tv, tu, bad, out⟩ := h
    refine ⟨_, pss_cons (ps_expr (pe_has GX hr (by rfl) (passes_call (takes_of rfl rfl rfl rfl) fun _ _ _ _ z => z) (pa_cons (pv 0) (pa_cons (pv 1) (pa_cons (pv 2) (pa_cons (pv 3) pa_nil)))))) pss_never, ?_⟩
    exact ⟨_, rfl, _, rfl, _, rfl, _, rfl, W, V, v, u, x, y, due, rfl, tv, tu, bad, out⟩
end
end K33
set_option autoImplicit false
set_option Elab.async false
set_option linter.all false
set_option maxRecDepth 100000
set_option maxHeartbeats 4000000
/-! A caught exception with fields: isinstance of it; a clause with a tuple of two classes; how often a thing stands in a list; a list's text. -/
namespace K33
open PySem PySem.Spec PyProof.Rows L2 Evl
section
variable {X : Cx}
/-! ### how often k stands in a list of flat things -/
def rCntV (K : PySem.W.Frag) : V → List V → Hp → VK → Prop := fun x xs H Q => ∃ (p : Addr) (ys : List V) (k : V), x = .ref p ∧ xs = [k] ∧ SqL K H p ys ∧ flatV k = true ∧ ys.all flatV = true ∧ Q (.int (ys.countP fun y => eqV y k : Nat)) H
theorem count_eqU {k : V} : ∀ {ys : List V} {us : List Value}, Vals ys us → ys.all flatV = true → us.countP (eqU k) = ys.countP fun y => eqV y k := by
  intro ys us r
  induction r with
  | nil => intro _; rfl
  | @cons y u ys us h t ih =>
    intro f
    have f' := Bool.and_eq_true_iff.mp (List.all_cons ▸ f)
    simp only [List.countP_cons, eqU_of h f'.1, ih f'.2]
theorem mt_countV : MtR X "list.count" (rCntV X.K) := fun pins s σ H x xs v us Q I rx rxs ⟨p, ys, k, ex, es, hs, fk, fy, q⟩ => by
  subst ex
  subst es
  obtain rfl : v = Value.ref p := rx
  obtain ⟨u, rfl, ru⟩ := vals1 rxs
  obtain ⟨its, rv, ⟨o, n, at_, hc, dn, hd⟩, _⟩ := I.list hs
  obtain ⟨cls, dd, data, sl⟩ := o
  dsimp only at hc hd
  subst hc
  subst hd
  refine call_meets PySem.F.slot_list_count ⟨_, at_, rfl⟩ PySem.F.entry_list_count (PySem.F.args_list_count_2 _ _) (SeqAt.list_countAt p its.toArray n dd sl u (eqU k)) ⟨at_, fun y hy => mem_eqAt ru fk rv fy y (Array.mem_toList_iff.mpr hy), ?_⟩
  refine ⟨.int (ys.countP fun y => eqV y k : Nat), H, I.tok _, ⟨s.toks, ?_⟩, q⟩
  rw [← count_eqU rv fy]
/-! ### repr of a list of a text and a number -/
def rReprW (K : PySem.W.Frag) : List V → Hp → VK → Prop := fun xs H Q => ∃ (p : Addr) (z : Str) (i : Int), xs = [.ref p] ∧ SqL K H p [.str z, .int i] ∧ (PyData.list [.str z, .int i]).showable = true ∧ (PyData.list [.str z, .int i]).shown.length ≤ sizeLine ∧ Q (.str (PyData.list [.str z, .int i]).shown) H
theorem call_reprW (hg : X.A.guards = some []) (hu : X.A.units + 10 < cLine) : CallR X (.builtin "repr") (rReprW X.K) := fun pins s σ H xs us Q I r ⟨p, z, i, ex, hs, sh, few, q⟩ => by
  subst ex
  rw [Vals.ref1 r]
  obtain ⟨its, rv, ⟨o, n, at_, hc, dn, hd⟩, _⟩ := I.list hs
  have rd : ∃ as, Reads s.heap (.ref p) (PyData.list [.str z, .int i]) as := by
    cases rv with
    | cons r1 rv =>
      cases rv with
      | cons r2 rv =>
        cases rv
        obtain ⟨t1, rfl⟩ := r1
        obtain ⟨t2, rfl⟩ := r2
        exact ⟨_, .list at_ hc hd (.cons (.str z t1) (.cons (.int i t2) .nil))⟩
  obtain ⟨as, rd⟩ := rd
  exact repr_of_reads' rd sh (PyData.noDict_hsm rfl) hg (by simp [PyData.depth, PyData.depthAll]; omega) (fun _ _ e => e) (fun h' u tk keep => ⟨.str _, H, I.kept (t' := tk) keep, ⟨u, rfl⟩, q⟩) few
/-! ### isinstance of the caught exception, its dict at dd -/
def HasDict (H : Hp) (dd : Addr) : Prop := ∃ fs : List (Str × V), H dd = some (.xd fs)
def rIsEd (K : PySem.W.Frag) (D a dd : Addr) : List V → Hp → VK → Prop := fun xs H Q => HasDict H dd ∧ ∃ (c : V) (cv : Value) (b : Bool), xs = [.ref a, c] ∧ (∀ u, RelV c u → u = cv) ∧ PySem.W.kitOne K (.ref D) cv = some b ∧ Q (.bl b) H
def rIsEt (K : PySem.W.Frag) (D a dd : Addr) : List V → Hp → VK → Prop := fun xs H Q => HasDict H dd ∧ ∃ (t : Addr) (cs : List Addr) (b : Bool), xs = [.ref a, .ref t] ∧ SqT K H t (cs.map V.ref) ∧ PySem.W.kitAny K (.ref D) (cs.map Value.ref) = some b ∧ Q (.bl b) H
theorem kit_d {K : PySem.W.Frag} {D a : Addr} {oe : Obj} {od : Option Obj} (C : ExcC K D) : PySem.W.KitX K (.ref a) (.ref D) (fun h => PySem.W.InstAt h a oe D od) :=
  PySem.W.kitx_exc (by obtain ⟨cd, h, _⟩ := PySem.W.any_some C.hd; rw [h]; rfl) C.hg C.hk C.hs C.ha C.hn C.ht C.hm
theorem at_d {pins pn : List (Addr × Obj)} {σ : L2.St} {H : Hp} {s : Shared} {D a dd : Addr} {oe : Obj} (I : Inv (X.suite a ((a, oe) :: pn)) pins σ H s) (hz : Zc (.ref D) (some dd) oe) (hf : ∃ vs, oe.data = .fields vs) (hd : HasDict H dd) : ∃ od, PySem.W.InstAt s.heap a oe D (some od) := by
  obtain ⟨fs, at_⟩ := hd
  have ok : ObjOk X.prog X.w H s.heap dd (.xd fs) := I.hok dd _ at_
  obtain ⟨mA, hns, _⟩ := ok
  obtain ⟨od, _, _, there, _⟩ := hns
  obtain ⟨vs, hv⟩ := hf
  exact ⟨od, (I.pin (a, oe) (List.mem_append_left _ List.mem_cons_self)).1, hz.1, by unfold PySem.W.notCls; rw [hv], by rw [hz.2]; exact there⟩
theorem call_isEd {D a dd : Addr} {oe : Obj} {pn : List (Addr × Obj)} (C : ExcC X.K D) (hz : Zc (.ref D) (some dd) oe) (hf : ∃ vs, oe.data = .fields vs) : CallR (X.suite a ((a, oe) :: pn)) (.builtin "isinstance") (rIsEd X.K D a dd) := fun pins s σ H xs us Q I r ⟨hd, c, cv, b, ex, one, e, q⟩ => by
  subst ex
  obtain ⟨od, J⟩ := at_d I hz hf hd
  obtain ⟨u, rfl, rc⟩ : ∃ u, us = [.ref a, u] ∧ RelV c u := by
    cases r with
    | cons r1 r =>
      cases r with
      | cons r2 r =>
        cases r
        obtain rfl := show _ = Value.ref a from r1
        exact ⟨_, rfl, r2⟩
  rw [one _ rc]
  exact PySem.W.kia_one (kit_d C) I.kIn J e (fun z => nomatch z) fun tk => ⟨.bl b, H, I.kept (t' := tk) fun _ _ z => z, rfl, q⟩
theorem vals_refs : ∀ {cs : List Addr} {us : List Value}, Vals (cs.map V.ref) us → us = cs.map Value.ref
  | [], _, h => by
    cases h
    rfl
  | c :: cs, _, h => by
    cases h with
    | cons r t =>
      rw [show _ = Value.ref c from r, vals_refs t]
      rfl
theorem call_isEt {D a dd : Addr} {oe : Obj} {pn : List (Addr × Obj)} (C : ExcC X.K D) (hz : Zc (.ref D) (some dd) oe) (hf : ∃ vs, oe.data = .fields vs) : CallR (X.suite a ((a, oe) :: pn)) (.builtin "isinstance") (rIsEt X.K D a dd) := fun pins s σ H xs us Q I r ⟨hd, t, cs, b, ex, ht, e, q⟩ => by
  subst ex
  obtain ⟨od, J⟩ := at_d I hz hf hd
  obtain rfl := vals_refs (cs := [a, t]) r
  obtain ⟨its, rv, ⟨o, at_, hc, n, hdt⟩, _⟩ := I.tuple ht
  obtain rfl := vals_refs rv
  obtain ⟨cls, dc, data, sl⟩ := o
  dsimp only at hc hdt
  subst hc
  subst hdt
  exact PySem.W.kia_tup (kit_d C) I.kIn J at_ e (fun z => nomatch z) fun tk => ⟨.bl b, H, I.kept (t' := tk) fun _ _ z => z, rfl, q⟩
end
/-! ### except (x1, x2) as n -/
theorem fly_grown {B h h' : Heap} {l : List Env} {a : Addr} {Z : Obj → Prop} (f : HandSPX.FlyingZ B l a Z h) (k : ∀ b o, h.get? b = some o → h'.get? b = some o) : HandSPX.FlyingZ B l a Z h' := by
  obtain ⟨st, none, ff, oe, vs, T, oT, ts, f1, f2, f3, f4, f5, f6, f7, f8, f9⟩ := f
  exact ⟨fun b o e => k b o (st b o e), none, Heap.FunFrames.of_keeps (fun b o e _ => ⟨o, k b o e, rfl⟩) ff, oe, vs, T, oT, ts, k _ _ f1, f2, f3, f4, f5, f6, k _ _ f7, f8, f9⟩
/-- a name of a class, read in whatever state of the suite -/
theorem names_read {X : Cx} {x : Str} {c : Value} {np : Pos} (h : Names X x c) {a : Addr} {oe : Obj} {pn pins : List (Addr × Obj)} {σ : L2.St} {H : Hp} {s : Shared} (I : Inv (X.suite a ((a, oe) :: pn)) pins σ H s) {Q : Value → Shared → Prop} {E : Value → Shared → Prop} (q : Q c s) :
    wpAny (model X.prog X.w) (X.A.mark (some (.ref a))) (eval (.Name x np) X.env) Q E s := by
  obtain ⟨g, nd, m | ⟨m, bt, nn⟩⟩ := h
  · exact ld_glob (X := X.suite a ((a, oe) :: pn)) I g m q nd
  · exact ld_blt (X := X.suite a ((a, oe) :: pn)) I g m bt q nn nd
/-- what the clause asks: it takes every exception that comes -/
def wTup (K : PySem.W.Frag) (c1 c2 : Value) (i : Nat) (ts : Addr → Value → Option Addr → TS) (D : Ends) : WX := fun cls d σ H => PySem.W.exmAny K cls [c1, c2] = some true ∧
  ∀ a, H a = none → ts a cls d { nx := fun σ' H' => D.nx (σ'.set i none) H', rt := D.rt, bk := fun σ' H' => D.bk (σ'.set i none) H', ct := fun σ' H' => D.ct (σ'.set i none) H' } (σ.set i (some (.ref a))) H
section
variable {X : Cx} {x1 x2 n : Str} {c1 c2 : Value} {i kk : Nat} {body suite : List Stmt} {b0 : Stmt} {np1 np2 tpos pos pos' : Pos} {tb : WX → TS} {ts : Addr → Value → Option Addr → TS}
theorem ps_try_two (hs : X.stack = X.env :: X.outer) (hf : X.env.frame = some X.env.locals) (hN : X.N.Nodup) (hi : X.N[i]? = some n) (hln : X.env.kindOf n = some .local) (n1 : Names X x1 c1) (n2 : Names X x2 c2)
    (hb : ∀ (W : WX) (pn : List (Addr × Obj)) (xe : Value → Shared → Prop), Takes (X.tr pn xe) W → PSs (X.tr pn xe) body (tb W))
    (hsu : ∀ (a : Addr) (oe : Obj) (cls : Value) (d : Option Addr) (pn : List (Addr × Obj)), Zc cls d oe → (∃ vs, oe.data = .fields vs) → PSs (X.suite a ((a, oe) :: pn)) (b0 :: suite) (ts a cls d)) :
    PS X (.Try body [.ExceptHandler (some (.Tuple [.Name x1 np1, .Name x2 np2] kk tpos)) (some n) (b0 :: suite) pos'] [] [] pos) (fun D σ H => tb (wTup X.K c1 c2 i ts D) D σ H) := ⟨fun pins s σ H D I h => by
  have ok := I.ok
  have fr : X.A.frames = some (X.env :: X.outer) := ok.frames.trans (congrArg some hs)
  have own : frs (X.env :: X.outer) = X.env.locals :: X.fs := by
    show List.filterMap _ _ = _
    rw [List.filterMap_cons, hf] <;> rfl
  -- behind the body, by whichever way it ends
  have plain : ∀ f s1, SP (X.tr (X.pn ++ pins) (fun e s₁ => wpAny (model X.prog X.w) X.A (noteFrame e X.env) (fun _ s₂ => wpAny (model X.prog X.w) X.A (setFlight e none) (fun _ s₃ =>
      wpAny (model X.prog X.w) X.A (handleBy e X.env [.ExceptHandler (some (.Tuple [.Name x1 np1, .Name x2 np2] kk tpos)) (some n) (b0 :: suite) pos']) (SP X pins D) X.xe s₃) X.xe s₂) X.xe s₁)) [] D f s1 → SP X pins D f s1 := by
    rintro (_ | _ | _ | u) s1 q
    · exact let ⟨σ1, H1, J, q⟩ := q; ⟨σ1, H1, J.ofTry ok, q⟩
    · exact let ⟨σ1, H1, J, q⟩ := q; ⟨σ1, H1, J.ofTry ok, q⟩
    · exact let ⟨σ1, H1, J, q⟩ := q; ⟨σ1, H1, J.ofTry ok, q⟩
    · exact let ⟨v, σ1, H1, J, r, q⟩ := q; ⟨v, σ1, H1, J.ofTry ok, r, q⟩
  refine wpAny_Try_except (wpAny_mono ((hb (wTup X.K c1 c2 i ts D) (X.pn ++ pins) _ fun u s1 air => ?_).run [] s σ H D (I.toTry _) h) (fun f s1 q => ?_) fun _ _ z => z)
  · obtain ⟨a, B, sI, pins1, σ1, H1, cls, d, rfl, J1, below, up, sky, na, os, bare, takes, want⟩ := air
    have J := J1.ofTry ok
    rw [show (X.tr (X.pn ++ pins) _).stack = X.env :: X.outer from hs] at sky
    refine Sky.land Zc.steady fr hf sky fun h3 fl3 up3 => ?_
    have at3 := J.landed (s' := { s1 with heap := h3 }) below fl3.1 (up.trans up3) os bare
    -- the exception is none of the frames
    have apart : ∀ {h : Heap}, HandSPX.FlyingZ B (X.env :: X.outer) a (Zc cls d) h → a ≠ X.env.locals ∧ a ∉ X.fs := fun {h} fl => by
      obtain ⟨oe, vs, e1, _, e2⟩ := fl.there
      have no : a ∉ frs (X.env :: X.outer) := fun hm => by
        obtain ⟨_, o', e3, nf⟩ := fl.2.2.1.mem hm
        exact nf vs (by rw [← Option.some.inj (e1.symm.trans e3)]; exact e2)
      rw [own, List.mem_cons, not_or] at no
      exact no
    obtain ⟨nl, nf⟩ := apart fl3
    obtain ⟨oe3, vs3, e3, z3, d3⟩ := fl3.there
    have S3 := at3.suite e3 d3 na nl nf
    have grown : ∀ b o, h3.get? b = some o → (h3.push { cls := .type "tuple", data := .seq [c1, c2].toArray }).get? b = some o := fun _ _ z => Heap.get?_push_of_some _ z
    refine wpAny_handleBy_cons (codeAny_handlers_test ?_) (fun q => nomatch q)
    refine wpAny_Tuple (wpAny_items_cons (names_read n1 S3 (wpAny_items_cons (names_read n2 S3 (wpAny_items_nil ⟨by size_fits, ?_⟩)))))
    have typ : PySem.W.Looks (model X.prog X.w) h3 (typeOf (.ref a)) cls := fun A Q E s k q => wpAny_typeOf_ref (k _ _ e3) (by rw [z3.1]; exact q)
    refine (PySem.W.exm_tup2 (at3.kIn.keeps grown) (typ.keeps grown) (Heap.get?_push_size h3 rfl) takes).here ?_
    refine codeAny_handlers_suite_as (HandSPX.lands_againZ (fly_grown fl3 grown) fun h4 fl4 up4 => ?_)
    have at4 := J.landed (s' := { s1 with heap := h4 }) below fl4.1 ((up.trans up3).trans ((Heap.UpToSlots.of_keeps grown).trans up4)) os bare
    obtain ⟨nl4, nf4⟩ := apart fl4
    obtain ⟨oe4, vs4, e4, z4, d4⟩ := fl4.there
    refine store_ok (X := X.suite a ((a, oe4) :: (X.pn ++ pins))) (v := .ref a) (at4.suite e4 d4 na nl4 nf4) hN hi (.inl hln) rfl (fun s5 S5 => ?_) (.inr hln)
    refine wpAny_mono ((hsu a oe4 cls d (X.pn ++ pins) z4 ⟨_, d4⟩).run [] s5 _ H1 _ S5 (want a na)) (fun f s6 q6 => ?_) (fun _ _ z => z.elim)
    rcases f with (_ | _ | _ | u)
    · exact let ⟨σ6, H6, S6, q⟩ := q6; gone_ok (S6.unsuite ok) hN hi hln fun s7 J7 => ⟨_, _, J7, q⟩
    · exact let ⟨σ6, H6, S6, q⟩ := q6; gone_ok (S6.unsuite ok) hN hi hln fun s7 J7 => ⟨_, _, J7, q⟩
    · exact let ⟨σ6, H6, S6, q⟩ := q6; gone_ok (S6.unsuite ok) hN hi hln fun s7 J7 => ⟨_, _, J7, q⟩
    · exact let ⟨v, σ6, H6, S6, r, q⟩ := q6; gone_ok (S6.unsuite ok) hN hi hln fun s7 J7 => ⟨_, _, _, J7, r, q⟩
  · have q' := plain f s1 q
    rcases f with (_ | _ | _ | u)
    · exact wpAny_execs_nil q'
    · exact q'
    · exact q'
    · exact q'⟩
end
end K33
set_option autoImplicit false
set_option Elab.async false
set_option linter.all false
set_option maxRecDepth 100000
set_option maxHeartbeats 4000000
/-! _law_told, whose ask raises NoWorld. -/
namespace K33
open PySem PySem.Spec PyProof.Rows L2 Evl
/-- what is asked of the classes, NoWorld at C -/
structure ToldC (K : PySem.W.Frag) (mg : Str → Option Value) (C : Addr) : Prop where
  ex : ExcC K C
  xf : XfC K C
  nw : PySem.W.findIn K (.ref C) "world" = some none
  two : ∃ c1 c2, mg "MustError" = some (.ref c1) ∧ mg "LackError" = some (.ref c2) ∧ PySem.W.exmAny K (.ref C) [.ref c1, .ref c2] = some true
  kinds : ∃ c1 c2, mg "NoPaper" = some (.ref c1) ∧ mg "NoRules" = some (.ref c2) ∧ mg "NoWorld" = some (.ref C) ∧ PySem.W.kitOne K (.ref C) (.ref c1) = some false ∧ PySem.W.kitOne K (.ref C) (.ref c2) = some false ∧ PySem.W.kitOne K (.ref C) (.ref C) = some true
  rest : ∃ c1 c2 c3 c4 c5 c6 c7, mg "NoMore" = some (.ref c1) ∧ mg "NoShowing" = some (.ref c2) ∧ mg "NoText" = some (.ref c3) ∧ mg "NoRow" = some (.ref c4) ∧ mg "NoHand" = some (.ref c5) ∧ mg "NoName" = some (.ref c6) ∧ mg "NoStep" = some (.ref c7) ∧
    PySem.W.kitAny K (.ref C) [.ref c1, .ref c2, .ref c3, .ref c4, .ref c5, .ref c6, .ref c7] = some false
  lk : PySem.W.kitOne K (.ref C) (.type "LookupError") = some true
theorem pe_noway {X : Cx} {e : Expr} : PE X e (fun _ _ _ => False) := ⟨fun _ _ _ _ _ _ h => h.elim⟩
/-- a suite for the one class C, whose instances have a dict -/
def tWhen (C : Addr) (cls : Value) (d : Option Addr) (t : Addr → TS) : TS := fun D σ H => ∃ dd, cls = .ref C ∧ d = some dd ∧ t dd D σ H
theorem pss_when {X : Cx} {C : Addr} {cls : Value} {d : Option Addr} {oe : Obj} {sts : List Stmt} {t : Addr → TS} (hz : Zc cls d oe) (h : ∀ dd, Zc (.ref C) (some dd) oe → PSs X sts (t dd)) : PSs X sts (tWhen C cls d t) := ⟨fun pins s σ H D I q => by
  obtain ⟨dd, e1, e2, q⟩ := q
  exact (h dd (by rw [← e1, ← e2]; exact hz)).run pins s σ H D I q⟩
theorem takes_len {X : Cx} {W : WX} (t : Takes X W) : Takes X (fun c d σ H => σ.length = X.N.length → W c d σ H) := fun u s' x => by
  obtain ⟨a, B, sI, pins, σ, H, cls, d, e, I, x1, x2, x3, x4, x5, x6, w⟩ := x
  exact t u s' ⟨a, B, sI, pins, σ, H, cls, d, e, I, x1, x2, x3, x4, x5, x6, w I.len⟩
section
variable {K : PySem.W.Frag} {σ : L2.St} {H H' : Hp} {ta tb te : TE} {tl : TA} {t : TT} {D a dd : Addr} {c : V} {cv : Value} {b : Bool}
theorem HasDict.ex (e : Ex H H') (h : HasDict H dd) : HasDict H' dd := by
  obtain ⟨fs, q⟩ := h
  exact ⟨fs, e _ _ q⟩
theorem ev_isEd (hd : HasDict H dd) (h1 : Ev ta σ H (.ref a)) (h2 : Ev tb σ H c) (one : ∀ u, RelV c u → u = cv) (e : PySem.W.kitOne K (.ref D) cv = some b) : Ev (tCB (rIsEd K D a dd) (tCons ta (tCons tb tNil))) σ H (.bl b) := fun H1 e1 Q q =>
  h1 H1 e1 _ fun H2 e2 => h2 H2 (e1.trans e2) _ fun H3 e3 => ⟨hd.ex ((e1.trans e2).trans e3), c, cv, b, rfl, one, e, q H3 (e2.trans e3)⟩
theorem ev_isEt {cs : List Addr} (hd : HasDict H dd) (h1 : Ev ta σ H (.ref a)) (h2 : EvU tb σ H (cs.map V.ref)) (e : PySem.W.kitAny K (.ref D) (cs.map Value.ref) = some b) : Ev (tCB (rIsEt K D a dd) (tCons ta (tCons tb tNil))) σ H (.bl b) := fun H1 e1 Q q =>
  h1 H1 e1 _ fun H2 e2 => h2 H2 (e1.trans e2) _ fun p H3 _ e3 hp => ⟨hd.ex ((e1.trans e2).trans e3), p, cs, b, rfl, st_of hp, e, q H3 (e2.trans e3)⟩
theorem ev_countV {p : Addr} {ys : List V} {k : V} (h : Ev te σ H (.ref p)) (hp : H p = some (.lst ys)) (hk : Ev tb σ H k) (fk : flatV k = true) (fy : ys.all flatV = true) : Ev (tBM K "list" (rCntV K) te (tCons tb tNil)) σ H (.int (ys.countP fun y => eqV y k : Nat)) := fun H1 e1 Q q =>
  h H1 e1 _ fun H2 e2 => ⟨.inl ⟨rfl, _, sq_of ((e1.trans e2) _ _ hp)⟩, hk H2 (e1.trans e2) _ fun H3 e3 => ⟨p, ys, k, rfl, rfl, sq_of (((e1.trans e2).trans e3) _ _ hp), fk, fy, q H3 (e2.trans e3)⟩⟩
theorem ev_xf {C : Addr} {fs : List (Str × V)} {f : Str} {v : V} (hd : H dd = some (.xd fs)) (h : Ev te σ H (.ref a)) (l : fs.lookup f = some v) : Ev (tXf a (.ref C) (some dd) C f te) σ H v := fun H1 e1 Q q =>
  h H1 e1 _ fun H2 e2 => ⟨rfl, rfl, dd, fs, v, rfl, (e1.trans e2) _ _ hd, l, q H2 e2⟩
theorem el_ifT {xs : List V} (h : EvT t σ H true) (k : EvL ta σ H xs) : EvL (tIf t ta tb) σ H xs := fun H1 e Q q => h H1 e _ fun H2 e2 => by
  show ta σ H2 Q
  exact k H2 (e.trans e2) Q fun p H3 n e3 hp => q p H3 (fresh_back e2 n) (e2.trans e3) hp
theorem ev_ixV {p : Addr} {ys : List V} {i : Nat} {v : V} (h : Ev ta σ H (.ref p)) (hp : H p = some (.lst ys)) (hi : Ev tb σ H (.int (i : Int))) (hv : ys[i]? = some v) : Ev (tOp (rIxL K) ta tb) σ H v := ev_op h hi (rv_ixL (sq_of hp) (atI_nat hv))
end
theorem pe_countK (K : PySem.W.Frag) {X : Cx} {o e : Expr} {to te : TE} {apos cpos : Pos} (ho : PE X o to) (he : PE X e te) (hk : X.K = K := by rfl) (hbase : attributeBase o "count" X.env (eval o X.env) = eval o X.env := by rfl)
    (hfew : ((backTo cpos (starEach [e] X.env)).all (fun x => !x.1) && (backToKw cpos (keywordEach [] X.env)).all (fun x => x.1.isSome) && decide ([e].length + ([] : List Keyword).length + (if ([] : List Keyword).isEmpty then 0 else 1) < 30)) = true := by rfl)
    (hline : (apos.endLine == cpos.line) = true := by rfl) (hs : starEach [e] X.env = (false, eval e X.env) :: starEach [] X.env := by rfl) (hplain : (backTo cpos (starEach [] X.env)).any (·.1) = false := by rfl) :
    PE X (.Call (.Attribute o "count" apos) [e] [] cpos) (tBM K "list" (rCntV K) to (tCons te tNil)) := by
  subst hk
  exact pe_bm PySem.F.plainAttrs_list PySem.F.slot_list_count PySem.F.type_list_count mt_countV ho (pa_cons he pa_nil hs) hbase hfew hline hs hplain
/-- what is asked of the ask: whatever it would give, it raises a NoWorld -/
def TToldW (C : Addr) : (XK → Hp → VK → Prop) → Hp → VK → Prop := fun tl H Q => ∀ H0, Ex H H0 → ∀ Q0, tl (fun cls d H1 => ∃ (due : Int) (dd : Addr), cls = .ref C ∧ d = some dd ∧ H1 dd = some (.xd [("world", .int due)]) ∧
  ∀ l H2, Ex H1 H2 → H2 l = some (.lst [.str "world", .int due]) → Q (.ref l) H2) H0 Q0
theorem told_gives {X : Cx} {g C : Addr} {cdg : Value} {q : Str} (T : ToldC X.K X.mg C) (B : Blt X.mg) : LamX.GivesTo X ["_law_ask", "_law_found", "e", "_law_kinds_of", "_law_others"] "_law_told" (defScope st__law_told) g cdg (defBody st__law_told) "_law_ask" q (TToldW C) := by
  intro f c' s H Q tl act hc h
  have nd := sc__law_told.nd
  obtain ⟨m1, m2, g1, g2, any2⟩ := T.two
  obtain ⟨k1, k2, gp, gr, gw, ip, ir, iw⟩ := T.kinds
  obtain ⟨c1, c2, c3, c4, c5, c6, c7, y1, y2, y3, y4, y5, y6, y7, anyR⟩ := T.rest
  refine ⟨_, pss_cons (ps_set (i := 1) nd rfl (.inl rfl) (pe_lst (pa_cons pe_str pa_nil)))
    (pss_cons (ps_try_two (i := 2) (tb := fun W D σ H => ∃ Ech : XK, (∀ cls d σ' H', Ech cls d H' → σ'.length = 5 → W cls d σ' H') ∧
        tAsg (tLst (tCons (tC (.str "told")) (tCons (fun σZ HZ Q => σZ[0]? = some (some (.ref f)) ∧ HZ c' = some (LamX.CodeO c' q) ∧ tl Ech HZ Q) tNil))) (gName 1) D σ H)
      rfl rfl nd rfl rfl ⟨by rfl, by decide, .inl g1⟩ ⟨by rfl, by decide, .inl g2⟩
      (fun W pn xe tk => ⟨fun pins s' σ H' D I hb => by
        obtain ⟨Ech, hW, h1⟩ := hb
        exact (pss_one (ps_set (i := 1) nd rfl (.inl rfl) (pe_lst (pa_cons pe_str (pa_cons (act _ pn xe Ech _ _ (takes_len tk) hW) pa_nil))))).run pins s' σ H' D I h1⟩)
      (fun a oe cls d pn hz hf => pss_when (C := C) hz fun dd hz' =>
        pss_cons (ps_set (i := 3) nd rfl (.inl rfl) (pe_lst (pa_cons (pe_callB (call_isEd T.ex hz' hf) (by rfl) B.b_isinstance (by decide +kernel) (pa_cons (pv 2) (pa_cons (pe_glob (v := .ref k1) (by rfl) gp rfl) pa_nil)))
          (pa_cons (pe_callB (call_isEd T.ex hz' hf) (by rfl) B.b_isinstance (by decide +kernel) (pa_cons (pv 2) (pa_cons (pe_glob (v := .ref k2) (by rfl) gr rfl) pa_nil)))
          (pa_cons (pe_callB (call_isEd T.ex hz' hf) (by rfl) B.b_isinstance (by decide +kernel) (pa_cons (pv 2) (pa_cons (pe_glob (v := .ref C) (by rfl) gw rfl) pa_nil))) pa_nil)))))
        (pss_cons (ps_set (i := 4) nd rfl (.inl rfl) (pe_callB (call_isEt T.ex hz' hf) (by rfl) B.b_isinstance (by decide +kernel) (pa_cons (pv 2) (pa_cons
          (pe_tup (pa_cons (pe_glob (v := .ref c1) (by rfl) y1 rfl) (pa_cons (pe_glob (v := .ref c2) (by rfl) y2 rfl) (pa_cons (pe_glob (v := .ref c3) (by rfl) y3 rfl) (pa_cons (pe_glob (v := .ref c4) (by rfl) y4 rfl)
            (pa_cons (pe_glob (v := .ref c5) (by rfl) y5 rfl) (pa_cons (pe_glob (v := .ref c6) (by rfl) y6 rfl) (pa_cons (pe_glob (v := .ref c7) (by rfl) y7 rfl) pa_nil)))))))) pa_nil))))
        (pss_one (ps_if (PW.pt (pw_and (pt_not (pt_val (pv 4))) (pw_and (pt_cmpR op_eq (pe_countK X.K (pv 3) pe_bl) pe_int (nomark _)) (pw_and1 (pt_cmpR op_eq (pe_callB (call_isEd T.ex hz' hf) (by rfl) B.b_isinstance (by decide +kernel) (pa_cons (pv 2) (pa_cons (pe_bltn (v := .ty "LookupError") (by rfl) B.b_LookupError (by decide +kernel) rfl) pa_nil))) (pe_ix (k_ixL X.K) (pv 3) pe_int (fun _ _ => rfl)) (nomark _))))))
          (pss_one (ps_if (pt_val (pe_ix (k_ixL X.K) (pv 3) pe_int (fun _ _ => rfl))) pss_never
            (pss_one (ps_set (i := 1) nd rfl (.inl rfl) (pe_ifExp (pt_val (pe_ix (k_ixL X.K) (pv 3) pe_int (fun _ _ => rfl))) (pe_lst (pa_cons pe_str (pa_cons (pe_xf T.xf T.nw hz' hf (pv 2)) pa_nil))) pe_noway))))) pss_nil)))))
    (pss_one (ps_ret (pv 1)))), ?_⟩
  refine q_asgL (xs := [.str "odd"]) (el_lst (ea_cons ev_c ea_nil) (by simp)) fun p0 H1 n0 e1 h1 => ?_
  refine ⟨fun cls d H1 => ∃ (due : Int) (dd : Addr), cls = .ref C ∧ d = some dd ∧ H1 dd = some (.xd [("world", .int due)]) ∧ ∀ l H2, Ex H1 H2 → H2 l = some (.lst [.str "world", .int due]) → Q (.ref l) H2, fun cls d σ' H2 hE hl => ?_, ?_⟩
  · obtain ⟨due, dd, rfl, rfl, hd, k⟩ := hE
    refine ⟨any2, fun a na => ⟨dd, rfl, rfl, ?_⟩⟩
    match σ', hl with
    | [s0, s1, s2, s3, s4], _ =>
      have hasd : HasDict H2 dd := ⟨_, hd⟩
      refine q_asgL (xs := [.bl false, .bl false, .bl true]) (el_lst (ea_cons (ev_isEd hasd (ev_var rfl) ev_c (fun u h => h) ip) (ea_cons (ev_isEd hasd (ev_var rfl) ev_c (fun u h => h) ir) (ea_cons (ev_isEd hasd (ev_var rfl) ev_c (fun u h => h) iw) ea_nil))) (by simp)) fun pk H3 nk e3 hk => ?_
      refine q_asg (v := .bl false) (ev_isEt (cs := [c1, c2, c3, c4, c5, c6, c7]) (hasd.ex e3) (ev_var rfl) (eu_tup (ea_cons ev_c (ea_cons ev_c (ea_cons ev_c (ea_cons ev_c (ea_cons ev_c (ea_cons ev_c (ea_cons ev_c ea_nil))))))) (by simp)) anyR) fun H4 e4 => ?_
      have hk4 := e4 _ _ hk
      refine s_when (b := true) (et_is (et_and (et_not (et_test (ev_var rfl))) fun _ => et_and (et_test (ev_op (ev_countV (ev_var rfl) hk4 ev_c rfl rfl) ev_c (rv_eq rfl))) fun _ => et_test (ev_op (ev_isEd (hasd.ex (e3.trans e4)) (ev_var rfl) ev_c (fun u h => h) T.lk) (ev_ixV (i := 2) (ev_var rfl) hk4 ev_c rfl) (rv_eq rfl))) (by decide)) (fun _ H5 e5 => ?_) fun h => nomatch h
      refine s_ifF (et_test (ev_ixV (i := 0) (ev_var rfl) (e5 _ _ hk4) ev_c rfl)) fun H6 e6 => ?_
      have e36 := (e3.trans e4).trans (e5.trans e6)
      refine s_asgL (xs := [.str "world", .int due]) (el_ifT (et_test (ev_ixV (i := 2) (ev_var rfl) ((e5.trans e6) _ _ hk4) ev_c rfl)) (el_lst (ea_cons ev_c (ea_cons (ev_xf (e36 _ _ hd) (ev_var rfl) rfl) ea_nil)) (by simp))) fun l H7 n7 e7 h7 => ?_
      exact ⟨_, rfl, k l H7 (e36.trans e7) h7⟩
  · exact ⟨rfl, e1 _ _ hc, h H1 e1 _⟩
end K33
set_option autoImplicit false
set_option Elab.async false
set_option linter.all false
set_option maxRecDepth 100000
set_option maxHeartbeats 4000000
/-! _law_refused_right: the one def in which a list's text is asked for, so it is walked where no text is under way. -/
namespace K33
open PySem PySem.Spec PyProof.Rows L2 Evl
/-! ### a def that is called only where no text is under way -/
structure FnG (P : Program) (w : World) (K : PySem.W.Frag) (mg : Str → Option Value) (base : Heap) (k : Nat) (f : Addr) (fd : FuncData) (ps : List Str) (sp : Sp) : Prop where
  len : ∀ vs H Q E, sp vs H Q E → vs.length = ps.length
  run : ∀ (A : Around) (outer : List Env) (s : Shared) (H : Hp) (args : Args) (us : List Value) (vs : List V) (Q : VK) (E : XK), A.guards = some [] → Room k A → Env0 P w K mg base A outer s H → BindsTo s fd args (ps.zip us) → Vals vs us → sp vs H Q E →
    codeAny (model P w) A (.call (.ref f) args) (CR CX0 outer P w H s Q E) s
def HasG (P : Program) (w : World) (K : PySem.W.Frag) (mg : Str → Option Value) (base : Heap) (k : Nat) (x : Str) (ps : List Str) (sp : Sp) : Prop :=
  ∃ f fd, FnG P w K mg base k f fd ps sp ∧ mg x = some (.ref f) ∧ PySem.W.keepIn K (.ref f) = true ∧ Binds K fd ps []
theorem pe_hasG {X : Cx} {k : Nat} {ps : List Str} {sp : Sp} {E : XK} {x : Str} {p pos : Pos} {e : Expr} {es : List Expr} {t : TA} (h : HasG X.prog X.w X.K X.mg X.base k x ps sp) (quiet : X.A.guards = some []) (hr : Room k X.A) (hg : Gl X x) (ha : PA X (e :: es) t)
    (hdb : (x == ("__debug__" : Str)) = false := by decide) (he : starEach (e :: es) X.env = (false, eval e X.env) :: starEach es X.env := by rfl) (hpl : (backTo pos (starEach es X.env)).any (·.1) = false := by rfl) :
    PE X (.Call (.Name x p) (e :: es) [] pos) (tCall sp [] E t) := ⟨fun pins s σ H Q I want => by
  obtain ⟨f, fd, G, at_, kp, hb⟩ := h
  refine wpAny_Call_Name_kw (ld_glob I hg at_ (PySem.W.callWith_K (h₀ := X.base) I.ok.mod.kin kp (thn (ha.run pos pins s σ H _ I want) fun us s1 got => ?_) he hpl) hdb)
  obtain ⟨vs, H1, I1, rv, ask⟩ := got
  rw [List.append_nil] at ask
  have bound := hb s1 us I1.kIn (by rw [List.append_nil, ← rv.length]; exact G.len _ _ _ _ ask)
  rw [List.append_nil] at bound
  refine ⟨I1.kIn, wpAny_call (codeAny_mono (G.run X.A X.stack s1 H1 ⟨us, []⟩ us vs Q E quiet hr I1.env0 bound rv ask) fun r s2 out => ?_)⟩
  rcases r with er | (_ | _ | _ | u)
  · exact False.elim out
  · exact False.elim out
  · exact False.elim out
  · exact False.elim out
  · exact I1.after out⟩
/-- the def x of the module, its code object at c, the table of that at T -/
def LamAt (K : PySem.W.Frag) (mg : Str → Option Value) (base : Heap) (x : Str) (st : Stmt) (ps : List Str) (c T : Addr) : Prop := ∃ (f : Addr) (oc : Value) (od : Option Addr) (kV doc pm : Value) (an : Option Addr) (ct : Value) (osl : Array (Option Value)),
  K.lookup f = some ⟨oc, od, .func (PySem.W.fnOf x x (defArgs st) (defBody st) (defScope st) .none kV doc pm an (.ref c) ct), osl⟩ ∧ PySem.W.codeIn K (.ref c) x = true ∧ mg x = some (.ref f) ∧ PySem.W.keepIn K (.ref f) = true ∧
  Binds K (PySem.W.fnOf x x (defArgs st) (defBody st) (defScope st) .none kV doc pm an (.ref c) ct) ps [] ∧ LamX.TabB base mg c T
theorem LamAt.ok {P : Program} {w : World} {K : PySem.W.Frag} {mg : Str → Option Value} {base : Heap} {x : Str} {st : Stmt} {N ps : List Str} {c T : Addr} {k : Nat} {sp : Sp} (D : LamAt K mg base x st ps c T) (S : FnScope N ps (defScope st)) (len : ∀ vs H Q E, sp vs H Q E → vs.length = ps.length)
    (hbody : LamX.TabB base mg c T → ∀ (f : Addr) (A : Around) (outer : List Env) (s : Shared) (H : Hp) (vs : List V) (Q : VK) (E : XK), A.guards = some [] → Room k (A.deeper (envOfC x (defScope st) s.heap.objs.size f (.ref c))) → sp vs H Q E →
      ∃ t, PSs (cxOf CX0 P w K mg base N x (defScope st) f (.ref c) A outer s H E).nox (defBody st) t ∧ t { nx := fun _ H' => Q .non H', rt := Q } (start N vs) H) : HasG P w K mg base (k + 1) x ps sp := by
  obtain ⟨f, oc, od, kV, doc, pm, an, ct, osl, lk, cd, at_, kp, hb, TB⟩ := D
  refine ⟨f, _, ⟨len, fun A outer s H args us vs Q E quiet hr e0 hbd rv ask => LamX.run_ofS (N := N) lk cd S hr e0 hbd rv (len _ _ _ _ ask) fun hr' => ?_⟩, at_, kp, hb⟩
  obtain ⟨t, h, q⟩ := hbody TB f A outer s H vs Q E quiet hr' ask
  exact ⟨t, h.nox, q⟩
/-! ### a call of a def in a slot that may raise -/
def tCallR (i : Nat) (good : Addr → Prop) (sp : Sp) (E : XK) (t : TA) : TE := fun σ H Q => ∃ f, σ[i]? = some (some (.ref f)) ∧ good f ∧ t σ H fun vs H1 => sp vs H1 Q E
def GoodF (P : Program) (w : World) (K : PySem.W.Frag) (mg : Str → Option Value) (base : Heap) (k : Nat) (sp : Sp) (f : Addr) : Prop := ∃ (fd : FuncData) (ps : List Str), FnOk P w K mg base (L2.CX P w) k f fd ps sp ∧ PySem.W.keepIn K (.ref f) = true ∧ Binds K fd ps []
theorem Has.good {P : Program} {w : World} {K : PySem.W.Frag} {mg : Str → Option Value} {base : Heap} {k : Nat} {x : Str} {ps : List Str} {sp : Sp} (h : Has P w K mg base (L2.CX P w) k x ps sp) : ∃ f, mg x = some (.ref f) ∧ GoodF P w K mg base k sp f := by
  obtain ⟨f, fd, F, at_, kp, hb⟩ := h
  exact ⟨f, at_, fd, ps, F, kp, hb⟩
theorem pe_callR (P : Program) (w : World) (K : PySem.W.Frag) (mg : Str → Option Value) (base : Heap) {X : Cx} {k i : Nat} {sp : Sp} {E : XK} {x : Str} {p pos : Pos} {e : Expr} {es : List Expr} {t : TA} (hr : Room k X.A) (hN : X.N[i]? = some x) (hv : Vis X.env.scope x) (hx : Passes (L2.CX X.prog X.w) X E) (ha : PA X (e :: es) t)
    (hdb : (x == ("__debug__" : Str)) = false := by decide) (hcd : (x == ("__classdict__" : Str)) = false := by decide)
    (he : starEach (e :: es) X.env = (false, eval e X.env) :: starEach es X.env := by rfl) (hpl : (backTo pos (starEach es X.env)).any (·.1) = false := by rfl)
    (h1 : X.prog = P := by rfl) (h2 : X.w = w := by rfl) (h3 : X.K = K := by rfl) (h4 : X.mg = mg := by rfl) (h5 : X.base = base := by rfl) : PE X (.Call (.Name x p) (e :: es) [] pos) (tCallR i (GoodF P w K mg base k sp) sp E t) := ⟨fun pins s σ H Q I want => by
  subst h1 h2 h3 h4 h5
  obtain ⟨f, hs, ⟨fd, ps, F, kp, hb⟩, ht⟩ := want
  have rule := pe_callL (i := i) (dvs := []) (p := p) (pos := pos) F hr hN hv kp hb .nil hx ha hdb hcd he hpl
  refine rule.run pins s σ H Q I ⟨hs, ?_⟩
  rw [show (fun (vs : List V) (H1 : Hp) => sp (vs ++ []) H1 Q E) = fun vs H1 => sp vs H1 Q E from funext fun vs => by rw [List.append_nil]]
  exact ht⟩
/-! ### what is told of the numbers -/
def duePy (i : Int) : PyData := .list [.str "world", .int i]
def DueOk (i : Int) : Prop := (duePy i).showable = true ∧ (duePy i).shown.length ≤ sizeLine
theorem due_neg : DueOk (-1) := by unfold DueOk; decide +kernel
theorem due_far : DueOk (10 ^ 40) := by unfold DueOk; decide +kernel
theorem due_small : ∀ n : Nat, n < 8 → DueOk (n : Int) := by unfold DueOk; decide +kernel
def dueList (W V : Web Str) : List PyData := [.tuple [.int (-1), .int 0, .int (-1)], .tuple [.int (W.many : Int), .int (V.many : Int), .int (W.many : Int)], .tuple [.int 0, .int (V.many : Int), .int (V.many : Int)], .tuple [.int 0, .int (10 ^ 40), .int (10 ^ 40)]]
theorem dueList_ok {W V : Web Str} (pos : 0 < W.many) (mW : W.many ≤ 7) (mV : V.many ≤ 7) {j : Nat} {d : PyData} (h : (dueList W V)[j]? = some d) : ∃ x y due : Int, d = .tuple [.int x, .int y, .int due] ∧ BadW W V x y due ∧ DueOk due := by
  have := List.mem_of_getElem? h
  simp only [dueList, List.mem_cons, List.not_mem_nil, or_false] at this
  rcases this with rfl | rfl | rfl | rfl
  · exact ⟨_, _, _, rfl, .inl ⟨by omega, rfl⟩, due_neg⟩
  · exact ⟨_, _, _, rfl, .inl ⟨by omega, rfl⟩, due_small _ (by omega)⟩
  · exact ⟨_, _, _, rfl, .inr ⟨by omega, by omega, rfl⟩, due_small _ (by omega)⟩
  · exact ⟨_, _, _, rfl, .inr ⟨by omega, by omega, rfl⟩, due_far⟩
/-- all but the tables stay, the tables are as they may be -/
theorem kt_extN {H H' : Hp} (e : LamX.ExtN H H') : Kt H H' := fun a xs r => by
  rcases r with r | ⟨o, r⟩
  · exact .inl (e _ _ r fun ps z => nomatch z)
  · exact .inr ⟨o, e _ _ r fun ps z => nomatch z⟩
theorem extN_ex {H H1 H2 : Hp} (a : LamX.ExtN H H1) (b : Ex H1 H2) : LamX.ExtN H H2 := a.trans (LamX.ExtN.of b)
/-- the lambda's name -/
def lamName : Str := (envOfC "_law_refused_right" (defScope st__law_refused_right) 0 0 .none).qual ++ "<lambda>"
section
variable {K : PySem.W.Frag} {σ : L2.St} {H H' : Hp} {te : TE}
theorem q_forU {xs : List L2.V} {g : TG} {tb tz : TS} {D : Ends} (h : EvU te σ H xs) (k : ∀ p H1, Ex H H1 → H1 p = some (.tup xs) → ∃ Pv : Nat → L2.St → Hp → Prop, Pv 0 σ H1 ∧ (∀ i σ H, Pv i σ H → SqT K H p xs) ∧
    (∀ i x σ H, xs[i]? = some x → Pv i σ H → g x σ H fun σ2 H2 => tb { D with nx := Pv (i + 1), ct := Pv (i + 1), bk := tz D } σ2 H2) ∧ ∀ σ H, Pv xs.length σ H → tz D σ H) : tSeq (tFor (iTup K te) g tb) tz D σ H :=
  h H (Ex.refl H) _ fun p H1 _ e1 hp => by
    obtain ⟨Pv, h0, hl, hs, hd⟩ := k p H1 e1 hp
    exact ⟨p, rfl, ⟨xs, st_of hp⟩, for_tup (D := { D with nx := tz D }) Pv h0 (fun i σ H _ => hl i σ H) hs hd⟩
theorem ev_reprL {z : Str} {i : Int} (h : EvL te σ H [.str z, .int i]) (sh : (PyData.list [.str z, .int i]).showable = true) (few : (PyData.list [.str z, .int i]).shown.length ≤ sizeLine) : Ev (tCB (rReprW K) (tCons te tNil)) σ H (.str (PyData.list [.str z, .int i]).shown) := fun H1 e1 Q q =>
  h H1 e1 _ fun p H2 _ e2 hp => ⟨p, z, i, rfl, sq_of hp, sh, few, q H2 e2⟩
end
section
variable {P : Program} {w : World} {K : PySem.W.Frag} {mg : Str → Option Value} {base : Heap} {C : Addr}
abbrev sp_refR (K : PySem.W.Frag) (T : Addr) : Sp := fun vs H Q _ => ∃ (W V : Web Str) (v u : L2.V), vs = [v, u] ∧ TD K H v (dWeb W) ∧ TD K H u (dWeb V) ∧ 0 < W.many ∧ W.many ≤ 7 ∧ V.many ≤ 7 ∧ LamX.Tabs [(T, lamName)] H ∧ ∀ H', LamX.ExtN H H' → LamX.Tabs [(T, lamName)] H' → Q (.bl true) H'
theorem has_refR {c T : Addr} (D : LamAt K mg base "_law_refused_right" st__law_refused_right ["_law_net_here", "_law_other"] c T) (B : Blt mg) (TC : ToldC K mg C) (DT : DefAt K mg "_law_told" st__law_told ["_law_ask"])
    (GP : Has P w K mg base (L2.CX P w) 5 "pair_paper" ["web", "world", "other", "second"] (sp_refX K C)) (GS : Has P w K mg base (L2.CX P w) 5 "parting_saying" ["web", "world", "other", "second"] (sp_refX K C)) : HasG P w K mg base 9 "_law_refused_right" ["_law_net_here", "_law_other"] (sp_refR K T) := by
  refine D.ok sc__law_refused_right (fun vs H Q E h => ?_) (fun TB f A outer s H vs Q E quiet hr h => ?_)
  · obtain ⟨W, V, v, u, rfl, _⟩ := h
    rfl
  · obtain ⟨W, V, v, u, rfl, tv, tu, pos, mW, mV, tabs, k⟩ := h
    have nd := sc__law_refused_right.nd
    obtain ⟨fP, mP, goodP⟩ := GP.good
    obtain ⟨fS, mS, goodS⟩ := GS.good
    obtain ⟨g, gd, FT, mT, bT⟩ := DT
    obtain ⟨oc, od, kV, doc, pm, an, cdv, ct, osl, rfl, lkT, cdT⟩ := FT.ex
    refine ⟨_, pss_cons (ps_for PassesOwn.never rfl (k_pit K (pe_tup (pa_cons (pe_glob (v := .ref fP) (by rfl) mP rfl) (pa_cons (pe_glob (v := .ref fS) (by rfl) mS rfl) pa_nil)))) (pg_name (i := 2) nd rfl (.inr rfl))
      (pss_one (ps_for PassesOwn.never rfl (k_pit K (pe_tup (pa_cons (pe_tup (pa_cons (pe_un un_neg pe_int) (pa_cons pe_int (pa_cons (pe_un un_neg pe_int) pa_nil))))
          (pa_cons (pe_tup (pa_cons (pe_ix (k_ixT K) (pv 0) pe_int (fun _ _ => rfl)) (pa_cons (pe_ix (k_ixT K) (pv 1) pe_int (fun _ _ => rfl)) (pa_cons (pe_ix (k_ixT K) (pv 0) pe_int (fun _ _ => rfl)) pa_nil))))
          (pa_cons (pe_tup (pa_cons pe_int (pa_cons (pe_ix (k_ixT K) (pv 1) pe_int (fun _ _ => rfl)) (pa_cons (pe_ix (k_ixT K) (pv 1) pe_int (fun _ _ => rfl)) pa_nil))))
          (pa_cons (pe_tup (pa_cons pe_int (pa_cons (pe_op op_pow pe_int pe_int) (pa_cons (pe_op op_pow pe_int pe_int) pa_nil)))) pa_nil))))))
        (k_tup K 3 rfl (pgs_cons (pg_name (i := 3) nd rfl (.inr rfl)) (pgs_cons (pg_name (i := 4) nd rfl (.inr rfl)) (pgs_cons (pg_name (i := 5) nd rfl (.inl rfl)) pgs_nil))))
        (pss_one (ps_if (pt_cmpR op_ne (pe_callB (call_reprW quiet (by have := hr.un; show A.units + 3 + 10 < _; have h2 : A.units + 3 + 16 * 8 + 200 < cLine := this; omega)) (by rfl) B.b_repr (by decide +kernel) (pa_cons
            (LamX.pe_lamcall (T := [(T, lamName)]) (k := 6) (by rfl) mT FT.kp lkT cdT bT sc__law_told rfl (.inl rfl) (told_gives TC B) TB rfl (List.mem_singleton.mpr rfl) (fun p hp _ => by rw [List.mem_singleton.mp hp]; rfl) hr (LamX.lamS_by (sc := defScope st__law_refused_right) (by decide +kernel)) rfl (fun _ _ _ _ _ => rfl)
              (fun A1 outer1 s1 H1 E1 f1 c1 hr1 => pe_callR P w K mg base (i := 2) (sp := sp_refX K C) (k := 5) (hr1.mono (by decide : 5 ≤ 6)) rfl (.inr (.inr rfl)) (passes_call (takes_of rfl rfl rfl rfl) fun _ _ _ _ z => z) (pa_cons (pv 0) (pa_cons (pv 3) (pa_cons (pv 1) (pa_cons (pv 4) pa_nil)))))) pa_nil))
          (pe_callB (call_reprW quiet (by have := hr.un; show A.units + 3 + 10 < _; have h2 : A.units + 3 + 16 * 8 + 200 < cLine := this; omega)) (by rfl) B.b_repr (by decide +kernel) (pa_cons (pe_lst (pa_cons pe_str (pa_cons (pv 5) pa_nil))) pa_nil)) (nomark _)) pss_never pss_nil)))))
      (pss_one (ps_ret pe_bl)), ?_⟩
    refine q_forU (K := K) (xs := [.ref fP, .ref fS]) (eu_tup (ea_cons ev_c (ea_cons ev_c ea_nil)) (by simp)) fun p H1 e1 hp => ⟨fun i σ' H' => (∃ d0 d1 d2 d3, σ' = [some v, some u, d0, d1, d2, d3]) ∧ LamX.ExtN H1 H' ∧ LamX.Tabs [(T, lamName)] H',
      ⟨⟨none, none, none, none, rfl⟩, LamX.ExtN.refl _, tabs.ext e1⟩, fun i σ' H' q => st_of (q.2.1 _ _ hp fun ps z => nomatch z), ?_, ?_⟩
    · rintro i x σ' H2 hx ⟨⟨d0, d1, d2, d3, rfl⟩, x2, t2⟩
      obtain ⟨fx, rfl, good⟩ : ∃ fx, x = .ref fx ∧ GoodF P w K mg base 5 (sp_refX K C) fx := by
        have := List.mem_of_getElem? hx
        simp only [List.mem_cons, List.not_mem_nil, or_false] at this
        rcases this with rfl | rfl
        · exact ⟨_, rfl, goodP⟩
        · exact ⟨_, rfl, goodS⟩
      have x02 : LamX.ExtN H H2 := (LamX.ExtN.of e1).trans x2
      have tv2 := tv.mono (kt_extN x02)
      have tu2 := tu.mono (kt_extN x02)
      refine s_for (K := K) (ds := dueList W V) (src_tup ?_) (fun H3 i σ' H' => (∃ d1 d2 d3, σ' = [some v, some u, some (.ref fx), d1, d2, d3]) ∧ LamX.ExtN H3 H' ∧ LamX.Tabs [(T, lamName)] H') (fun H3 e3 => ⟨⟨d1, d2, d3, rfl⟩, LamX.ExtN.refl _, t2.ext e3⟩) (fun H3 i σ' H' q => kt_extN q.2.1) ?_ ?_
      · have nW : ∀ (d0 d1 d2 d3 : Option L2.V), ED K (tOp (rIxT K) (tVar 0) (tC (.int 0))) [some v, some u, d0, d1, d2, d3] H2 (· = .int (W.many : Int)) := fun _ _ _ _ => ed_i (ev_many0 (ed_var (v := v) rfl tv2))
        have nV : ∀ (d0 d1 d2 d3 : Option L2.V), ED K (tOp (rIxT K) (tVar 1) (tC (.int 0))) [some v, some u, d0, d1, d2, d3] H2 (· = .int (V.many : Int)) := fun _ _ _ _ => ed_i (ev_many0 (ed_var (v := u) rfl tu2))
        have far : ∀ σ, ED K (tOp (rI CPow fun i j => .int (i ^ j.toNat)) (tC (.int 10)) (tC (.int 40))) σ H2 (· = .int (10 ^ 40)) := fun σ => ed_i (ev_op ev_c ev_c (rv_I (C := CPow) (i := 10) (j := 40) ⟨by decide, by decide, by decide⟩))
        refine ed_tup (eds_c (ed_tup (eds_c (ed_i (ev_un ev_c ru_neg)) (eds_c ed_int (eds_c (ed_i (ev_un ev_c ru_neg)) eds_nil))) (by simp)) (eds_c (ed_tup (eds_c (nW _ _ _ _) (eds_c (nV _ _ _ _) (eds_c (nW _ _ _ _) eds_nil))) (by simp))
          (eds_c (ed_tup (eds_c ed_int (eds_c (nV _ _ _ _) (eds_c (nV _ _ _ _) eds_nil))) (by simp)) (eds_c (ed_tup (eds_c ed_int (eds_c (far _) (eds_c (far _) eds_nil))) (by simp)) eds_nil)))) (by show 4 ≤ 100000; decide)
      · rintro H3 j d z σ' H4 H5 e3 hd ⟨⟨b1, b2, b3, rfl⟩, x4, t4⟩ e5 tz
        obtain ⟨ix, iy, due, rfl, bad, dok⟩ := dueList_ok pos mW mV hd
        refine tg_triple tz fun a1 a2 a3 ta1 ta2 ta3 => ?_
        obtain rfl := ta1.intI
        obtain rfl := ta2.intI
        obtain rfl := ta3.intI
        have x35 : LamX.ExtN H3 H5 := extN_ex x4 e5
        have x05 : LamX.ExtN H H5 := (x02.trans (LamX.ExtN.of e3)).trans x35
        refine ⟨t4.ext e5, fun H6 x6 t6 => fun H7 e7 Q7 => ?_⟩
        have x07 : LamX.ExtN H H7 := extN_ex (x05.trans x6) e7
        refine ⟨fx, rfl, good, _, rfl, _, rfl, _, rfl, _, rfl, W, V, v, u, ix, iy, due, rfl, tv.mono (kt_extN x07), tu.mono (kt_extN x07), bad, fun dd H8 e8 hdd => ⟨due, dd, rfl, rfl, hdd, fun l H9 e9 hl => ?_⟩⟩
        refine ⟨l, "world", due, rfl, sq_of hl, dok.1, dok.2, ?_⟩
        refine ev_reprL (K := K) (el_lst (vs := [.str "world", .int due]) (ea_cons ev_c (ea_cons (ev_var rfl) ea_nil)) (by show 2 ≤ 100000; decide)) dok.1 dok.2 H9 (Ex.refl _) _ fun H10 e10 => ⟨rfl, _, rfl, ?_⟩
        rw [decide_eq_true rfl]
        have e610 := (e7.trans e8).trans (e9.trans e10)
        exact ⟨⟨_, _, _, rfl⟩, extN_ex (x35.trans x6) e610, t6.ext e610⟩
      · rintro H3 σ' H4 e3 ⟨⟨b1, b2, b3, rfl⟩, x4, t4⟩
        exact ⟨⟨_, _, _, _, rfl⟩, (extN_ex x2 e3).trans x4, t4⟩
    · rintro σ' H2 ⟨⟨d0, d1, d2, d3, rfl⟩, x2, t2⟩
      exact k H2 ((LamX.ExtN.of e1).trans x2) t2
end
end K33
set_option autoImplicit false
set_option Elab.async false
set_option linter.all false
set_option maxRecDepth 100000
set_option maxHeartbeats 4000000
/-! The law's own def. -/
namespace K33
open PySem PySem.Spec PyProof.Rows L2 Evl
theorem fnG_of {P : Program} {w : World} {K : PySem.W.Frag} {mg : Str → Option Value} {base : Heap} {x : Str} {st : Stmt} {N ps : List Str} {k : Nat} {sp : Sp} {f : Addr} {fd : FuncData} (F : Fun K x x st f fd) (S : FnScope N ps (defScope st)) (len : ∀ vs H Q E, sp vs H Q E → vs.length = ps.length)
    (hbody : ∀ (cdv : Value) (A : Around) (outer : List Env) (s : Shared) (H : Hp) (vs : List V) (Q : VK) (E : XK), A.guards = some [] → Room k (A.deeper (envOfC x (defScope st) s.heap.objs.size f cdv)) → sp vs H Q E →
      ∃ t, PSs (cxOf CX0 P w K mg base N x (defScope st) f cdv A outer s H E).nox (defBody st) t ∧ t { nx := fun _ H' => Q .non H', rt := Q } (start N vs) H) : FnG P w K mg base (k + 1) f fd ps sp := by
  obtain ⟨oc, od, kV, doc, pm, an, cdv, ct, osl, rfl, lk, cd⟩ := F.ex
  refine ⟨len, fun A outer s H args us vs Q E quiet hr e0 hbd rv ask => LamX.run_ofS (N := N) lk cd S hr e0 hbd rv (len _ _ _ _ ask) fun hr' => ?_⟩
  obtain ⟨t, h, q⟩ := hbody cdv A outer s H vs Q E quiet hr' ask
  exact ⟨t, h.nox, q⟩
/-- what a draw leaves of the tables -/
theorem tabs_exN {T : List (Addr × Str)} {H H' : Hp} {p q : Addr} {ns : List Int} {c : Nat} (t : LamX.Tabs T H) (f : FeedAt p q ns c H) (e : ExN (· = p) H H') : LamX.Tabs T H' := fun r hr => by
  obtain ⟨k, i, cur, hp, _⟩ := f
  obtain ⟨ps, h1, h2, h3⟩ := t r hr
  refine ⟨ps, e _ _ h1 fun z => ?_, h2, fun pos cv hc => ?_⟩
  · rw [z, hp] at h1
    cases h1
  · obtain ⟨c', e1, e2⟩ := h3 pos cv hc
    refine ⟨c', e1, e _ _ e2 fun z => ?_⟩
    rw [z, hp] at e2
    unfold LamX.CodeO at e2
    cases e2
theorem FeedAt.extN {p q : Addr} {ns : List Int} {c : Nat} {H H' : Hp} (f : FeedAt p q ns c H) (e : LamX.ExtN H H') : FeedAt p q ns c H' := by
  obtain ⟨k, i, cur, hp, ne, hq, r⟩ := f
  exact ⟨k, i, cur, e _ _ hp (fun ps z => nomatch z), ne, e _ _ hq (fun ps z => nomatch z), r⟩
section
variable {σ : L2.St} {H : Hp} {t u : TT} {tu tz : TS} {D : Ends} {Q : Bool → Hp → Prop}
theorem q_ifRaw (h : t σ H fun b H1 => if b = true then tu { D with nx := tz D } σ H1 else tz D σ H1) : tSeq (tIfS t tu tNext) tz D σ H := h
theorem or_raw (h : EvT t σ H false) (k : ∀ H1, Ex H H1 → u σ H1 Q) : tOr t u σ H Q := h H (Ex.refl H) _ fun H1 e => by
  show u σ H1 Q
  exact k H1 e
end
section
variable {P : Program} {w : World} {K : PySem.W.Frag} {mg : Str → Option Value} {base : Heap} {C : Addr}
abbrev sp_law (K : PySem.W.Frag) (T : Addr) : Sp := fun vs H Q _ => ∃ (a : Addr) (ns : List Int), vs = [.ref a] ∧ SqL K H a (ns.map V.int) ∧ LamX.Tabs [(T, lamName)] H ∧ ∀ H', Q (.bl true) H'
theorem fn_law {f : Addr} {fd : FuncData} {T : Addr} (F : Fun K "law" "law" st_law f fd) (B : Blt mg) (GF : Has P w K mg base CX0 1 "_law_feed" ["_law_script"] (sp_lfeed K)) (GA : Has P w K mg base CX0 3 "_law_any_net" ["_law_feed_here", "_law_most"] (sp_lany K))
    (GT : Has P w K mg base CX0 2 "_law_twin_net" ["_law_feed_here", "_law_net_here"] (sp_ltwin K)) (GR : Has P w K mg base CX0 127 "_law_right" ["_law_net_here", "_law_other"] (sp_lright K)) (GX : HasG P w K mg base 9 "_law_refused_right" ["_law_net_here", "_law_other"] (sp_refR K T))
    (GC : Has P w K mg base CX0 5 "class_rounds" ["web"] (sp_rounds K)) (GS : Has P w K mg base CX0 16 "parting_saying" ["web", "world", "other", "second"] (sp_psaying K)) : FnG P w K mg base 128 f fd ["_law_script"] (sp_law K T) := by
  refine fnG_of F sc_law (fun vs H Q E h => ?_) (fun cdv A outer s H vs Q E quiet hr h => ?_)
  · obtain ⟨a, ns, rfl, _⟩ := h
    rfl
  · obtain ⟨a, ns, rfl, hs, tabs, kk⟩ := h
    have nd := sc_law.nd
    refine ⟨_, pss_cons (ps_set (i := 1) nd rfl (.inl rfl) (pe_has GF (hr.mono (by omega)) (by rfl) pass0 (pa_cons (pv 0) pa_nil)))
      (pss_cons (ps_for PassesOwn.never rfl (pi_range1 (by rfl) B.b_range (pa_cons pe_int pa_nil)) (pg_name (i := 2) nd rfl (.inl rfl))
        (pss_cons (ps_set (i := 3) nd rfl (.inr rfl) (pe_has GA (hr.mono (by omega)) (by rfl) pass0 (pa_cons (pv 1) (pa_cons pe_int pa_nil))))
        (pss_cons (ps_set (i := 4) nd rfl (.inl rfl) (pe_has GT (hr.mono (by omega)) (by rfl) pass0 (pa_cons (pv 1) (pa_cons (pe_has GA (hr.mono (by omega)) (by rfl) pass0 (pa_cons (pv 1) (pa_cons pe_int pa_nil))) pa_nil))))
        (pss_cons (ps_if (PW.pt (pw_or (pt_not (pt_val (pe_has GR hr (by rfl) pass0 (pa_cons (pv 3) (pa_cons (pv 4) pa_nil))))) (pw_or (pt_not (pt_val (pe_has GR hr (by rfl) pass0 (pa_cons (pv 3) (pa_cons (pv 3) pa_nil)))))
            (pw_or1 (pt_not (pt_val (pe_hasG (E := E0) GX quiet (hr.mono (by omega)) (by rfl) (pa_cons (pv 3) (pa_cons (pv 4) pa_nil))))))))) pss_never pss_nil)
        (pss_cons (ps_set (i := 5) nd rfl (.inr rfl) (pe_ix (k_ixT K) (pe_has GC (hr.mono (by omega)) (by rfl) pass0 (pa_cons (pv 3) pa_nil)) (pe_un un_neg pe_int) (fun _ _ => rfl)))
        (pss_one (ps_for PassesOwn.never rfl (pi_range1 (by rfl) B.b_range (pa_cons (pe_ix (k_ixT K) (pv 3) pe_int (fun _ _ => rfl)) pa_nil)) (pg_name (i := 6) nd rfl (.inr rfl))
          (pss_one (ps_if (pt_cmpR (k_neD K hr.units) (pe_lc (own := [("_law_y", 7)]) (g := gName 7) rfl nd (pi_range1 (by rfl) B.b_range (pa_cons (pe_ix (k_ixT K) (pv 3) pe_int (fun _ _ => rfl)) pa_nil)) (blk (N := ["_law_script", "_law_feed_here", "_law_turn", "_law_net_here", "_law_twin", "_law_last", "_law_x", "_law_y"]) (sc := defScope st_law) (by decide +kernel))
              (fun _ _ _ _ _ => pg_name (i := 7) nd rfl (.inl rfl))
              (fun _ _ _ _ _ => pts_one (pt_cmpR op_ne (pe_cmpR k_isNo (pe_has GS (hr.mono (by omega)) (by rfl) pass0 (pa_cons (pv 3) (pa_cons (pv 6) (pa_cons (pv 3) (pa_cons (pv 7) pa_nil))))) pe_non (nomark _))
                (pe_cmpR op_eq (pe_ix (k_ixT K) (pv 5) (pv 6) (fun _ _ => rfl)) (pe_ix (k_ixT K) (pv 5) (pv 7) (fun _ _ => rfl)) (nomark _)) (nomark _)))
              (fun _ _ _ _ _ => pv 7)) (pe_lst pa_nil) (nomark _)) pss_never pss_nil)))))))))
      (pss_one (ps_ret pe_bl))), ?_⟩
    refine q_raw ?_
    refine ⟨_, rfl, a, ns, rfl, hs, fun p q ns' H1 e1 f1 => ?_⟩
    have t1 := tabs.ext e1
    refine q_for (K := K) (src_rngT (n := 2) (ev_c (v := .int 2)) (by omega)) (fun _ i σ' H' => (∃ b2 b3 b4 b5 b6 b7, σ' = [some (.ref a), some (.ref p), b2, b3, b4, b5, b6, b7]) ∧ FeedAt p q ns' (i * 3000) H' ∧ LamX.Tabs [(T, lamName)] H')
      (fun H2 e2 => ⟨⟨none, none, none, none, none, none, rfl⟩, (f1.ex e2).mono (Nat.zero_le _), t1.ext e2⟩) (fun _ _ _ _ _ => trivial) ?_ ?_
    · rintro H2 i d z σ' H3 H4 e2 hd ⟨⟨b2, b3, b4, b5, b6, b7, rfl⟩, f3, t3⟩ e4 tz
      obtain ⟨hi, rfl⟩ := range_at hd
      obtain rfl := tz.intI
      have f4 := f3.ex e4
      have t4 := t3.ext e4
      refine q_raw ?_
      refine ⟨_, rfl, p, q, ns', i * 3000, 3, rfl, f4, by omega, by omega, by omega, fun v H5 W x5 f5 tv oW w1 w3 => ?_⟩
      have t5 := tabs_exN t4 f4 x5
      refine q_raw ?_
      refine ⟨_, rfl, _, rfl, p, q, ns', i * 3000 + 1000, 2, rfl, f5, by omega, by omega, by omega, fun u0 H6 W0 x6 f6 tu0 oW0 z1 z2 => ?_⟩
      have t6 := tabs_exN t5 f5 x6
      refine ⟨p, q, ns', i * 3000 + 1000 + 1000, u0, W0, rfl, f6, by omega, tu0, oW0, z1, z2, fun u H7 V x7 f7 tu oV v1 v4 => ?_⟩
      have t7 := tabs_exN t6 f6 x7
      have tv7 : TD K H7 v (dWeb W) := (tv.mono (f5.kt x6)).mono (f6.kt x7)
      refine q_ifRaw ?_
      refine or_raw (et_is (et_not (et_B (b := true) fun H8 e8 Q8 q8 => ⟨_, rfl, _, rfl, W.many, V.many, W, V, v, u, rfl, tv7.ex e8, tu.ex e8, oW, oV, by omega, fun H9 e9 => q8 H9 e9⟩)) rfl) fun H8 e8 => ?_
      refine or_raw (et_is (et_not (et_B (b := true) fun H9 e9 Q9 q9 => ⟨_, rfl, _, rfl, W.many, W.many, W, W, v, v, rfl, tv7.ex (e8.trans e9), tv7.ex (e8.trans e9), oW, oW, by omega, fun H10 e10 => q9 H10 e10⟩)) rfl) fun H9 e9 => ?_
      have e79 := e8.trans e9
      refine ⟨_, rfl, _, rfl, W, V, v, u, rfl, tv7.ex e79, tu.ex e79, by omega, by omega, by omega, t7.ext e79, fun H10 x10 t10 => ⟨true, rfl, ?_⟩⟩
      have f10 := (f7.ex e79).extN x10
      have tv10 : TD K H10 v (dWeb W) := (tv7.ex e79).mono (kt_extN x10)
      refine iteF ?_
      refine q_asgD (K := K) (P := fun d => ∃ rs, d = dNats (rs.getD (rs.length - 1) []) ∧ Rounds W rs) (fun H11 e11 Q11 q11 => ?_) fun vl dl H11 e11 tl pl => ?_
      · refine ed_lastTP (R := fun rs => Rounds W rs) (fun H12 e12 Q12 q12 => ?_) H11 (Ex.refl _) fun v3 H12 d3 e3 t3 p3 => q11 v3 H12 d3 e3 t3 p3
        exact ⟨_, rfl, W.many, W, .cons (tv10.ex (e11.trans e12)) .nil, oW, by omega, fun v5 H13 rs e5 t5 R5 b5 => q12 v5 H13 rs e5 t5 R5.pos R5⟩
      · obtain ⟨rs, rfl, R⟩ := pl
        have cl : (rs.getD (rs.length - 1) []).length = W.many := (R.row (i := rs.length - 1) (by have := R.pos; omega)).1
        have iff : ∀ x y : Nat, x < W.many → y < W.many → ((rs.getD (rs.length - 1) []).getD x 0 = (rs.getD (rs.length - 1) []).getD y 0 ↔ Alike W W x y) := fun x y hx hy => R.iff oW.wf hx hy
        generalize rs.getD (rs.length - 1) [] = c at *
        have tv11 := tv10.ex e11
        refine s_for (K := K) (src_rngT (n := W.many) (ev_many0 (ed_var (v := v) rfl tv11)) (by omega)) (fun _ j σ' H' => (∃ b6 b7, σ' = [some (.ref a), some (.ref p), some (.int (i : Int)), some v, some u, some vl, b6, b7]) ∧ Ex H11 H')
          (fun H12 e12 => ⟨⟨_, _, rfl⟩, e12⟩) (fun _ _ _ _ _ => trivial) ?_ ?_
        · rintro H12 x d z σ' H13 H14 e12 hd ⟨⟨c6, c7, rfl⟩, e13⟩ e14 tz
          obtain ⟨hx, rfl⟩ := range_at hd
          obtain rfl := tz.intI
          have E14 := e13.trans e14
          refine s_when (b := false) (et_test (ev_is (ev_neLd (K := K) (ds := ((List.range W.many).filter fun _ => false).map fun (y : Nat) => PyData.int (y : Int)) (eld_lc (fun _ => false) (fun (y : Nat) => PyData.int (y : Int)) (src_rng (ev_many0 (ed_var (v := v) rfl (tv11.ex E14))) (by omega)).ex (by simp; omega) fun y hy z H16 Q16 e16 tz k => ?_) (fun d hd => ?_)) (by simp))) (fun h => nomatch h) fun _ H15 e15 => ⟨⟨_, _, rfl⟩, E14.trans e15⟩
          · obtain rfl := tz.intI
            have hy' : y < W.many := by simpa using hy
            refine tg_name (k _ rfl (fun H17 e17 Q17 q17 => ?_) (fun h => nomatch h))
            have E17 := E14.trans (e16.trans e17)
            have t17 : TwoAt K H17 v v W.many W.many W W x y := ⟨tv11.ex E17, tv11.ex E17, oW, oW, by omega, hx, hy'⟩
            show tCall (sp_psaying K) [] _ _ _ _ _
            refine c_psaying rfl rfl rfl rfl t17 fun r H18 e18 sr => ⟨rfl, ?_⟩
            refine ev_eqN (ev_cls (K := K) (i := x) (ed_var (v := vl) rfl (tl.ex (E17.trans e18))) (ev_var rfl) (by omega)) (ev_cls (K := K) (i := y) (ed_var (v := vl) rfl (tl.ex (E17.trans e18))) (ev_var rfl) (by omega)) H18 (Ex.refl _) _ fun H19 e19 => ⟨rfl, _, rfl, ?_⟩
            have same : decide (r = .non) = decide (c.getD x 0 = c.getD y 0) := by
              rcases sr with ⟨rfl, al⟩ | ⟨s, ne, _, _, _, _, na⟩
              · rw [decide_eq_true ((iff x y hx hy').mpr al)]
                rfl
              · rw [decide_eq_false ne, decide_eq_false fun z => na ((iff x y hx hy').mp z)]
            rw [same, decide_eq_true rfl]
            exact q17 H19 (e18.trans e19)
          · simp at hd
        · rintro H12 σ' H13 e12 ⟨⟨c6, c7, rfl⟩, e13⟩
          have E13 := e11.trans e13
          exact ⟨⟨_, _, _, _, _, _, rfl⟩, (f10.ex E13).mono (by omega), t10.ext E13⟩
    · rintro H2 σ' H3 e2 ⟨⟨b2, b3, b4, b5, b6, b7, rfl⟩, f3, t3⟩
      exact kk H3
end
end K33
set_option autoImplicit false
set_option Elab.async false
set_option linter.all false
set_option maxRecDepth 100000
set_option maxHeartbeats 4000000
/-! The end of the row: the law called by the claim's caller, where no text is under way, with one table of code objects. -/
namespace K33
open PySem PySem.Spec PyProof.Rows L2 Evl
/-- what is tracked at the start: the table at T, the script at a where the written part has it not -/
def startH (K : PySem.W.Frag) (T a : Addr) (o : Obj) (xs : List L2.V) : Hp := fun b => if b = T then some (.tbl #[]) else if b = a then (if (K.lookup a).isSome then none else some (.frz o (.lst xs))) else none
theorem law_end {P : Program} {w : World} {K : PySem.W.Frag} {mg mb : Str → Option Value} {fa a c T : Addr} {s₁ : Shared} {vs : List Value} {ns : List Int}
    (KX : K.In s₁.heap) (hns : s₁.heap.Ns mainGlobals mg) (hb : s₁.heap.Ns builtinsNs mb) (hbb : ∀ x : Str, x ≠ "__name__" → mb x = bootBuiltins x) (hlim : s₁.heap.NoLimit) (hg : s₁.gens = #[])
    (code : PySem.W.CodeHd s₁.heap c T) (tab : s₁.heap.get? T = some { cls := .none, data := .fields #[] }) (tabK : K.lookup T = none)
    (hbm : ∃ (bm : Addr) (ob : Obj), mg "__builtins__" = some (.ref bm) ∧ bm ≠ builtinsNs ∧ s₁.heap.get? bm = some ob ∧ ob.cls = .type "module" ∧ ob.dict = some builtinsNs ∧ ob.data = .plain)
    (ha : s₁.heap.get? a = some { cls := .type "list", data := .seq vs.toArray }) (hi : IntsAre vs ns) (hl : ns.length ≤ sizeLine)
    (F : ∀ (base : Heap) (H : Hp), K.In base → base.Ns mainGlobals mg → LamX.TabB base mg c T → H T = some (.tbl #[]) → SqL K H a (ns.map V.int) → Env0 P w K mg base callerA [] s₁ H →
      codeAny (model P w) callerA (.call (.ref fa) ⟨[.ref a], []⟩) (CR CX0 [] P w H s₁ (fun v _ => v = .bl true) fun _ _ _ => False) s₁) :
    codeAny (model P w) callerA (.call (.ref fa) ⟨[.ref a], []⟩) (fun r s' => r = .ok (.ret (.bool true)) ∧ OldK s₁.heap s'.heap ∧ s'.os = s₁.os ∧ AllBare s'.gens) s₁ := by
  have rel := vals_ints hi
  have aT : a ≠ T := fun z => by
    rw [z, tab] at ha
    cases ha
  obtain ⟨H, hH⟩ : ∃ H, H = startH K T a { cls := .type "list", data := .seq vs.toArray } (ns.map V.int) := ⟨_, rfl⟩
  have atT : H T = some (.tbl #[]) := by rw [hH]; exact if_pos rfl
  have atA : H a = if (K.lookup a).isSome then none else some (.frz { cls := .type "list", data := .seq vs.toArray } (.lst (ns.map V.int))) := by
    rw [hH]
    exact (if_neg aT).trans (if_pos rfl)
  have off : ∀ b, b ≠ T → b ≠ a → H b = none := fun b h1 h2 => by
    rw [hH]
    exact (if_neg h1).trans (if_neg h2)
  have none_K : ∀ b o, K.lookup b = some o → H b = none := fun b o e => by
    by_cases h1 : b = T
    · rw [h1, tabK] at e
      cases e
    · by_cases h2 : b = a
      · rw [h2] at e ⊢
        rw [atA, e]
        rfl
      · exact off b h1 h2
  -- an object that is neither a list nor an empty record is not tracked
  have none_of : ∀ b o, s₁.heap.get? b = some o → o.data ≠ .fields #[] → (∀ its n, o.data ≠ .seq its n) → H b = none := fun b o e h1 h2 => off b
    (fun z => by
      rw [z, tab] at e
      cases e
      exact h1 rfl)
    (fun z => by
      rw [z, ha] at e
      cases e
      exact h2 _ _ rfl)
  have ok : HOk P w H s₁.heap := fun b u e => by
    by_cases h1 : b = T
    · rw [h1, atT] at e
      cases e
      rw [h1]
      exact tab
    · by_cases h2 : b = a
      · rw [h2, atA] at e
        split at e
        · cases e
        · cases e
          rw [h2]
          exact ⟨ha, by rw [List.length_map]; exact hl, vs, _, rel, ha⟩
      · rw [off b h1 h2] at e
        cases e
  have script : SqL K H a (ns.map V.int) := by
    cases q : K.lookup a with
    | none =>
      rw [q] at atA
      exact .inl (.inr ⟨_, atA⟩)
    | some o =>
      have e := KX a o q
      rw [ha] at e
      cases e
      exact .inr ⟨_, vs.toArray, _, q, rfl, rfl, rfl, by rw [List.size_toArray, hi.length]; exact hl, by simpa using rel⟩
  have dict : ∀ {b : Addr} {m : Str → Option Value}, s₁.heap.Ns b m → (hidT s₁.heap H).Ns b m := fun {b m} n => by
    obtain ⟨o, es, ep, e, d, r⟩ := n
    exact ⟨o, es, ep, hidT_get e (none_of b o e (by rw [d]; exact fun z => nomatch z) fun its n => by rw [d]; exact fun z => nomatch z), d, r⟩
  have kin : K.In (hidT s₁.heap H) := fun b o e => hidT_get (KX b o e) (none_K b o e)
  have mod : L2.Mod K mg (hidT s₁.heap H) := ⟨kin, dict hns, ⟨mb, dict hb, hbb⟩, by
    obtain ⟨mc, h1, h2⟩ := hlim
    exact ⟨mc, dict h1, h2⟩⟩
  have env : Env0 P w K mg (hidT s₁.heap H) callerA [] s₁ H := ⟨rfl, mod, fun b o e => of_hidT e, Nat.le_of_eq (hidT_size _ _), trivial, (fun b z => absurd z List.not_mem_nil), ok, AllBare.of_eq hg⟩
  have keep_code : PySem.W.CodeHd (hidT s₁.heap H) c T := by
    obtain ⟨o, us, file, tf, flags, tg, inF, text, tt, e1, r1, r2, r3, r⟩ := id code
    refine ⟨o, us, file, tf, flags, tg, inF, text, tt, hidT_get e1 (none_of c o e1 (fun z => ?_) fun its n => by rw [r2]; exact fun z => nomatch z), r1, r2, r3, r⟩
    rw [r2] at z
    cases z
    simp at r3
  have table : LamX.TabB (hidT s₁.heap H) mg c T := by
    refine ⟨keep_code, ?_, fun z => ?_⟩
    · obtain ⟨bm, ob, b1, b2, b3, b4, b5, b6⟩ := hbm
      refine ⟨bm, ob, b1, b2, fun z => ?_, fun z => ?_, hidT_get b3 (none_of bm ob b3 (by rw [b6]; exact fun z => nomatch z) fun its n => by rw [b6]; exact fun z => nomatch z), b4, b5, b6⟩
      · obtain ⟨o, es, ep, e, d, _⟩ := hns
        rw [z, e] at b3
        cases b3
        rw [d] at b6
        cases b6
      · rw [z, tab] at b3
        cases b3
        cases b6
    · obtain ⟨o, es, ep, e, d, _⟩ := hns
      rw [z, tab] at e
      cases e
      cases d
  refine codeAny_mono (F (hidT s₁.heap H) H kin (dict hns) table atT script env) fun r s' out => ?_
  rcases r with er | (_ | _ | _ | u)
  · exact False.elim out
  · exact False.elim out
  · exact False.elim out
  · exact False.elim out
  · obtain ⟨v, H', os, bare, un, ok', rv, q⟩ := out
    subst q
    obtain rfl : u = Value.bool true := rv
    obtain ⟨more, grown⟩ := un.tbls T #[] atT
    have now : s'.heap.get? T = some { cls := .none, data := .fields (#[] ++ more) } := ok' T _ grown
    have kept : ∀ b o, b ≠ T → s₁.heap.get? b = some o → s'.heap.get? b = some o := fun b o nb e => by
      cases q : H b with
      | none => exact un.keep b o e q (fun z => nomatch z) (fun z => nomatch z)
      | some x =>
        have hba : b = a := by
          by_cases h : b = a
          · exact h
          · rw [off b nb h] at q
            cases q
        rw [hba, atA] at q
        split at q
        · cases q
        · cases q
          have z := un.frzs a _ _ (by rw [atA, if_neg (by assumption)])
          obtain ⟨e2, _⟩ := ok' a _ z
          rw [hba] at e ⊢
          rw [ha] at e
          cases e
          exact e2
    refine ⟨rfl, ⟨fun b o e => ?_, fun b o e => ?_⟩, os, bare⟩
    · by_cases h : b = T
      · rw [h] at e ⊢
        rw [tab] at e
        cases e
        exact .inr (.inl ⟨(code.tab tab).isCodeTable, rfl, #[], more, rfl, now⟩)
      · exact .inl (kept b o h e)
    · by_cases h : b = T
      · rw [h]
        exact ⟨_, now⟩
      · exact ⟨o, kept b o h e⟩
end K33
set_option autoImplicit false
set_option Elab.async false
set_option linter.all false
set_option maxRecDepth 100000
set_option maxHeartbeats 4000000
/-! All the defs' promises, from what the module holds. -/
namespace K33
open PySem PySem.Spec PyProof.Rows L2 Evl
/-- the module's defs stand as they are written -/
structure Defs (K : PySem.W.Frag) (mg : Str → Option Value) (C Cp CN : Addr) : Prop where
  i_NoWorld : InitX K CN "NoWorld.__init__" st_NoWorld___init__ ["self", "world"]
  i_WebView : InitAt K mg "WebView" C "WebView.__init__" st_WebView___init__ ["self", "web"]
  m_led_rows : MethAt K C "led_rows" "WebView.led_rows" st_WebView_led_rows ["self", "pairs"]
  m_led_from : MethAt K C "led_from" "WebView.led_from" st_WebView_led_from ["self", "hand", "world"]
  m_has_letter : MethAt K C "has_letter" "WebView.has_letter" st_WebView_has_letter ["self", "word", "world"]
  d_called_anew : DefAt K mg "called_anew" st_called_anew ["web", "kept"]
  d_step_truths : DefAt K mg "step_truths" st_step_truths ["web", "word", "hand", "inner"]
  d_joined_truths : DefAt K mg "joined_truths" st_joined_truths ["web", "word", "some"]
  d_truths_in : DefAt K mg "truths_in" st_truths_in ["web", "saying"]
  d_need_world : DefAt K mg "need_world" st_need_world ["web", "world"]
  d_worlds_reached : DefAt K mg "worlds_reached" st_worlds_reached ["web", "world"]
  d_holds_at : DefAt K mg "holds_at" st_holds_at ["web", "world", "saying"]
  d_numbered : DefAt K mg "numbered" st_numbered ["keys"]
  d_letters_at : DefAt K mg "letters_at" st_letters_at ["web", "world"]
  d_classes_led : DefAt K mg "classes_led" st_classes_led ["view", "hands", "classes", "world"]
  d_next_round : DefAt K mg "next_round" st_next_round ["web", "classes"]
  d_class_rounds : DefAt K mg "class_rounds" st_class_rounds ["web"]
  d_moved_pairs : DefAt K mg "moved_pairs" st_moved_pairs ["pairs", "by"]
  d_joined_named : DefAt K mg "joined_named" st_joined_named ["one", "other"]
  d_both_webs : DefAt K mg "both_webs" st_both_webs ["web", "other"]
  d_need_both : DefAt K mg "need_both" st_need_both ["web", "world", "other", "second"]
  d_pair_paper : DefAt K mg "pair_paper" st_pair_paper ["web", "world", "other", "second"]
  i_Parter : InitAt K mg "Parter" Cp "Parter.__init__" st_Parter___init__ ["self", "web"]
  m_round_of : MethAt K Cp "round_of" "Parter.round_of" st_Parter_round_of ["self", "one", "other"]
  m_by_letter : MethAt K Cp "by_letter" "Parter.by_letter" st_Parter_by_letter ["self", "one", "other"]
  m_unled : MethAt K Cp "unled" "Parter.unled" st_Parter_unled ["self", "classes", "one", "other"]
  m_may_part : MethAt K Cp "may_part" "Parter.may_part" st_Parter_may_part ["self", "hand", "end", "ends"]
  m_parting : MethAt K Cp "parting" "Parter.parting" st_Parter_parting ["self", "one", "other"]
  d_parting_saying : DefAt K mg "parting_saying" st_parting_saying ["web", "world", "other", "second"]
  d_reached_web : DefAt K mg "reached_web" st_reached_web ["web", "world"]
  d_is_word : DefAt K mg "is_word" st_is_word ["thing"]
  d_are_sayings : DefAt K mg "are_sayings" st_are_sayings ["thing", "is_one"]
  d_is_made : DefAt K mg "is_made" st_is_made ["thing", "is_one"]
  d_is_plain_saying : DefAt K mg "is_plain_saying" st_is_plain_saying ["thing"]
  d_inner_sayings : DefAt K mg "inner_sayings" st_inner_sayings ["saying"]
  d_made_anew : DefAt K mg "made_anew" st_made_anew ["saying", "inner"]
  d_in_few_words : DefAt K mg "in_few_words" st_in_few_words ["saying"]
  d_pushed : DefAt K mg "pushed" st_pushed ["saying", "is_so"]
  d_pushed_in : DefAt K mg "pushed_in" st_pushed_in ["saying"]
  d__law_feed : DefAt K mg "_law_feed" st__law_feed ["_law_script"]
  d__law_draw : DefAt K mg "_law_draw" st__law_draw ["_law_feed_here", "_law_many"]
  d__law_net : DefAt K mg "_law_net" st__law_net ["_law_many", "_law_by_hand", "_law_by_word"]
  d__law_marks : DefAt K mg "_law_marks" st__law_marks ["_law_feed_here", "_law_many"]
  d__law_any_net : DefAt K mg "_law_any_net" st__law_any_net ["_law_feed_here", "_law_most"]
  d__law_twin_net : DefAt K mg "_law_twin_net" st__law_twin_net ["_law_feed_here", "_law_net_here"]
  d__law_told : DefAt K mg "_law_told" st__law_told ["_law_ask"]
  d__law_parts : DefAt K mg "_law_parts" st__law_parts ["_law_net_here", "_law_x", "_law_other", "_law_y", "_law_said"]
  d__law_right : DefAt K mg "_law_right" st__law_right ["_law_net_here", "_law_other"]
theorem law_all {P : Program} {w : World} {K : PySem.W.Frag} {mg : Str → Option Value} {base : Heap} {C Cp CN CB c T f : Addr} {fd : FuncData} (B : Blt mg) (CS : Cst K w mg) (VC : ViewC K C) (PC : ParterC K Cp) (NW : NoW K mg CN CB) (TC : ToldC K mg CN) (D : Defs K mg C Cp CN)
    (LR : LamAt K mg base "_law_refused_right" st__law_refused_right ["_law_net_here", "_law_other"] c T) (FL : Fun K "law" "law" st_law f fd) : FnG P w K mg base 128 f fd ["_law_script"] (sp_law K T) := by
  have g_letters := has_letters_at (P := P) (w := w) (base := base) D.d_letters_at B
  have g_inner := has_inner_sayings (P := P) (w := w) (base := base) D.d_inner_sayings B CS
  have g_anew := has_made_anew (P := P) (w := w) (base := base) D.d_made_anew B CS
  have g_few := has_few D.d_in_few_words B g_inner g_anew
  have g_pushed := has_pushed (P := P) (w := w) (base := base) D.d_pushed B CS
  have g_pushedin := has_pushed_in D.d_pushed_in (g_pushed 20)
  have g_word := has_is_word (P := P) (w := w) (base := base) D.d_is_word B CS
  have g_plain := has_plain D.d_is_plain_saying D.d_are_sayings D.d_is_made B CS g_word
  have g_ledrows := has_led_rows (P := P) (w := w) (base := base) (mg := mg) D.m_led_rows B
  have g_ledfrom := has_led_from (P := P) (w := w) (base := base) (mg := mg) D.m_led_from VC
  have g_hasletter := has_has_letter (P := P) (w := w) (base := base) (mg := mg) D.m_has_letter VC
  have g_view := has_view D.i_WebView VC g_ledrows
  have g_step := has_step_truths D.d_step_truths B VC g_view g_ledfrom
  have g_truths := has_truths D.d_truths_in D.d_joined_truths B VC g_view g_hasletter g_step
  have g_called := has_anew (P := P) (w := w) (base := base) D.d_called_anew B
  have g_reached := has_reached D.d_worlds_reached B VC g_view g_ledfrom
  have g_need := has_need (P := P) (w := w) (base := base) D.d_need_world
  have g_holds := has_holds D.d_holds_at (n := 60) (j := 124) (by omega) g_need g_reached g_called (g_truths 60)
  have g_rweb := has_rweb D.d_reached_web g_need g_reached g_called
  have g_numbered := has_numbered (P := P) (w := w) (base := base) D.d_numbered B
  have g_led := has_led D.d_classes_led B VC g_ledfrom
  have g_next := has_next D.d_next_round B VC g_view g_led g_numbered
  have g_rounds := has_rounds D.d_class_rounds B g_next g_numbered g_letters
  have g_moved := has_moved (P := P) (w := w) (base := base) D.d_moved_pairs B
  have g_joined := has_joined (P := P) (w := w) (base := base) D.d_joined_named B
  have g_both := has_both D.d_both_webs B g_moved g_joined
  have g_needB := has_needB D.d_need_both g_need
  have g_paper := has_paper D.d_pair_paper B g_needB g_both g_rounds
  have g_parter := has_parter D.i_Parter PC g_view g_rounds
  have g_roundof := has_roundof (P := P) (w := w) (base := base) (mg := mg) (C := C) D.m_round_of B PC
  have g_byletter := has_byletter (C := C) D.m_by_letter B PC g_letters
  have g_unled := has_unled D.m_unled B VC PC g_ledfrom
  have g_parting := has_parting D.m_may_part D.m_parting B VC PC g_roundof g_byletter g_unled g_ledfrom 6 (by omega)
  have g_psaying := has_psaying D.d_parting_saying PC g_needB g_both g_parter g_roundof g_parting
  have g_parts := has_lparts D.d__law_parts B (g_plain 20) g_pushedin (g_few 20) g_holds g_rweb
  have g_right := has_lright D.d__law_right B g_psaying g_paper g_parts
  have g_feed := has_lfeed (P := P) (w := w) (base := base) D.d__law_feed B
  have g_draw := has_ldraw (P := P) (w := w) (base := base) D.d__law_draw B
  have g_net := has_lnet (P := P) (w := w) (base := base) D.d__law_net B
  have g_marks := has_lmarks D.d__law_marks B g_draw
  have g_any := has_lany D.d__law_any_net B g_draw g_net g_marks
  have g_twin := has_ltwin D.d__law_twin_net B g_draw g_net
  have x_now := has_now (P := P) (w := w) (base := base) (mg := mg) D.i_NoWorld NW
  have x_need := has_needX D.d_need_world NW x_now
  have x_both := has_needBX D.d_need_both g_need x_need
  have x_paper := has_paperX D.d_pair_paper x_both
  have x_psay := has_psayX D.d_parting_saying x_both
  have g_refused := has_refR LR B TC D.d__law_told x_paper x_psay
  exact fn_law FL B g_feed g_any g_twin g_right g_refused g_rounds g_psaying
end K33
set_option autoImplicit false
set_option Elab.async false
set_option linter.all false
set_option maxRecDepth 100000
set_option maxHeartbeats 4000000
/-! Each def from the facts of the written part; the end of the row. -/
namespace K33
open PySem PySem.Spec PyProof.Rows L2 Evl
section
variable {h : Heap} {K : PySem.W.Frag} {mg : Str → Option Value} {f C : Addr} {oc kV doc pm cdv ct : Value} {od an : Option Addr} {osl : Array (Option Value)}
theorem at_NoWorld___init__ (_ : K.In h) (_ : mg "NoWorld" = some (.ref C)) (a : PySem.W.findIn K (.ref C) "__init__" = some (some (.ref f))) (i : PySem.W.typeIn K (.ref f) = some (.type "function")) (l : K.lookup f = some ⟨oc, od, .func (PySem.W.fnOf "__init__" "NoWorld.__init__" (defArgs st_NoWorld___init__) (defBody st_NoWorld___init__) (defScope st_NoWorld___init__) .none kV doc pm an cdv ct), osl⟩) (c : PySem.W.codeIn K cdv "NoWorld.__init__" = true) (k : PySem.W.keepIn K (.ref f) = true) :
    InitX K C "NoWorld.__init__" st_NoWorld___init__ ["self", "world"] := ⟨f, _, fun_mk l c k, a, i, (fun_mk (st := st_NoWorld___init__) l c k).binds (ps := ["self", "world"]) fun _ _ _ _ _ _ us hl => match us, hl with | [_, _], _ => rfl⟩
theorem at_WebView___init__ (_ : K.In h) (gC : mg "WebView" = some (.ref C)) (m : PySem.W.makesIn K C = true) (a : PySem.W.findIn K (.ref C) "__init__" = some (some (.ref f))) (i : PySem.W.isFn K (.ref f) = true) (kC : PySem.W.keepIn K (.ref C) = true) (l : K.lookup f = some ⟨oc, od, .func (PySem.W.fnOf "__init__" "WebView.__init__" (defArgs st_WebView___init__) (defBody st_WebView___init__) (defScope st_WebView___init__) .none kV doc pm an cdv ct), osl⟩) (c : PySem.W.codeIn K cdv "WebView.__init__" = true) (k : PySem.W.keepIn K (.ref f) = true) :
    InitAt K mg "WebView" C "WebView.__init__" st_WebView___init__ ["self", "web"] := ⟨f, _, fun_mk l c k, ⟨m, a, i, kC⟩, gC, (fun_mk (st := st_WebView___init__) l c k).binds (ps := ["self", "web"]) fun _ _ _ _ _ _ us hl => match us, hl with | [_, _], _ => rfl⟩
theorem at_WebView_led_rows (_ : K.In h) (_ : mg "WebView" = some (.ref C)) (a : PySem.W.findIn K (.ref C) "led_rows" = some (some (.ref f))) (i : PySem.W.isFn K (.ref f) = true) (l : K.lookup f = some ⟨oc, od, .func (PySem.W.fnOf "led_rows" "WebView.led_rows" (defArgs st_WebView_led_rows) (defBody st_WebView_led_rows) (defScope st_WebView_led_rows) .none kV doc pm an cdv ct), osl⟩) (c : PySem.W.codeIn K cdv "WebView.led_rows" = true) (k : PySem.W.keepIn K (.ref f) = true) :
    MethAt K C "led_rows" "WebView.led_rows" st_WebView_led_rows ["self", "pairs"] := ⟨f, _, fun_mk l c k, ⟨a, i, k⟩, (fun_mk (st := st_WebView_led_rows) l c k).binds (ps := ["self", "pairs"]) fun _ _ _ _ _ _ us hl => match us, hl with | [_, _], _ => rfl⟩
theorem at_WebView_led_from (_ : K.In h) (_ : mg "WebView" = some (.ref C)) (a : PySem.W.findIn K (.ref C) "led_from" = some (some (.ref f))) (i : PySem.W.isFn K (.ref f) = true) (l : K.lookup f = some ⟨oc, od, .func (PySem.W.fnOf "led_from" "WebView.led_from" (defArgs st_WebView_led_from) (defBody st_WebView_led_from) (defScope st_WebView_led_from) .none kV doc pm an cdv ct), osl⟩) (c : PySem.W.codeIn K cdv "WebView.led_from" = true) (k : PySem.W.keepIn K (.ref f) = true) :
    MethAt K C "led_from" "WebView.led_from" st_WebView_led_from ["self", "hand", "world"] := ⟨f, _, fun_mk l c k, ⟨a, i, k⟩, (fun_mk (st := st_WebView_led_from) l c k).binds (ps := ["self", "hand", "world"]) fun _ _ _ _ _ _ us hl => match us, hl with | [_, _, _], _ => rfl⟩
theorem at_WebView_has_letter (_ : K.In h) (_ : mg "WebView" = some (.ref C)) (a : PySem.W.findIn K (.ref C) "has_letter" = some (some (.ref f))) (i : PySem.W.isFn K (.ref f) = true) (l : K.lookup f = some ⟨oc, od, .func (PySem.W.fnOf "has_letter" "WebView.has_letter" (defArgs st_WebView_has_letter) (defBody st_WebView_has_letter) (defScope st_WebView_has_letter) .none kV doc pm an cdv ct), osl⟩) (c : PySem.W.codeIn K cdv "WebView.has_letter" = true) (k : PySem.W.keepIn K (.ref f) = true) :
    MethAt K C "has_letter" "WebView.has_letter" st_WebView_has_letter ["self", "word", "world"] := ⟨f, _, fun_mk l c k, ⟨a, i, k⟩, (fun_mk (st := st_WebView_has_letter) l c k).binds (ps := ["self", "word", "world"]) fun _ _ _ _ _ _ us hl => match us, hl with | [_, _, _], _ => rfl⟩
theorem at_called_anew (X : K.In h) (G : h.Ns mainGlobals mg) (a : PySem.W.nsIn K mainGlobals "called_anew" = some (some (.ref f))) (l : K.lookup f = some ⟨oc, od, .func (PySem.W.fnOf "called_anew" "called_anew" (defArgs st_called_anew) (defBody st_called_anew) (defScope st_called_anew) .none kV doc pm an cdv ct), osl⟩) (c : PySem.W.codeIn K cdv "called_anew" = true) (k : PySem.W.keepIn K (.ref f) = true) :
    DefAt K mg "called_anew" st_called_anew ["web", "kept"] := ⟨f, _, fun_mk l c k, PySem.W.mg_of X G a, (fun_mk (st := st_called_anew) l c k).binds (ps := ["web", "kept"]) fun _ _ _ _ _ _ us hl => match us, hl with | [_, _], _ => rfl⟩
theorem at_step_truths (X : K.In h) (G : h.Ns mainGlobals mg) (a : PySem.W.nsIn K mainGlobals "step_truths" = some (some (.ref f))) (l : K.lookup f = some ⟨oc, od, .func (PySem.W.fnOf "step_truths" "step_truths" (defArgs st_step_truths) (defBody st_step_truths) (defScope st_step_truths) .none kV doc pm an cdv ct), osl⟩) (c : PySem.W.codeIn K cdv "step_truths" = true) (k : PySem.W.keepIn K (.ref f) = true) :
    DefAt K mg "step_truths" st_step_truths ["web", "word", "hand", "inner"] := ⟨f, _, fun_mk l c k, PySem.W.mg_of X G a, (fun_mk (st := st_step_truths) l c k).binds (ps := ["web", "word", "hand", "inner"]) fun _ _ _ _ _ _ us hl => match us, hl with | [_, _, _, _], _ => rfl⟩
theorem at_joined_truths (X : K.In h) (G : h.Ns mainGlobals mg) (a : PySem.W.nsIn K mainGlobals "joined_truths" = some (some (.ref f))) (l : K.lookup f = some ⟨oc, od, .func (PySem.W.fnOf "joined_truths" "joined_truths" (defArgs st_joined_truths) (defBody st_joined_truths) (defScope st_joined_truths) .none kV doc pm an cdv ct), osl⟩) (c : PySem.W.codeIn K cdv "joined_truths" = true) (k : PySem.W.keepIn K (.ref f) = true) :
    DefAt K mg "joined_truths" st_joined_truths ["web", "word", "some"] := ⟨f, _, fun_mk l c k, PySem.W.mg_of X G a, (fun_mk (st := st_joined_truths) l c k).binds (ps := ["web", "word", "some"]) fun _ _ _ _ _ _ us hl => match us, hl with | [_, _, _], _ => rfl⟩
theorem at_truths_in (X : K.In h) (G : h.Ns mainGlobals mg) (a : PySem.W.nsIn K mainGlobals "truths_in" = some (some (.ref f))) (l : K.lookup f = some ⟨oc, od, .func (PySem.W.fnOf "truths_in" "truths_in" (defArgs st_truths_in) (defBody st_truths_in) (defScope st_truths_in) .none kV doc pm an cdv ct), osl⟩) (c : PySem.W.codeIn K cdv "truths_in" = true) (k : PySem.W.keepIn K (.ref f) = true) :
    DefAt K mg "truths_in" st_truths_in ["web", "saying"] := ⟨f, _, fun_mk l c k, PySem.W.mg_of X G a, (fun_mk (st := st_truths_in) l c k).binds (ps := ["web", "saying"]) fun _ _ _ _ _ _ us hl => match us, hl with | [_, _], _ => rfl⟩
theorem at_need_world (X : K.In h) (G : h.Ns mainGlobals mg) (a : PySem.W.nsIn K mainGlobals "need_world" = some (some (.ref f))) (l : K.lookup f = some ⟨oc, od, .func (PySem.W.fnOf "need_world" "need_world" (defArgs st_need_world) (defBody st_need_world) (defScope st_need_world) .none kV doc pm an cdv ct), osl⟩) (c : PySem.W.codeIn K cdv "need_world" = true) (k : PySem.W.keepIn K (.ref f) = true) :
    DefAt K mg "need_world" st_need_world ["web", "world"] := ⟨f, _, fun_mk l c k, PySem.W.mg_of X G a, (fun_mk (st := st_need_world) l c k).binds (ps := ["web", "world"]) fun _ _ _ _ _ _ us hl => match us, hl with | [_, _], _ => rfl⟩
theorem at_worlds_reached (X : K.In h) (G : h.Ns mainGlobals mg) (a : PySem.W.nsIn K mainGlobals "worlds_reached" = some (some (.ref f))) (l : K.lookup f = some ⟨oc, od, .func (PySem.W.fnOf "worlds_reached" "worlds_reached" (defArgs st_worlds_reached) (defBody st_worlds_reached) (defScope st_worlds_reached) .none kV doc pm an cdv ct), osl⟩) (c : PySem.W.codeIn K cdv "worlds_reached" = true) (k : PySem.W.keepIn K (.ref f) = true) :
    DefAt K mg "worlds_reached" st_worlds_reached ["web", "world"] := ⟨f, _, fun_mk l c k, PySem.W.mg_of X G a, (fun_mk (st := st_worlds_reached) l c k).binds (ps := ["web", "world"]) fun _ _ _ _ _ _ us hl => match us, hl with | [_, _], _ => rfl⟩
theorem at_holds_at (X : K.In h) (G : h.Ns mainGlobals mg) (a : PySem.W.nsIn K mainGlobals "holds_at" = some (some (.ref f))) (l : K.lookup f = some ⟨oc, od, .func (PySem.W.fnOf "holds_at" "holds_at" (defArgs st_holds_at) (defBody st_holds_at) (defScope st_holds_at) .none kV doc pm an cdv ct), osl⟩) (c : PySem.W.codeIn K cdv "holds_at" = true) (k : PySem.W.keepIn K (.ref f) = true) :
    DefAt K mg "holds_at" st_holds_at ["web", "world", "saying"] := ⟨f, _, fun_mk l c k, PySem.W.mg_of X G a, (fun_mk (st := st_holds_at) l c k).binds (ps := ["web", "world", "saying"]) fun _ _ _ _ _ _ us hl => match us, hl with | [_, _, _], _ => rfl⟩
theorem at_numbered (X : K.In h) (G : h.Ns mainGlobals mg) (a : PySem.W.nsIn K mainGlobals "numbered" = some (some (.ref f))) (l : K.lookup f = some ⟨oc, od, .func (PySem.W.fnOf "numbered" "numbered" (defArgs st_numbered) (defBody st_numbered) (defScope st_numbered) .none kV doc pm an cdv ct), osl⟩) (c : PySem.W.codeIn K cdv "numbered" = true) (k : PySem.W.keepIn K (.ref f) = true) :
    DefAt K mg "numbered" st_numbered ["keys"] := ⟨f, _, fun_mk l c k, PySem.W.mg_of X G a, (fun_mk (st := st_numbered) l c k).binds (ps := ["keys"]) fun _ _ _ _ _ _ us hl => match us, hl with | [_], _ => rfl⟩
theorem at_letters_at (X : K.In h) (G : h.Ns mainGlobals mg) (a : PySem.W.nsIn K mainGlobals "letters_at" = some (some (.ref f))) (l : K.lookup f = some ⟨oc, od, .func (PySem.W.fnOf "letters_at" "letters_at" (defArgs st_letters_at) (defBody st_letters_at) (defScope st_letters_at) .none kV doc pm an cdv ct), osl⟩) (c : PySem.W.codeIn K cdv "letters_at" = true) (k : PySem.W.keepIn K (.ref f) = true) :
    DefAt K mg "letters_at" st_letters_at ["web", "world"] := ⟨f, _, fun_mk l c k, PySem.W.mg_of X G a, (fun_mk (st := st_letters_at) l c k).binds (ps := ["web", "world"]) fun _ _ _ _ _ _ us hl => match us, hl with | [_, _], _ => rfl⟩
theorem at_classes_led (X : K.In h) (G : h.Ns mainGlobals mg) (a : PySem.W.nsIn K mainGlobals "classes_led" = some (some (.ref f))) (l : K.lookup f = some ⟨oc, od, .func (PySem.W.fnOf "classes_led" "classes_led" (defArgs st_classes_led) (defBody st_classes_led) (defScope st_classes_led) .none kV doc pm an cdv ct), osl⟩) (c : PySem.W.codeIn K cdv "classes_led" = true) (k : PySem.W.keepIn K (.ref f) = true) :
    DefAt K mg "classes_led" st_classes_led ["view", "hands", "classes", "world"] := ⟨f, _, fun_mk l c k, PySem.W.mg_of X G a, (fun_mk (st := st_classes_led) l c k).binds (ps := ["view", "hands", "classes", "world"]) fun _ _ _ _ _ _ us hl => match us, hl with | [_, _, _, _], _ => rfl⟩
theorem at_next_round (X : K.In h) (G : h.Ns mainGlobals mg) (a : PySem.W.nsIn K mainGlobals "next_round" = some (some (.ref f))) (l : K.lookup f = some ⟨oc, od, .func (PySem.W.fnOf "next_round" "next_round" (defArgs st_next_round) (defBody st_next_round) (defScope st_next_round) .none kV doc pm an cdv ct), osl⟩) (c : PySem.W.codeIn K cdv "next_round" = true) (k : PySem.W.keepIn K (.ref f) = true) :
    DefAt K mg "next_round" st_next_round ["web", "classes"] := ⟨f, _, fun_mk l c k, PySem.W.mg_of X G a, (fun_mk (st := st_next_round) l c k).binds (ps := ["web", "classes"]) fun _ _ _ _ _ _ us hl => match us, hl with | [_, _], _ => rfl⟩
theorem at_class_rounds (X : K.In h) (G : h.Ns mainGlobals mg) (a : PySem.W.nsIn K mainGlobals "class_rounds" = some (some (.ref f))) (l : K.lookup f = some ⟨oc, od, .func (PySem.W.fnOf "class_rounds" "class_rounds" (defArgs st_class_rounds) (defBody st_class_rounds) (defScope st_class_rounds) .none kV doc pm an cdv ct), osl⟩) (c : PySem.W.codeIn K cdv "class_rounds" = true) (k : PySem.W.keepIn K (.ref f) = true) :
    DefAt K mg "class_rounds" st_class_rounds ["web"] := ⟨f, _, fun_mk l c k, PySem.W.mg_of X G a, (fun_mk (st := st_class_rounds) l c k).binds (ps := ["web"]) fun _ _ _ _ _ _ us hl => match us, hl with | [_], _ => rfl⟩
theorem at_moved_pairs (X : K.In h) (G : h.Ns mainGlobals mg) (a : PySem.W.nsIn K mainGlobals "moved_pairs" = some (some (.ref f))) (l : K.lookup f = some ⟨oc, od, .func (PySem.W.fnOf "moved_pairs" "moved_pairs" (defArgs st_moved_pairs) (defBody st_moved_pairs) (defScope st_moved_pairs) .none kV doc pm an cdv ct), osl⟩) (c : PySem.W.codeIn K cdv "moved_pairs" = true) (k : PySem.W.keepIn K (.ref f) = true) :
    DefAt K mg "moved_pairs" st_moved_pairs ["pairs", "by"] := ⟨f, _, fun_mk l c k, PySem.W.mg_of X G a, (fun_mk (st := st_moved_pairs) l c k).binds (ps := ["pairs", "by"]) fun _ _ _ _ _ _ us hl => match us, hl with | [_, _], _ => rfl⟩
theorem at_joined_named (X : K.In h) (G : h.Ns mainGlobals mg) (a : PySem.W.nsIn K mainGlobals "joined_named" = some (some (.ref f))) (l : K.lookup f = some ⟨oc, od, .func (PySem.W.fnOf "joined_named" "joined_named" (defArgs st_joined_named) (defBody st_joined_named) (defScope st_joined_named) .none kV doc pm an cdv ct), osl⟩) (c : PySem.W.codeIn K cdv "joined_named" = true) (k : PySem.W.keepIn K (.ref f) = true) :
    DefAt K mg "joined_named" st_joined_named ["one", "other"] := ⟨f, _, fun_mk l c k, PySem.W.mg_of X G a, (fun_mk (st := st_joined_named) l c k).binds (ps := ["one", "other"]) fun _ _ _ _ _ _ us hl => match us, hl with | [_, _], _ => rfl⟩
theorem at_both_webs (X : K.In h) (G : h.Ns mainGlobals mg) (a : PySem.W.nsIn K mainGlobals "both_webs" = some (some (.ref f))) (l : K.lookup f = some ⟨oc, od, .func (PySem.W.fnOf "both_webs" "both_webs" (defArgs st_both_webs) (defBody st_both_webs) (defScope st_both_webs) .none kV doc pm an cdv ct), osl⟩) (c : PySem.W.codeIn K cdv "both_webs" = true) (k : PySem.W.keepIn K (.ref f) = true) :
    DefAt K mg "both_webs" st_both_webs ["web", "other"] := ⟨f, _, fun_mk l c k, PySem.W.mg_of X G a, (fun_mk (st := st_both_webs) l c k).binds (ps := ["web", "other"]) fun _ _ _ _ _ _ us hl => match us, hl with | [_, _], _ => rfl⟩
theorem at_need_both (X : K.In h) (G : h.Ns mainGlobals mg) (a : PySem.W.nsIn K mainGlobals "need_both" = some (some (.ref f))) (l : K.lookup f = some ⟨oc, od, .func (PySem.W.fnOf "need_both" "need_both" (defArgs st_need_both) (defBody st_need_both) (defScope st_need_both) .none kV doc pm an cdv ct), osl⟩) (c : PySem.W.codeIn K cdv "need_both" = true) (k : PySem.W.keepIn K (.ref f) = true) :
    DefAt K mg "need_both" st_need_both ["web", "world", "other", "second"] := ⟨f, _, fun_mk l c k, PySem.W.mg_of X G a, (fun_mk (st := st_need_both) l c k).binds (ps := ["web", "world", "other", "second"]) fun _ _ _ _ _ _ us hl => match us, hl with | [_, _, _, _], _ => rfl⟩
theorem at_pair_paper (X : K.In h) (G : h.Ns mainGlobals mg) (a : PySem.W.nsIn K mainGlobals "pair_paper" = some (some (.ref f))) (l : K.lookup f = some ⟨oc, od, .func (PySem.W.fnOf "pair_paper" "pair_paper" (defArgs st_pair_paper) (defBody st_pair_paper) (defScope st_pair_paper) .none kV doc pm an cdv ct), osl⟩) (c : PySem.W.codeIn K cdv "pair_paper" = true) (k : PySem.W.keepIn K (.ref f) = true) :
    DefAt K mg "pair_paper" st_pair_paper ["web", "world", "other", "second"] := ⟨f, _, fun_mk l c k, PySem.W.mg_of X G a, (fun_mk (st := st_pair_paper) l c k).binds (ps := ["web", "world", "other", "second"]) fun _ _ _ _ _ _ us hl => match us, hl with | [_, _, _, _], _ => rfl⟩
theorem at_Parter___init__ (_ : K.In h) (gC : mg "Parter" = some (.ref C)) (m : PySem.W.makesIn K C = true) (a : PySem.W.findIn K (.ref C) "__init__" = some (some (.ref f))) (i : PySem.W.isFn K (.ref f) = true) (kC : PySem.W.keepIn K (.ref C) = true) (l : K.lookup f = some ⟨oc, od, .func (PySem.W.fnOf "__init__" "Parter.__init__" (defArgs st_Parter___init__) (defBody st_Parter___init__) (defScope st_Parter___init__) .none kV doc pm an cdv ct), osl⟩) (c : PySem.W.codeIn K cdv "Parter.__init__" = true) (k : PySem.W.keepIn K (.ref f) = true) :
    InitAt K mg "Parter" C "Parter.__init__" st_Parter___init__ ["self", "web"] := ⟨f, _, fun_mk l c k, ⟨m, a, i, kC⟩, gC, (fun_mk (st := st_Parter___init__) l c k).binds (ps := ["self", "web"]) fun _ _ _ _ _ _ us hl => match us, hl with | [_, _], _ => rfl⟩
theorem at_Parter_round_of (_ : K.In h) (_ : mg "Parter" = some (.ref C)) (a : PySem.W.findIn K (.ref C) "round_of" = some (some (.ref f))) (i : PySem.W.isFn K (.ref f) = true) (l : K.lookup f = some ⟨oc, od, .func (PySem.W.fnOf "round_of" "Parter.round_of" (defArgs st_Parter_round_of) (defBody st_Parter_round_of) (defScope st_Parter_round_of) .none kV doc pm an cdv ct), osl⟩) (c : PySem.W.codeIn K cdv "Parter.round_of" = true) (k : PySem.W.keepIn K (.ref f) = true) :
    MethAt K C "round_of" "Parter.round_of" st_Parter_round_of ["self", "one", "other"] := ⟨f, _, fun_mk l c k, ⟨a, i, k⟩, (fun_mk (st := st_Parter_round_of) l c k).binds (ps := ["self", "one", "other"]) fun _ _ _ _ _ _ us hl => match us, hl with | [_, _, _], _ => rfl⟩
theorem at_Parter_by_letter (_ : K.In h) (_ : mg "Parter" = some (.ref C)) (a : PySem.W.findIn K (.ref C) "by_letter" = some (some (.ref f))) (i : PySem.W.isFn K (.ref f) = true) (l : K.lookup f = some ⟨oc, od, .func (PySem.W.fnOf "by_letter" "Parter.by_letter" (defArgs st_Parter_by_letter) (defBody st_Parter_by_letter) (defScope st_Parter_by_letter) .none kV doc pm an cdv ct), osl⟩) (c : PySem.W.codeIn K cdv "Parter.by_letter" = true) (k : PySem.W.keepIn K (.ref f) = true) :
    MethAt K C "by_letter" "Parter.by_letter" st_Parter_by_letter ["self", "one", "other"] := ⟨f, _, fun_mk l c k, ⟨a, i, k⟩, (fun_mk (st := st_Parter_by_letter) l c k).binds (ps := ["self", "one", "other"]) fun _ _ _ _ _ _ us hl => match us, hl with | [_, _, _], _ => rfl⟩
theorem at_Parter_unled (_ : K.In h) (_ : mg "Parter" = some (.ref C)) (a : PySem.W.findIn K (.ref C) "unled" = some (some (.ref f))) (i : PySem.W.isFn K (.ref f) = true) (l : K.lookup f = some ⟨oc, od, .func (PySem.W.fnOf "unled" "Parter.unled" (defArgs st_Parter_unled) (defBody st_Parter_unled) (defScope st_Parter_unled) .none kV doc pm an cdv ct), osl⟩) (c : PySem.W.codeIn K cdv "Parter.unled" = true) (k : PySem.W.keepIn K (.ref f) = true) :
    MethAt K C "unled" "Parter.unled" st_Parter_unled ["self", "classes", "one", "other"] := ⟨f, _, fun_mk l c k, ⟨a, i, k⟩, (fun_mk (st := st_Parter_unled) l c k).binds (ps := ["self", "classes", "one", "other"]) fun _ _ _ _ _ _ us hl => match us, hl with | [_, _, _, _], _ => rfl⟩
theorem at_Parter_may_part (_ : K.In h) (_ : mg "Parter" = some (.ref C)) (a : PySem.W.findIn K (.ref C) "may_part" = some (some (.ref f))) (i : PySem.W.isFn K (.ref f) = true) (l : K.lookup f = some ⟨oc, od, .func (PySem.W.fnOf "may_part" "Parter.may_part" (defArgs st_Parter_may_part) (defBody st_Parter_may_part) (defScope st_Parter_may_part) .none kV doc pm an cdv ct), osl⟩) (c : PySem.W.codeIn K cdv "Parter.may_part" = true) (k : PySem.W.keepIn K (.ref f) = true) :
    MethAt K C "may_part" "Parter.may_part" st_Parter_may_part ["self", "hand", "end", "ends"] := ⟨f, _, fun_mk l c k, ⟨a, i, k⟩, (fun_mk (st := st_Parter_may_part) l c k).binds (ps := ["self", "hand", "end", "ends"]) fun _ _ _ _ _ _ us hl => match us, hl with | [_, _, _, _], _ => rfl⟩
theorem at_Parter_parting (_ : K.In h) (_ : mg "Parter" = some (.ref C)) (a : PySem.W.findIn K (.ref C) "parting" = some (some (.ref f))) (i : PySem.W.isFn K (.ref f) = true) (l : K.lookup f = some ⟨oc, od, .func (PySem.W.fnOf "parting" "Parter.parting" (defArgs st_Parter_parting) (defBody st_Parter_parting) (defScope st_Parter_parting) .none kV doc pm an cdv ct), osl⟩) (c : PySem.W.codeIn K cdv "Parter.parting" = true) (k : PySem.W.keepIn K (.ref f) = true) :
    MethAt K C "parting" "Parter.parting" st_Parter_parting ["self", "one", "other"] := ⟨f, _, fun_mk l c k, ⟨a, i, k⟩, (fun_mk (st := st_Parter_parting) l c k).binds (ps := ["self", "one", "other"]) fun _ _ _ _ _ _ us hl => match us, hl with | [_, _, _], _ => rfl⟩
theorem at_parting_saying (X : K.In h) (G : h.Ns mainGlobals mg) (a : PySem.W.nsIn K mainGlobals "parting_saying" = some (some (.ref f))) (l : K.lookup f = some ⟨oc, od, .func (PySem.W.fnOf "parting_saying" "parting_saying" (defArgs st_parting_saying) (defBody st_parting_saying) (defScope st_parting_saying) .none kV doc pm an cdv ct), osl⟩) (c : PySem.W.codeIn K cdv "parting_saying" = true) (k : PySem.W.keepIn K (.ref f) = true) :
    DefAt K mg "parting_saying" st_parting_saying ["web", "world", "other", "second"] := ⟨f, _, fun_mk l c k, PySem.W.mg_of X G a, (fun_mk (st := st_parting_saying) l c k).binds (ps := ["web", "world", "other", "second"]) fun _ _ _ _ _ _ us hl => match us, hl with | [_, _, _, _], _ => rfl⟩
theorem at_reached_web (X : K.In h) (G : h.Ns mainGlobals mg) (a : PySem.W.nsIn K mainGlobals "reached_web" = some (some (.ref f))) (l : K.lookup f = some ⟨oc, od, .func (PySem.W.fnOf "reached_web" "reached_web" (defArgs st_reached_web) (defBody st_reached_web) (defScope st_reached_web) .none kV doc pm an cdv ct), osl⟩) (c : PySem.W.codeIn K cdv "reached_web" = true) (k : PySem.W.keepIn K (.ref f) = true) :
    DefAt K mg "reached_web" st_reached_web ["web", "world"] := ⟨f, _, fun_mk l c k, PySem.W.mg_of X G a, (fun_mk (st := st_reached_web) l c k).binds (ps := ["web", "world"]) fun _ _ _ _ _ _ us hl => match us, hl with | [_, _], _ => rfl⟩
theorem at_is_word (X : K.In h) (G : h.Ns mainGlobals mg) (a : PySem.W.nsIn K mainGlobals "is_word" = some (some (.ref f))) (l : K.lookup f = some ⟨oc, od, .func (PySem.W.fnOf "is_word" "is_word" (defArgs st_is_word) (defBody st_is_word) (defScope st_is_word) .none kV doc pm an cdv ct), osl⟩) (c : PySem.W.codeIn K cdv "is_word" = true) (k : PySem.W.keepIn K (.ref f) = true) :
    DefAt K mg "is_word" st_is_word ["thing"] := ⟨f, _, fun_mk l c k, PySem.W.mg_of X G a, (fun_mk (st := st_is_word) l c k).binds (ps := ["thing"]) fun _ _ _ _ _ _ us hl => match us, hl with | [_], _ => rfl⟩
theorem at_are_sayings (X : K.In h) (G : h.Ns mainGlobals mg) (a : PySem.W.nsIn K mainGlobals "are_sayings" = some (some (.ref f))) (l : K.lookup f = some ⟨oc, od, .func (PySem.W.fnOf "are_sayings" "are_sayings" (defArgs st_are_sayings) (defBody st_are_sayings) (defScope st_are_sayings) .none kV doc pm an cdv ct), osl⟩) (c : PySem.W.codeIn K cdv "are_sayings" = true) (k : PySem.W.keepIn K (.ref f) = true) :
    DefAt K mg "are_sayings" st_are_sayings ["thing", "is_one"] := ⟨f, _, fun_mk l c k, PySem.W.mg_of X G a, (fun_mk (st := st_are_sayings) l c k).binds (ps := ["thing", "is_one"]) fun _ _ _ _ _ _ us hl => match us, hl with | [_, _], _ => rfl⟩
theorem at_is_made (X : K.In h) (G : h.Ns mainGlobals mg) (a : PySem.W.nsIn K mainGlobals "is_made" = some (some (.ref f))) (l : K.lookup f = some ⟨oc, od, .func (PySem.W.fnOf "is_made" "is_made" (defArgs st_is_made) (defBody st_is_made) (defScope st_is_made) .none kV doc pm an cdv ct), osl⟩) (c : PySem.W.codeIn K cdv "is_made" = true) (k : PySem.W.keepIn K (.ref f) = true) :
    DefAt K mg "is_made" st_is_made ["thing", "is_one"] := ⟨f, _, fun_mk l c k, PySem.W.mg_of X G a, (fun_mk (st := st_is_made) l c k).binds (ps := ["thing", "is_one"]) fun _ _ _ _ _ _ us hl => match us, hl with | [_, _], _ => rfl⟩
theorem at_is_plain_saying (X : K.In h) (G : h.Ns mainGlobals mg) (a : PySem.W.nsIn K mainGlobals "is_plain_saying" = some (some (.ref f))) (l : K.lookup f = some ⟨oc, od, .func (PySem.W.fnOf "is_plain_saying" "is_plain_saying" (defArgs st_is_plain_saying) (defBody st_is_plain_saying) (defScope st_is_plain_saying) .none kV doc pm an cdv ct), osl⟩) (c : PySem.W.codeIn K cdv "is_plain_saying" = true) (k : PySem.W.keepIn K (.ref f) = true) :
    DefAt K mg "is_plain_saying" st_is_plain_saying ["thing"] := ⟨f, _, fun_mk l c k, PySem.W.mg_of X G a, (fun_mk (st := st_is_plain_saying) l c k).binds (ps := ["thing"]) fun _ _ _ _ _ _ us hl => match us, hl with | [_], _ => rfl⟩
theorem at_inner_sayings (X : K.In h) (G : h.Ns mainGlobals mg) (a : PySem.W.nsIn K mainGlobals "inner_sayings" = some (some (.ref f))) (l : K.lookup f = some ⟨oc, od, .func (PySem.W.fnOf "inner_sayings" "inner_sayings" (defArgs st_inner_sayings) (defBody st_inner_sayings) (defScope st_inner_sayings) .none kV doc pm an cdv ct), osl⟩) (c : PySem.W.codeIn K cdv "inner_sayings" = true) (k : PySem.W.keepIn K (.ref f) = true) :
    DefAt K mg "inner_sayings" st_inner_sayings ["saying"] := ⟨f, _, fun_mk l c k, PySem.W.mg_of X G a, (fun_mk (st := st_inner_sayings) l c k).binds (ps := ["saying"]) fun _ _ _ _ _ _ us hl => match us, hl with | [_], _ => rfl⟩
theorem at_made_anew (X : K.In h) (G : h.Ns mainGlobals mg) (a : PySem.W.nsIn K mainGlobals "made_anew" = some (some (.ref f))) (l : K.lookup f = some ⟨oc, od, .func (PySem.W.fnOf "made_anew" "made_anew" (defArgs st_made_anew) (defBody st_made_anew) (defScope st_made_anew) .none kV doc pm an cdv ct), osl⟩) (c : PySem.W.codeIn K cdv "made_anew" = true) (k : PySem.W.keepIn K (.ref f) = true) :
    DefAt K mg "made_anew" st_made_anew ["saying", "inner"] := ⟨f, _, fun_mk l c k, PySem.W.mg_of X G a, (fun_mk (st := st_made_anew) l c k).binds (ps := ["saying", "inner"]) fun _ _ _ _ _ _ us hl => match us, hl with | [_, _], _ => rfl⟩
theorem at_in_few_words (X : K.In h) (G : h.Ns mainGlobals mg) (a : PySem.W.nsIn K mainGlobals "in_few_words" = some (some (.ref f))) (l : K.lookup f = some ⟨oc, od, .func (PySem.W.fnOf "in_few_words" "in_few_words" (defArgs st_in_few_words) (defBody st_in_few_words) (defScope st_in_few_words) .none kV doc pm an cdv ct), osl⟩) (c : PySem.W.codeIn K cdv "in_few_words" = true) (k : PySem.W.keepIn K (.ref f) = true) :
    DefAt K mg "in_few_words" st_in_few_words ["saying"] := ⟨f, _, fun_mk l c k, PySem.W.mg_of X G a, (fun_mk (st := st_in_few_words) l c k).binds (ps := ["saying"]) fun _ _ _ _ _ _ us hl => match us, hl with | [_], _ => rfl⟩
theorem at_pushed (X : K.In h) (G : h.Ns mainGlobals mg) (a : PySem.W.nsIn K mainGlobals "pushed" = some (some (.ref f))) (l : K.lookup f = some ⟨oc, od, .func (PySem.W.fnOf "pushed" "pushed" (defArgs st_pushed) (defBody st_pushed) (defScope st_pushed) .none kV doc pm an cdv ct), osl⟩) (c : PySem.W.codeIn K cdv "pushed" = true) (k : PySem.W.keepIn K (.ref f) = true) :
    DefAt K mg "pushed" st_pushed ["saying", "is_so"] := ⟨f, _, fun_mk l c k, PySem.W.mg_of X G a, (fun_mk (st := st_pushed) l c k).binds (ps := ["saying", "is_so"]) fun _ _ _ _ _ _ us hl => match us, hl with | [_, _], _ => rfl⟩
theorem at_pushed_in (X : K.In h) (G : h.Ns mainGlobals mg) (a : PySem.W.nsIn K mainGlobals "pushed_in" = some (some (.ref f))) (l : K.lookup f = some ⟨oc, od, .func (PySem.W.fnOf "pushed_in" "pushed_in" (defArgs st_pushed_in) (defBody st_pushed_in) (defScope st_pushed_in) .none kV doc pm an cdv ct), osl⟩) (c : PySem.W.codeIn K cdv "pushed_in" = true) (k : PySem.W.keepIn K (.ref f) = true) :
    DefAt K mg "pushed_in" st_pushed_in ["saying"] := ⟨f, _, fun_mk l c k, PySem.W.mg_of X G a, (fun_mk (st := st_pushed_in) l c k).binds (ps := ["saying"]) fun _ _ _ _ _ _ us hl => match us, hl with | [_], _ => rfl⟩
theorem at__law_feed (X : K.In h) (G : h.Ns mainGlobals mg) (a : PySem.W.nsIn K mainGlobals "_law_feed" = some (some (.ref f))) (l : K.lookup f = some ⟨oc, od, .func (PySem.W.fnOf "_law_feed" "_law_feed" (defArgs st__law_feed) (defBody st__law_feed) (defScope st__law_feed) .none kV doc pm an cdv ct), osl⟩) (c : PySem.W.codeIn K cdv "_law_feed" = true) (k : PySem.W.keepIn K (.ref f) = true) :
    DefAt K mg "_law_feed" st__law_feed ["_law_script"] := ⟨f, _, fun_mk l c k, PySem.W.mg_of X G a, (fun_mk (st := st__law_feed) l c k).binds (ps := ["_law_script"]) fun _ _ _ _ _ _ us hl => match us, hl with | [_], _ => rfl⟩
theorem at__law_draw (X : K.In h) (G : h.Ns mainGlobals mg) (a : PySem.W.nsIn K mainGlobals "_law_draw" = some (some (.ref f))) (l : K.lookup f = some ⟨oc, od, .func (PySem.W.fnOf "_law_draw" "_law_draw" (defArgs st__law_draw) (defBody st__law_draw) (defScope st__law_draw) .none kV doc pm an cdv ct), osl⟩) (c : PySem.W.codeIn K cdv "_law_draw" = true) (k : PySem.W.keepIn K (.ref f) = true) :
    DefAt K mg "_law_draw" st__law_draw ["_law_feed_here", "_law_many"] := ⟨f, _, fun_mk l c k, PySem.W.mg_of X G a, (fun_mk (st := st__law_draw) l c k).binds (ps := ["_law_feed_here", "_law_many"]) fun _ _ _ _ _ _ us hl => match us, hl with | [_, _], _ => rfl⟩
theorem at__law_net (X : K.In h) (G : h.Ns mainGlobals mg) (a : PySem.W.nsIn K mainGlobals "_law_net" = some (some (.ref f))) (l : K.lookup f = some ⟨oc, od, .func (PySem.W.fnOf "_law_net" "_law_net" (defArgs st__law_net) (defBody st__law_net) (defScope st__law_net) .none kV doc pm an cdv ct), osl⟩) (c : PySem.W.codeIn K cdv "_law_net" = true) (k : PySem.W.keepIn K (.ref f) = true) :
    DefAt K mg "_law_net" st__law_net ["_law_many", "_law_by_hand", "_law_by_word"] := ⟨f, _, fun_mk l c k, PySem.W.mg_of X G a, (fun_mk (st := st__law_net) l c k).binds (ps := ["_law_many", "_law_by_hand", "_law_by_word"]) fun _ _ _ _ _ _ us hl => match us, hl with | [_, _, _], _ => rfl⟩
theorem at__law_marks (X : K.In h) (G : h.Ns mainGlobals mg) (a : PySem.W.nsIn K mainGlobals "_law_marks" = some (some (.ref f))) (l : K.lookup f = some ⟨oc, od, .func (PySem.W.fnOf "_law_marks" "_law_marks" (defArgs st__law_marks) (defBody st__law_marks) (defScope st__law_marks) .none kV doc pm an cdv ct), osl⟩) (c : PySem.W.codeIn K cdv "_law_marks" = true) (k : PySem.W.keepIn K (.ref f) = true) :
    DefAt K mg "_law_marks" st__law_marks ["_law_feed_here", "_law_many"] := ⟨f, _, fun_mk l c k, PySem.W.mg_of X G a, (fun_mk (st := st__law_marks) l c k).binds (ps := ["_law_feed_here", "_law_many"]) fun _ _ _ _ _ _ us hl => match us, hl with | [_, _], _ => rfl⟩
theorem at__law_any_net (X : K.In h) (G : h.Ns mainGlobals mg) (a : PySem.W.nsIn K mainGlobals "_law_any_net" = some (some (.ref f))) (l : K.lookup f = some ⟨oc, od, .func (PySem.W.fnOf "_law_any_net" "_law_any_net" (defArgs st__law_any_net) (defBody st__law_any_net) (defScope st__law_any_net) .none kV doc pm an cdv ct), osl⟩) (c : PySem.W.codeIn K cdv "_law_any_net" = true) (k : PySem.W.keepIn K (.ref f) = true) :
    DefAt K mg "_law_any_net" st__law_any_net ["_law_feed_here", "_law_most"] := ⟨f, _, fun_mk l c k, PySem.W.mg_of X G a, (fun_mk (st := st__law_any_net) l c k).binds (ps := ["_law_feed_here", "_law_most"]) fun _ _ _ _ _ _ us hl => match us, hl with | [_, _], _ => rfl⟩
theorem at__law_twin_net (X : K.In h) (G : h.Ns mainGlobals mg) (a : PySem.W.nsIn K mainGlobals "_law_twin_net" = some (some (.ref f))) (l : K.lookup f = some ⟨oc, od, .func (PySem.W.fnOf "_law_twin_net" "_law_twin_net" (defArgs st__law_twin_net) (defBody st__law_twin_net) (defScope st__law_twin_net) .none kV doc pm an cdv ct), osl⟩) (c : PySem.W.codeIn K cdv "_law_twin_net" = true) (k : PySem.W.keepIn K (.ref f) = true) :
    DefAt K mg "_law_twin_net" st__law_twin_net ["_law_feed_here", "_law_net_here"] := ⟨f, _, fun_mk l c k, PySem.W.mg_of X G a, (fun_mk (st := st__law_twin_net) l c k).binds (ps := ["_law_feed_here", "_law_net_here"]) fun _ _ _ _ _ _ us hl => match us, hl with | [_, _], _ => rfl⟩
theorem at__law_told (X : K.In h) (G : h.Ns mainGlobals mg) (a : PySem.W.nsIn K mainGlobals "_law_told" = some (some (.ref f))) (l : K.lookup f = some ⟨oc, od, .func (PySem.W.fnOf "_law_told" "_law_told" (defArgs st__law_told) (defBody st__law_told) (defScope st__law_told) .none kV doc pm an cdv ct), osl⟩) (c : PySem.W.codeIn K cdv "_law_told" = true) (k : PySem.W.keepIn K (.ref f) = true) :
    DefAt K mg "_law_told" st__law_told ["_law_ask"] := ⟨f, _, fun_mk l c k, PySem.W.mg_of X G a, (fun_mk (st := st__law_told) l c k).binds (ps := ["_law_ask"]) fun _ _ _ _ _ _ us hl => match us, hl with | [_], _ => rfl⟩
theorem at__law_parts (X : K.In h) (G : h.Ns mainGlobals mg) (a : PySem.W.nsIn K mainGlobals "_law_parts" = some (some (.ref f))) (l : K.lookup f = some ⟨oc, od, .func (PySem.W.fnOf "_law_parts" "_law_parts" (defArgs st__law_parts) (defBody st__law_parts) (defScope st__law_parts) .none kV doc pm an cdv ct), osl⟩) (c : PySem.W.codeIn K cdv "_law_parts" = true) (k : PySem.W.keepIn K (.ref f) = true) :
    DefAt K mg "_law_parts" st__law_parts ["_law_net_here", "_law_x", "_law_other", "_law_y", "_law_said"] := ⟨f, _, fun_mk l c k, PySem.W.mg_of X G a, (fun_mk (st := st__law_parts) l c k).binds (ps := ["_law_net_here", "_law_x", "_law_other", "_law_y", "_law_said"]) fun _ _ _ _ _ _ us hl => match us, hl with | [_, _, _, _, _], _ => rfl⟩
theorem at__law_right (X : K.In h) (G : h.Ns mainGlobals mg) (a : PySem.W.nsIn K mainGlobals "_law_right" = some (some (.ref f))) (l : K.lookup f = some ⟨oc, od, .func (PySem.W.fnOf "_law_right" "_law_right" (defArgs st__law_right) (defBody st__law_right) (defScope st__law_right) .none kV doc pm an cdv ct), osl⟩) (c : PySem.W.codeIn K cdv "_law_right" = true) (k : PySem.W.keepIn K (.ref f) = true) :
    DefAt K mg "_law_right" st__law_right ["_law_net_here", "_law_other"] := ⟨f, _, fun_mk l c k, PySem.W.mg_of X G a, (fun_mk (st := st__law_right) l c k).binds (ps := ["_law_net_here", "_law_other"]) fun _ _ _ _ _ _ us hl => match us, hl with | [_, _], _ => rfl⟩
theorem at_refused {cc T : Addr} {base : Heap} (X : K.In h) (G : h.Ns mainGlobals mg) (a : PySem.W.nsIn K mainGlobals "_law_refused_right" = some (some (.ref f))) (l : K.lookup f = some ⟨oc, od, .func (PySem.W.fnOf "_law_refused_right" "_law_refused_right" (defArgs st__law_refused_right) (defBody st__law_refused_right) (defScope st__law_refused_right) .none kV doc pm an (.ref cc) ct), osl⟩) (c : PySem.W.codeIn K (.ref cc) "_law_refused_right" = true) (k : PySem.W.keepIn K (.ref f) = true) (TB : LamX.TabB base mg cc T) :
    LamAt K mg base "_law_refused_right" st__law_refused_right ["_law_net_here", "_law_other"] cc T := ⟨f, oc, od, kV, doc, pm, an, ct, osl, l, c, PySem.W.mg_of X G a, k, (fun_mk (st := st__law_refused_right) l c k).binds (ps := ["_law_net_here", "_law_other"]) fun _ _ _ _ _ _ us hl => match us, hl with | [_, _], _ => rfl, TB⟩
theorem at_law (l : K.lookup f = some ⟨oc, od, .func (PySem.W.fnOf "law" "law" (defArgs st_law) (defBody st_law) (defScope st_law) .none kV doc pm an cdv ct), osl⟩) (c : PySem.W.codeIn K cdv "law" = true) (k : PySem.W.keepIn K (.ref f) = true) : Fun K "law" "law" st_law f (PySem.W.fnOf "law" "law" (defArgs st_law) (defBody st_law) (defScope st_law) .none kV doc pm an cdv ct) ∧ ∀ (s : Shared) (u : Value), BindsTo s (PySem.W.fnOf "law" "law" (defArgs st_law) (defBody st_law) (defScope st_law) .none kV doc pm an cdv ct) ⟨[u], []⟩ [("_law_script", u)] := ⟨fun_mk l c k, fun s u => .of_eq rfl⟩
end
section
variable {h : Heap} {K : PySem.W.Frag} {w : World} {mg : Str → Option Value} {C : Addr}
theorem at_consts {a1 a2 : Addr} {t1 t2 t3 t4 : Tok} {od : Option Addr} {n : Nat} {sl : Array (Option Value)} {es : Array DictEntry} {m : Nat} {u1 u2 u3 u4 : Tok} (X : K.In h) (G : h.Ns mainGlobals mg)
    (b1 : PySem.W.nsIn K mainGlobals "HANDED" = some (some (.ref a1))) (b2 : K.lookup a1 = some ⟨.type "tuple", od, .seq #[.str "must" t1, .str "may" t2] n, sl⟩) (b3 : PySem.W.nsIn K mainGlobals "LETTERS" = some (some (.str lettersS t3))) (b4 : PySem.W.nsIn K mainGlobals "LONGEST" = some (some (.int 8 t4)))
    (b5 : PySem.W.nsIn K mainGlobals "ABOUT" = some (some (.ref a2))) (b6 : K.lookup a2 = some ⟨.type "dict", none, .dict es m, #[]⟩) (b7 : PySem.W.KeysLit w.params es.toList)
    (b8 : PySem.W.nsIn K a2 "and" = some (some (.str "or" u1))) (b9 : PySem.W.nsIn K a2 "or" = some (some (.str "and" u2))) (b10 : PySem.W.nsIn K a2 "must" = some (some (.str "may" u3))) (b11 : PySem.W.nsIn K a2 "may" = some (some (.str "must" u4))) : Cst K w mg :=
  ⟨⟨a1, PySem.W.mg_of X G b1, fun H => .inr ⟨_, #[.str "must" t1, .str "may" t2], _, b2, rfl, rfl, by show 2 ≤ sizeLine; decide, .cons ⟨t1, rfl⟩ (.cons ⟨t2, rfl⟩ .nil)⟩⟩, ⟨t3, PySem.W.mg_of X G b3⟩, ⟨t4, PySem.W.mg_of X G b4⟩,
    ⟨a2, PySem.W.mg_of X G b5, ⟨es, m, _, b6, b7, b8, ⟨u1, rfl⟩⟩, ⟨es, m, _, b6, b7, b9, ⟨u2, rfl⟩⟩, ⟨es, m, _, b6, b7, b10, ⟨u3, rfl⟩⟩, ⟨es, m, _, b6, b7, b11, ⟨u4, rfl⟩⟩⟩⟩
/-- what is left for the end: the law's fact, the code object and its table -/
def EndOk (P : Program) (w : World) (K : PySem.W.Frag) (mg : Str → Option Value) (fa : Addr) : Prop := ∃ (fd fr : FuncData) (f2 c T : Addr) (oc ec : Value) (od ed : Option Addr) (osl esl : Array (Option Value)) (vs : Array Value),
  (∀ (s : Shared) (u : Value), BindsTo s fd ⟨[u], []⟩ [("_law_script", u)]) ∧ mg "_law_refused_right" = some (.ref f2) ∧ K.lookup f2 = some ⟨oc, od, .func fr, osl⟩ ∧ fr.code = .ref c ∧ K.lookup c = some ⟨ec, ed, .fields vs, esl⟩ ∧ vs[11]? = some (.ref T) ∧ K.lookup T = none ∧
  ∀ base : Heap, LamX.TabB base mg c T → FnG P w K mg base 128 fa fd ["_law_script"] (sp_law K T)
theorem walkEnd {l : PySem.W.OpenLaw} {q : Program} {loose : List Str} {XP : (Str → Option Value) → Heap → Prop} {YP : World → Heap → Prop} {d : DefRec} {K : Params → PySem.W.Frag} (hn : l.most = some 63) (hdf : d.params.defaults = [])
    (hrec : ((recsOf q).any fun e => e.name == ("_law_refused_right" : Str)) = true) (hY : ∀ (w : World) (h : Heap), YP w h → (K w.params).In h)
    (F : ∀ (w : World) (mg : Str → Option Value) (fa : Addr) (h : Heap), (K w.params).In h → h.Ns mainGlobals mg → mg d.name = some (.ref fa) → EndOk l.prog w (K w.params) mg fa) :
    PySem.W.WalkO q loose XP YP l.row.toRowW d [] (fun f vs => PySem.call f vs) := by
  refine Att.attach_callB hn hdf fun w s0 s1 mg mb fa o pm cd doc a vs ns G Y ho hd hcd hmg hobj hints hlen hbits hg => ?_
  have KX := hY w _ Y
  obtain ⟨fd, fr, f2, c, T, oc, ec, od, ed, osl, esl, us, bind, m2, l2, code, lc, at11, noT, prom⟩ := F w mg fa _ KX G.T.g hmg
  obtain ⟨dL, hm, en⟩ := List.any_eq_true.mp hrec
  obtain ⟨a', o', fd', c', T', h1, h2, h3, h4, h5, h6⟩ := G.T.tab dL hm
  rw [beq_iff_eq.mp en, m2] at h1
  cases h1
  rw [KX _ _ l2] at h2
  cases h2
  cases h3
  rw [code] at h4
  cases h4
  have same : T' = T := by
    obtain ⟨⟨oo, uu, e1, _, e3, e4⟩, _⟩ := id h6
    rw [KX _ _ lc] at e1
    cases e1
    cases e3
    rw [at11] at e4
    cases e4
    rfl
  subst same
  exact law_end KX G.T.g G.T.b G.T.builtins G.T.nolimit hg (PySem.W.CodeHd.of h5 h6) h6.2 noT G.T.bmain hobj hints (Nat.le_trans hlen (by rw [sizeLine_eq]; decide)) fun base H kin glob TB atT script env =>
    (prom base TB).run callerA [] s1 H ⟨[.ref a], []⟩ [.ref a] [.ref a] _ _ rfl ⟨rfl, by decide, by decide⟩ env (bind s1 (.ref a)) (.cons rfl .nil) ⟨a, ns, rfl, script, fun p hp => by rw [List.mem_singleton.mp hp]; exact LamX.TabS.nil atT, fun _ => rfl⟩
section
variable {h : Heap} {K : PySem.W.Frag} {w : World} {mg : Str → Option Value} {C : Addr}
theorem with_cls {n : Str} {Pr : Prop} (X : K.In h) (G : h.Ns mainGlobals mg) (a : PySem.W.nsIn K mainGlobals n = some (some (.ref C))) (k : mg n = some (.ref C) → Pr) : Pr := k (PySem.W.mg_of X G a)
theorem viewC_mk (_ : K.In h) (_ : mg "WebView" = some (.ref C)) (pg : PySem.W.plainGet K C Str.empty = true) (hd : PySem.W.hasDictIn K C = true) (po : PySem.W.plainOver K C = true) (sa : PySem.W.findIn K (.ref C) "__setattr__" = some (some (.builtin "object.__setattr__")))
    (n1 : PySem.W.findIn K (.ref C) "many" = some none) (n2 : PySem.W.findIn K (.ref C) "led_by" = some none) (n3 : PySem.W.findIn K (.ref C) "true_at" = some none) : ViewC K C := ⟨⟨pg, hd, po, sa⟩, n1, n2, n3⟩
theorem parterC_mk (_ : K.In h) (_ : mg "Parter" = some (.ref C)) (pg : PySem.W.plainGet K C Str.empty = true) (hd : PySem.W.hasDictIn K C = true) (po : PySem.W.plainOver K C = true) (sa : PySem.W.findIn K (.ref C) "__setattr__" = some (some (.builtin "object.__setattr__")))
    (n1 : PySem.W.findIn K (.ref C) "web" = some none) (n2 : PySem.W.findIn K (.ref C) "view" = some none) (n3 : PySem.W.findIn K (.ref C) "rounds" = some none) : ParterC K C := ⟨⟨pg, hd, po, sa⟩, n1, n2, n3⟩
theorem lackC_mk (_ : K.In h) (_ : mg "NoWorld" = some (.ref C)) (made : PySem.W.excInitIn K C leTail "LookupError.__new__" = true) (over : PySem.W.excOver K C leTail = true) (hasD : PySem.W.hasDictIn K C = true) (sa : PySem.W.findIn K (.ref C) "__setattr__" = some (some (.builtin "object.__setattr__")))
    (exC : PySem.W.subIn K (.ref C) (.type "BaseException") = some true) (tyC : PySem.W.typeIn K (.ref C) = some (.type "type")) (kC : PySem.W.keepIn K (.ref C) = true) : LackC K C := ⟨made, over, hasD, sa, exC, tyC, kC⟩
theorem noW_mk {B : Addr} (T : LackC K C) (mgC : mg "NoWorld" = some (.ref C)) (mgB : mg "LackError" = some (.ref B)) (tk : PySem.W.takerIn K C "world" = some none) (rd : PySem.W.readsIn K B (.type "type") = true) (ga : PySem.W.specialIn K (.ref B) "__getattribute__" = some (some (.builtin "type.__getattribute__")))
    (atB : PySem.W.findCls K (.ref B) (.type "type") "__init__" = some (.val (.builtin "LookupError.__init__"))) : NoW K mg C B := ⟨T, tk, ⟨rd, ga⟩, atB, mgB, mgC⟩
theorem toldC_mk {cM cB cP cR c1 c2 c3 c4 c5 c6 c7 : Addr} (T : LackC K C) (mgC : mg "NoWorld" = some (.ref C)) (mgM : mg "MustError" = some (.ref cM)) (mgB : mg "LackError" = some (.ref cB)) (mgP : mg "NoPaper" = some (.ref cP)) (mgR : mg "NoRules" = some (.ref cR))
    (m1 : mg "NoMore" = some (.ref c1)) (m2 : mg "NoShowing" = some (.ref c2)) (m3 : mg "NoText" = some (.ref c3)) (m4 : mg "NoRow" = some (.ref c4)) (m5 : mg "NoHand" = some (.ref c5)) (m6 : mg "NoName" = some (.ref c6)) (m7 : mg "NoStep" = some (.ref c7))
    (hg : PySem.W.findIn K (.ref C) "__getattribute__" = some (some (.builtin "BaseException.__getattribute__"))) (hk : PySem.W.findIn K (.ref C) "__getattr__" = some none) (ha : PySem.W.findIn K (.ref C) "__class__" = some (some (.builtin "object.__class__")))
    (hn : PySem.W.specialIn K (.builtin "object.__class__") "__get__" = some (some (.builtin "getset_descriptor.__get__"))) (ht : PySem.W.takesIn K (.builtin "object.__class__") = some true) (hm : PySem.W.mroIn K C (.type "object") = some true) (nw : PySem.W.findIn K (.ref C) "world" = some none)
    (any2 : PySem.W.exmAny K (.ref C) [.ref cM, .ref cB] = some true) (iP : PySem.W.kitOne K (.ref C) (.ref cP) = some false) (iR : PySem.W.kitOne K (.ref C) (.ref cR) = some false) (iW : PySem.W.kitOne K (.ref C) (.ref C) = some true)
    (anyR : PySem.W.kitAny K (.ref C) [.ref c1, .ref c2, .ref c3, .ref c4, .ref c5, .ref c6, .ref c7] = some false) (lk : PySem.W.kitOne K (.ref C) (.type "LookupError") = some true) : ToldC K mg C :=
  ⟨⟨hg, hk, T.exC, T.hasD, ha, hn, ht, hm⟩, ⟨hg, hk, T.exC, T.hasD⟩, nw, ⟨cM, cB, mgM, mgB, any2⟩, ⟨cP, cR, mgP, mgR, mgC, iP, iR, iW⟩, ⟨c1, c2, c3, c4, c5, c6, c7, m1, m2, m3, m4, m5, m6, m7, anyR⟩, lk⟩
theorem end_mk {P : Program} {Cp CN CB fa f4 f2 cc T : Addr} {oc4 kV4 doc4 pm4 cdv4 ct4 oc kV doc pm ct ec : Value} {od4 an4 od an ed : Option Addr} {osl4 osl esl : Array (Option Value)} {vs : Array Value} (X : K.In h) (G : h.Ns mainGlobals mg) (hfa : mg "law" = some (.ref fa)) (B : Blt mg) (CS : Cst K w mg) (VC : ViewC K C) (PC : ParterC K Cp) (NW : NoW K mg CN CB) (TC : ToldC K mg CN) (D : Defs K mg C Cp CN)
    (a4 : PySem.W.nsIn K mainGlobals "law" = some (some (.ref f4))) (l4 : K.lookup f4 = some ⟨oc4, od4, .func (PySem.W.fnOf "law" "law" (defArgs st_law) (defBody st_law) (defScope st_law) .none kV4 doc4 pm4 an4 cdv4 ct4), osl4⟩) (c4 : PySem.W.codeIn K cdv4 "law" = true) (k4 : PySem.W.keepIn K (.ref f4) = true)
    (a2 : PySem.W.nsIn K mainGlobals "_law_refused_right" = some (some (.ref f2))) (l2 : K.lookup f2 = some ⟨oc, od, .func (PySem.W.fnOf "_law_refused_right" "_law_refused_right" (defArgs st__law_refused_right) (defBody st__law_refused_right) (defScope st__law_refused_right) .none kV doc pm an (.ref cc) ct), osl⟩)
    (c2 : PySem.W.codeIn K (.ref cc) "_law_refused_right" = true) (k2 : PySem.W.keepIn K (.ref f2) = true) (lc : K.lookup cc = some ⟨ec, ed, .fields vs, esl⟩) (e11 : vs[11]? = some (.ref T)) (noT : K.lookup T = none) : EndOk P w K mg fa := by
  have e := hfa.symm.trans (PySem.W.mg_of X G a4)
  cases e
  obtain ⟨FL, bind⟩ := at_law l4 c4 k4
  exact ⟨_, _, f2, cc, T, oc, ec, od, ed, osl, esl, vs, bind, PySem.W.mg_of X G a2, l2, rfl, lc, e11, noT, fun base TB => law_all B CS VC PC NW TC D (at_refused X G a2 l2 c2 k2 TB) FL⟩
end
end
end K33
open PySem PySem.W PyProof.Rows
set_option Elab.async false
set_option maxRecDepth 100000 in
set_option maxHeartbeats 0 in
theorem PySem.Challenge.cw_mustmays_k33_whole_parted_by_sayings_holds : PySem.Challenge.rw_mustmays_k33_whole_parted_by_sayings.Holds := by
  w_on; o_law; k_head; (case hw => w_witness2)
  k_fill
  refine K33.walkEnd (l := PySem.Challenge.rw_mustmays_k33_whole_parted_by_sayings) rfl rfl (by decide +kernel) (fun w h Y => PySem.W.km_in_of Y) ?F
  case F =>
    intro w mg fa h KX G hmg
    refine' K33.with_cls (n := "WebView") KX G ?a fun gC => ?_
    (case a => k_is)
    refine' K33.with_cls (n := "Parter") KX G ?a fun gCp => ?_
    (case a => k_is)
    refine' K33.with_cls (n := "NoWorld") KX G ?a fun gCN => ?_
    (case a => k_is)
    refine' K33.with_cls (n := "LackError") KX G ?a fun gB => ?_
    (case a => k_is)
    refine' K33.with_cls (n := "MustError") KX G ?a fun gM => ?_
    (case a => k_is)
    refine' K33.with_cls (n := "NoPaper") KX G ?a fun gP => ?_
    (case a => k_is)
    refine' K33.with_cls (n := "NoRules") KX G ?a fun gR => ?_
    (case a => k_is)
    refine' K33.with_cls (n := "NoMore") KX G ?a fun g1 => ?_
    (case a => k_is)
    refine' K33.with_cls (n := "NoShowing") KX G ?a fun g2 => ?_
    (case a => k_is)
    refine' K33.with_cls (n := "NoText") KX G ?a fun g3 => ?_
    (case a => k_is)
    refine' K33.with_cls (n := "NoRow") KX G ?a fun g4 => ?_
    (case a => k_is)
    refine' K33.with_cls (n := "NoHand") KX G ?a fun g5 => ?_
    (case a => k_is)
    refine' K33.with_cls (n := "NoName") KX G ?a fun g6 => ?_
    (case a => k_is)
    refine' K33.with_cls (n := "NoStep") KX G ?a fun g7 => ?_
    (case a => k_is)
    have B : K33.Blt mg := ⟨PySem.W.mg_none_of KX G (by k_is), PySem.W.mg_none_of KX G (by k_is), PySem.W.mg_none_of KX G (by k_is), PySem.W.mg_none_of KX G (by k_is), PySem.W.mg_none_of KX G (by k_is), PySem.W.mg_none_of KX G (by k_is), PySem.W.mg_none_of KX G (by k_is), PySem.W.mg_none_of KX G (by k_is), PySem.W.mg_none_of KX G (by k_is), PySem.W.mg_none_of KX G (by k_is), PySem.W.mg_none_of KX G (by k_is), PySem.W.mg_none_of KX G (by k_is), PySem.W.mg_none_of KX G (by k_is), PySem.W.mg_none_of KX G (by k_is), PySem.W.mg_none_of KX G (by k_is), PySem.W.mg_none_of KX G (by k_is), PySem.W.mg_none_of KX G (by k_is)⟩
    have CS : K33.Cst _ w mg := K33.at_consts KX G (by k_is) (by k_is) (by k_is) (by k_is) (by k_is) (by k_is) (by first | k_keys | exact And.intro ⟨_, _, rfl, rfl⟩ (And.intro ⟨_, _, rfl, rfl⟩ (And.intro ⟨_, _, rfl, rfl⟩ (And.intro ⟨_, _, rfl, rfl⟩ trivial)))) (by k_is) (by k_is) (by k_is) (by k_is)
    have VC := K33.viewC_mk KX gC (by k_is) (by k_is) (by k_is) (by k_is) (by k_is) (by k_is) (by k_is)
    have PC := K33.parterC_mk KX gCp (by k_is) (by k_is) (by k_is) (by k_is) (by k_is) (by k_is) (by k_is)
    have LC := K33.lackC_mk KX gCN (by kernel_rfl!) (by kernel_rfl!) (by k_is) (by k_is) (by k_is) (by k_is) (by k_is)
    have NW := K33.noW_mk LC gCN gB (by k_is) (by k_is) (by k_is) (by k_is)
    have TC := K33.toldC_mk LC gCN gM gB gP gR g1 g2 g3 g4 g5 g6 g7 (by k_is) (by k_is) (by k_is) (by k_is) (by k_is) (by k_is) (by k_is) (by kts_exm) (by kit_is) (by kit_is) (by kit_is) (by kit_is) (by kit_is)
    have i_NoWorld := K33.at_NoWorld___init__ KX gCN (by k_is) (by k_is) (by k_is) (by k_is) (by k_is)
    have i_WebView := K33.at_WebView___init__ KX gC (by k_is) (by k_is) (by k_is) (by k_is) (by k_is) (by k_is) (by k_is)
    have m_led_rows := K33.at_WebView_led_rows KX gC (by k_is) (by k_is) (by k_is) (by k_is) (by k_is)
    have m_led_from := K33.at_WebView_led_from KX gC (by k_is) (by k_is) (by k_is) (by k_is) (by k_is)
    have m_has_letter := K33.at_WebView_has_letter KX gC (by k_is) (by k_is) (by k_is) (by k_is) (by k_is)
    have d_called_anew := K33.at_called_anew KX G (by k_is) (by k_is) (by k_is) (by k_is)
    have d_step_truths := K33.at_step_truths KX G (by k_is) (by k_is) (by k_is) (by k_is)
    have d_joined_truths := K33.at_joined_truths KX G (by k_is) (by k_is) (by k_is) (by k_is)
    have d_truths_in := K33.at_truths_in KX G (by k_is) (by k_is) (by k_is) (by k_is)
    have d_need_world := K33.at_need_world KX G (by k_is) (by k_is) (by k_is) (by k_is)
    have d_worlds_reached := K33.at_worlds_reached KX G (by k_is) (by k_is) (by k_is) (by k_is)
    have d_holds_at := K33.at_holds_at KX G (by k_is) (by k_is) (by k_is) (by k_is)
    have d_numbered := K33.at_numbered KX G (by k_is) (by k_is) (by k_is) (by k_is)
    have d_letters_at := K33.at_letters_at KX G (by k_is) (by k_is) (by k_is) (by k_is)
    have d_classes_led := K33.at_classes_led KX G (by k_is) (by k_is) (by k_is) (by k_is)
    have d_next_round := K33.at_next_round KX G (by k_is) (by k_is) (by k_is) (by k_is)
    have d_class_rounds := K33.at_class_rounds KX G (by k_is) (by k_is) (by k_is) (by k_is)
    have d_moved_pairs := K33.at_moved_pairs KX G (by k_is) (by k_is) (by k_is) (by k_is)
    have d_joined_named := K33.at_joined_named KX G (by k_is) (by k_is) (by k_is) (by k_is)
    have d_both_webs := K33.at_both_webs KX G (by k_is) (by k_is) (by k_is) (by k_is)
    have d_need_both := K33.at_need_both KX G (by k_is) (by k_is) (by k_is) (by k_is)
    have d_pair_paper := K33.at_pair_paper KX G (by k_is) (by k_is) (by k_is) (by k_is)
    have i_Parter := K33.at_Parter___init__ KX gCp (by k_is) (by k_is) (by k_is) (by k_is) (by k_is) (by k_is) (by k_is)
    have m_round_of := K33.at_Parter_round_of KX gCp (by k_is) (by k_is) (by k_is) (by k_is) (by k_is)
    have m_by_letter := K33.at_Parter_by_letter KX gCp (by k_is) (by k_is) (by k_is) (by k_is) (by k_is)
    have m_unled := K33.at_Parter_unled KX gCp (by k_is) (by k_is) (by k_is) (by k_is) (by k_is)
    have m_may_part := K33.at_Parter_may_part KX gCp (by k_is) (by k_is) (by k_is) (by k_is) (by k_is)
    have m_parting := K33.at_Parter_parting KX gCp (by k_is) (by k_is) (by k_is) (by k_is) (by k_is)
    have d_parting_saying := K33.at_parting_saying KX G (by k_is) (by k_is) (by k_is) (by k_is)
    have d_reached_web := K33.at_reached_web KX G (by k_is) (by k_is) (by k_is) (by k_is)
    have d_is_word := K33.at_is_word KX G (by k_is) (by k_is) (by k_is) (by k_is)
    have d_are_sayings := K33.at_are_sayings KX G (by k_is) (by k_is) (by k_is) (by k_is)
    have d_is_made := K33.at_is_made KX G (by k_is) (by k_is) (by k_is) (by k_is)
    have d_is_plain_saying := K33.at_is_plain_saying KX G (by k_is) (by k_is) (by k_is) (by k_is)
    have d_inner_sayings := K33.at_inner_sayings KX G (by k_is) (by k_is) (by k_is) (by k_is)
    have d_made_anew := K33.at_made_anew KX G (by k_is) (by k_is) (by k_is) (by k_is)
    have d_in_few_words := K33.at_in_few_words KX G (by k_is) (by k_is) (by k_is) (by k_is)
    have d_pushed := K33.at_pushed KX G (by k_is) (by k_is) (by k_is) (by k_is)
    have d_pushed_in := K33.at_pushed_in KX G (by k_is) (by k_is) (by k_is) (by k_is)
    have d__law_feed := K33.at__law_feed KX G (by k_is) (by k_is) (by k_is) (by k_is)
    have d__law_draw := K33.at__law_draw KX G (by k_is) (by k_is) (by k_is) (by k_is)
    have d__law_net := K33.at__law_net KX G (by k_is) (by k_is) (by k_is) (by k_is)
    have d__law_marks := K33.at__law_marks KX G (by k_is) (by k_is) (by k_is) (by k_is)
    have d__law_any_net := K33.at__law_any_net KX G (by k_is) (by k_is) (by k_is) (by k_is)
    have d__law_twin_net := K33.at__law_twin_net KX G (by k_is) (by k_is) (by k_is) (by k_is)
    have d__law_told := K33.at__law_told KX G (by k_is) (by k_is) (by k_is) (by k_is)
    have d__law_parts := K33.at__law_parts KX G (by k_is) (by k_is) (by k_is) (by k_is)
    have d__law_right := K33.at__law_right KX G (by k_is) (by k_is) (by k_is) (by k_is)
    have D : K33.Defs _ mg _ _ _ := { i_NoWorld := i_NoWorld, i_WebView := i_WebView, m_led_rows := m_led_rows, m_led_from := m_led_from, m_has_letter := m_has_letter, d_called_anew := d_called_anew, d_step_truths := d_step_truths, d_joined_truths := d_joined_truths, d_truths_in := d_truths_in, d_need_world := d_need_world, d_worlds_reached := d_worlds_reached, d_holds_at := d_holds_at, d_numbered := d_numbered, d_letters_at := d_letters_at, d_classes_led := d_classes_led, d_next_round := d_next_round, d_class_rounds := d_class_rounds, d_moved_pairs := d_moved_pairs, d_joined_named := d_joined_named, d_both_webs := d_both_webs, d_need_both := d_need_both, d_pair_paper := d_pair_paper, i_Parter := i_Parter, m_round_of := m_round_of, m_by_letter := m_by_letter, m_unled := m_unled, m_may_part := m_may_part, m_parting := m_parting, d_parting_saying := d_parting_saying, d_reached_web := d_reached_web, d_is_word := d_is_word, d_are_sayings := d_are_sayings, d_is_made := d_is_made, d_is_plain_saying := d_is_plain_saying, d_inner_sayings := d_inner_sayings, d_made_anew := d_made_anew, d_in_few_words := d_in_few_words, d_pushed := d_pushed, d_pushed_in := d_pushed_in, d__law_feed := d__law_feed, d__law_draw := d__law_draw, d__law_net := d__law_net, d__law_marks := d__law_marks, d__law_any_net := d__law_any_net, d__law_twin_net := d__law_twin_net, d__law_told := d__law_told, d__law_parts := d__law_parts, d__law_right := d__law_right }
    exact K33.end_mk KX G hmg B CS VC PC NW TC D (by k_is) (by k_is) (by k_is) (by k_is) (by k_is) (by k_is) (by k_is) (by k_is) (by k_is) rfl (by kernel_rfl!)
