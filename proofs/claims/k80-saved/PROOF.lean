import PyProof.Rows.All
import Wide.All
import OpenK.AllK
import Wide.FinOn
import KE.KStateDown
import Lean
import HandS.ForMost
import HandS.Exc
import HandS.TryOnly
import HandS.ExcOwn
import HandS.WordsExc
import HandS.More
import HandS.Flow
import HandS.Style
import HandS.IsInst
import HandS.Deep
import KE.DataFind
import KE.GoesEnum
import HandS.WideBits
import HandS.TupAny
import HandS.TupLe
import HandS.Wide
import HandS.FStr
import HandS.Zip
import HandS.Conv
import HandS.Codes
import HandS.OwnEq
import HandS.SortOrd
import HandS.DictTup
import HandS.Defaults
import HandS.SetFor
import HandS.Small
import HandS.ForDict
import KE.KDictDisplayH
import KE.DataMinMax
import KE.SortData
import HandS.Walk
import HandS.TupLen
import PyProof.Rows.TupDisplay
import HandS.Head0
import HandS.Head1
import HandS.Head2
import HandS.HeadEnd
import HandS.HeadHook1
import HandS.HeadHook2
import HandS.HeadHook3
import HandS.HeadHook4
import HandS.Hot
import HandS.ExcIs
import HandS.ExcValue
import KE.KExcIs
import HandS.HotCalls
import HandS.ExcInitHot
import HandS.ExcCtx
import HandS.TryMany
import HandS.Lambda
import HandS.ExcField
import HandS.EndTab
import HandS.HeadWalk
import KE.KNestM
import HandS.Text
import HandS.StrMore
import HandS.Steps
import PySem.Challenge.RW_turnedleaves_k80_whole_saved_and_woken
set_option Elab.async false
set_option linter.all false
set_option maxRecDepth 100000
set_option maxHeartbeats 4000000
namespace TL
open PySem PySem.Spec PyProof.Rows L2
/-! ### defs by name -/
def fdOf (K : PySem.W.Frag) (p : Str × Option Str) : FuncData := match K.lookup (He.fAd K p) with
  | some ⟨_, _, .func fd, _⟩ => fd
  | _ => PySem.W.fnOf "" "" { posonlyargs := [], args := [], vararg := none, kwonlyargs := [], kw_defaults := [], kwarg := none, defaults := [] } [] { kind := .function, names := [], isGenerator := false, isCoroutine := false } .none .none .none .none none .none .none
abbrev Df (K : PySem.W.Frag) (p : Str × Option Str) (x q : Str) (st : Stmt) (dv : List V) : Prop := FunD K x q (defArgs st) (defBody st) (defScope st) dv [] (He.fAd K p) (fdOf K p)
theorem df_of {K : PySem.W.Frag} {p : Str × Option Str} {x q : Str} {pa : Arguments} {bd : List Stmt} {sc : Scope} {dv : List V} {kw : List (Str × V)} (h : ∃ fd, FunD K x q pa bd sc dv kw (He.fAd K p) fd) : FunD K x q pa bd sc dv kw (He.fAd K p) (fdOf K p) := by
  obtain ⟨fd, F⟩ := h
  obtain ⟨oc, od, dV, kV, doc, pm, an, cdv, ct, osl, e, lk, _⟩ := id F.ex
  have e2 : fdOf K p = fd := by
    unfold fdOf
    rw [lk]
  rw [e2]
  exact F
abbrev OkF (P : Program) (w : World) (K : PySem.W.Frag) (mg : Str → Option Value) (base : Heap) (CX : CXT) (k : Nat) (p : Str × Option Str) (ps : List Str) (sp : Sp) : Prop := FnOk P w K mg base CX k (He.fAd K p) (fdOf K p) ps sp
section
variable {P : Program} {w : World} {K : PySem.W.Frag} {mg : Str → Option Value} {base : Heap} {x qual : Str} {params : Arguments} {body : List Stmt} {scope : Scope} {dvs : List V} {kws : List (Str × V)} {f : Addr} {fd : FuncData}
theorem okN {N ps : List Str} {k : Nat} {sp : Sp} (F : FunD K x qual params body scope dvs kws f fd) (S : FnScope N ps scope) (len : ∀ vs H Q E, sp vs H Q E → vs.length = ps.length)
    (hbody : ∀ (cdv : Value) (A : Around) (outer : List Env) (s : Shared) (H : Hp) (vs : List V) (Q : VK) (E : XK), Room k (A.deeper (envOfC qual scope s.heap.objs.size f cdv)) → sp vs H Q E →
      ∃ t, PSs (cxOf CX0 P w K mg base N qual scope f cdv A outer s H E).nox body t ∧ t { nx := fun _ H' => Q .non H', rt := Q } (start N vs) H) : FnOk P w K mg base CX0 (k + 1) f fd ps sp := by
  refine F.ok S len fun cdv A outer s H vs Q E hr hsp => ?_
  obtain ⟨t, h, q⟩ := hbody cdv A outer s H vs Q E hr hsp
  exact ⟨t, h.nox, q⟩
end
/-! ### heaps -/
theorem same_upd {H : Hp} {p : Addr} {o : HO} (h : H p = none) : Same H (upd H p o) := fun b x e => by
  rw [upd_ne (ne_of_none e h)]
  exact e
theorem same_updR {H H1 : Hp} {p : Addr} {o : HO} (s : Same H H1) (h : H p = none) : Same H (upd H1 p o) := fun b x e => by
  rw [upd_ne (ne_of_none e h)]
  exact s b x e
theorem same_sqt {K : PySem.W.Frag} {H H' : Hp} {a : Addr} {xs : List V} (e : Same H H') (h : SqT K H a xs) : SqT K H' a xs := by
  rcases h with (h | ⟨o, h⟩) | h
  · exact .inl (.inl (e _ _ h))
  · exact .inl (.inr ⟨o, e _ _ h⟩)
  · exact .inr h
/-- all that was tracked is as it was but at ds; tuples and what is locked stay -/
structure Fr (ds : List Addr) (H H' : Hp) : Prop where
  keep : ∀ b o, b ∉ ds → H b = some o → H' b = some o
  tu : ∀ b xs, H b = some (.tup xs) → H' b = some (.tup xs)
  fz : ∀ b o u, H b = some (.frz o u) → H' b = some (.frz o u)
theorem Fr.of {H H' : Hp} (s : Same H H') (ds : List Addr) : Fr ds H H' := ⟨fun b o _ e => s b o e, fun b xs e => s b _ e, fun b o u e => s b _ e⟩
theorem Fr.refl (ds : List Addr) (H : Hp) : Fr ds H H := Fr.of (Same.refl H) ds
theorem Fr.trans {ds : List Addr} {H H1 H2 : Hp} (a : Fr ds H H1) (b : Fr ds H1 H2) : Fr ds H H2 := ⟨fun c o n e => b.keep c o n (a.keep c o n e), fun c xs e => b.tu c xs (a.tu c xs e), fun c o u e => b.fz c o u (a.fz c o u e)⟩
theorem Fr.mono {ds es : List Addr} {H H1 : Hp} (a : Fr ds H H1) (h : ∀ d ∈ ds, d ∈ es) : Fr es H H1 := ⟨fun c o n e => a.keep c o (fun z => n (h c z)) e, a.tu, a.fz⟩
theorem Fr.same {H H' : Hp} (a : Fr [] H H') : Same H H' := fun b o e => a.keep b o (by simp) e
theorem Fr.upd {d : Addr} {ds : List Addr} {H : Hp} {o u : HO} (h : H d = some o) (m : Mut (some o)) (hd : d ∈ ds) : Fr ds H (L2.upd H d u) := by
  have ne : ∀ b v, H b = some v → ¬ Mut (some v) → b ≠ d := fun b v e nm z => by
    subst z
    rw [h] at e
    cases e
    exact nm m
  refine ⟨fun b v n e => ?_, fun b xs e => ?_, fun b ob w e => ?_⟩
  · rw [upd_ne (show b ≠ d from fun z => n (by rw [z]; exact hd))]
    exact e
  · rw [upd_ne (ne b _ e fun z => z)]
    exact e
  · rw [upd_ne (ne b _ e fun z => z)]
    exact e
theorem Fr.sqt {K : PySem.W.Frag} {ds : List Addr} {H H' : Hp} {a : Addr} {xs : List V} (e : Fr ds H H') (h : SqT K H a xs) : SqT K H' a xs := by
  rcases h with (h | ⟨o, h⟩) | h
  · exact .inl (.inl (e.tu _ _ h))
  · exact .inl (.inr ⟨o, e.fz _ _ _ h⟩)
  · exact .inr h
/-! ### data -/
mutual
/-- no list in it -/
def isT : PyData → Bool
  | .none => true
  | .bool _ => true
  | .int _ => true
  | .str _ => true
  | .list _ => false
  | .tuple xs => isTs xs
  | .dict _ => false
def isTs : List PyData → Bool
  | [] => true
  | x :: xs => isT x && isTs xs
end
section
variable {K : PySem.W.Frag} {H H' : Hp}
mutual
theorem dp_tu (e : ∀ a xs, SqT K H a xs → SqT K H' a xs) : ∀ {v : V} {d : PyData}, Dp K H v d → isT d = true → Dp K H' v d
  | _, _, .non, _ => .non
  | _, _, .bl b, _ => .bl b
  | _, _, .int i, _ => .int i
  | _, _, .str x, _ => .str x
  | _, _, .lst _ _, h => by cases h
  | _, _, .tup s a, h => .tup (e _ _ s) (dpa_tu e a h)
theorem dpa_tu (e : ∀ a xs, SqT K H a xs → SqT K H' a xs) : ∀ {vs : List V} {ds : List PyData}, DpAll K H vs ds → isTs ds = true → DpAll K H' vs ds
  | _, _, .nil, _ => .nil
  | _, _, .cons d r, h => by
    obtain ⟨h1, h2⟩ := Bool.and_eq_true_iff.mp h
    exact .cons (dp_tu e d h1) (dpa_tu e r h2)
end
mutual
theorem dp_same (e : Same H H') : ∀ {v : V} {d : PyData}, Dp K H v d → Dp K H' v d
  | _, _, .non => .non
  | _, _, .bl b => .bl b
  | _, _, .int i => .int i
  | _, _, .str x => .str x
  | _, _, .lst s a => .lst (e.seq s) (dpa_same e a)
  | _, _, .tup s a => .tup (same_sqt e s) (dpa_same e a)
theorem dpa_same (e : Same H H') : ∀ {vs : List V} {ds : List PyData}, DpAll K H vs ds → DpAll K H' vs ds
  | _, _, .nil => .nil
  | _, _, .cons d r => .cons (dp_same e d) (dpa_same e r)
end
theorem Fr.dp {ds : List Addr} (e : Fr ds H H') {v : V} {d : PyData} (h : Dp K H v d) (t : isT d = true) : Dp K H' v d := dp_tu (fun _ _ z => e.sqt z) h t
theorem Fr.dpa {ds : List Addr} (e : Fr ds H H') {vs : List V} {xs : List PyData} (h : DpAll K H vs xs) (t : isTs xs = true) : DpAll K H' vs xs := dpa_tu (fun _ _ z => e.sqt z) h t
theorem dpa_len : ∀ {vs : List V} {ds : List PyData}, DpAll K H vs ds → vs.length = ds.length
  | _, _, .nil => rfl
  | _, _, .cons _ r => congrArg Nat.succ (dpa_len r)
theorem dpa_at : ∀ {vs : List V} {ds : List PyData} {i : Nat} {v : V}, DpAll K H vs ds → vs[i]? = some v → ∃ d, ds[i]? = some d ∧ Dp K H v d
  | _, _, _, _, .nil, e => by simp at e
  | _, _, 0, _, .cons d r, e => by simp at e; subst e; exact ⟨_, rfl, d⟩
  | _, _, i + 1, v, .cons d r, e => by
    obtain ⟨d', h1, h2⟩ := dpa_at (i := i) (v := v) r (by simpa using e)
    exact ⟨d', by simpa using h1, h2⟩
theorem dpa_atD : ∀ {vs : List V} {ds : List PyData} {i : Nat} {d : PyData}, DpAll K H vs ds → ds[i]? = some d → ∃ v, vs[i]? = some v ∧ Dp K H v d
  | _, _, _, _, .nil, e => by simp at e
  | _, _, 0, _, .cons d r, e => by simp at e; subst e; exact ⟨_, rfl, d⟩
  | _, _, i + 1, v, .cons d r, e => by
    obtain ⟨d', h1, h2⟩ := dpa_atD (i := i) (d := v) r (by simpa using e)
    exact ⟨d', by simpa using h1, h2⟩
theorem dpa_app : ∀ {vs ws : List V} {ds es : List PyData}, DpAll K H vs ds → DpAll K H ws es → DpAll K H (vs ++ ws) (ds ++ es)
  | _, _, _, _, .nil, h => h
  | _, _, _, _, .cons d r, h => .cons d (dpa_app r h)
theorem dpa_snoc {vs : List V} {ds : List PyData} {v : V} {d : PyData} (h : DpAll K H vs ds) (e : Dp K H v d) : DpAll K H (vs ++ [v]) (ds ++ [d]) := dpa_app h (.cons e .nil)
theorem dpa_take : ∀ {vs : List V} {ds : List PyData} (n : Nat), DpAll K H vs ds → DpAll K H (vs.take n) (ds.take n)
  | _, _, 0, _ => .nil
  | _, _, _ + 1, .nil => .nil
  | _, _, n + 1, .cons d r => .cons d (dpa_take n r)
theorem dpa_drop : ∀ {vs : List V} {ds : List PyData} (n : Nat), DpAll K H vs ds → DpAll K H (vs.drop n) (ds.drop n)
  | _, _, 0, h => h
  | _, _, _ + 1, .nil => .nil
  | _, _, n + 1, .cons d r => dpa_drop n r
theorem dpa_rev : ∀ {vs : List V} {ds : List PyData}, DpAll K H vs ds → DpAll K H vs.reverse ds.reverse
  | _, _, .nil => .nil
  | _, _, .cons d r => by
    rw [List.reverse_cons, List.reverse_cons]
    exact dpa_snoc (dpa_rev r) d
theorem dpa1 {xs : List V} {d0 : PyData} (h : DpAll K H xs [d0]) : ∃ v0, xs = [v0] ∧ Dp K H v0 d0 := by
  cases h with
  | cons h0 r =>
    cases r
    exact ⟨_, rfl, h0⟩
theorem dpa2 {xs : List V} {d0 d1 : PyData} (h : DpAll K H xs [d0, d1]) : ∃ v0 v1, xs = [v0, v1] ∧ Dp K H v0 d0 ∧ Dp K H v1 d1 := by
  cases h with
  | cons h0 r =>
    cases r with
    | cons h1 r =>
      cases r
      exact ⟨_, _, rfl, h0, h1⟩
theorem dpa3 {xs : List V} {d0 d1 d2 : PyData} (h : DpAll K H xs [d0, d1, d2]) : ∃ v0 v1 v2, xs = [v0, v1, v2] ∧ Dp K H v0 d0 ∧ Dp K H v1 d1 ∧ Dp K H v2 d2 := by
  cases h with
  | cons h0 r =>
    cases r with
    | cons h1 r =>
      cases r with
      | cons h2 r =>
        cases r
        exact ⟨_, _, _, rfl, h0, h1, h2⟩
theorem dpa4 {xs : List V} {d0 d1 d2 d3 : PyData} (h : DpAll K H xs [d0, d1, d2, d3]) : ∃ v0 v1 v2 v3, xs = [v0, v1, v2, v3] ∧ Dp K H v0 d0 ∧ Dp K H v1 d1 ∧ Dp K H v2 d2 ∧ Dp K H v3 d3 := by
  cases h with
  | cons h0 r =>
    cases r with
    | cons h1 r =>
      cases r with
      | cons h2 r =>
        cases r with
        | cons h3 r =>
          cases r
          exact ⟨_, _, _, _, rfl, h0, h1, h2, h3⟩
theorem len3 {α : Type} {l : List α} (h : l.length = 3) : ∃ a b c, l = [a, b, c] := by
  match l, h with
  | [a, b, c], _ => exact ⟨a, b, c, rfl⟩
theorem len2 {α : Type} {l : List α} (h : l.length = 2) : ∃ a b, l = [a, b] := by
  match l, h with
  | [a, b], _ => exact ⟨a, b, rfl⟩
theorem len4 {α : Type} {l : List α} (h : l.length = 4) : ∃ a b c d, l = [a, b, c, d] := by
  match l, h with
  | [a, b, c, d], _ => exact ⟨a, b, c, d, rfl⟩
/-- the type's name -/
def tyD : PyData → String
  | .none => "NoneType"
  | .bool _ => "bool"
  | .int _ => "int"
  | .str _ => "str"
  | .list _ => "list"
  | .tuple _ => "tuple"
  | .dict _ => "dict"
theorem dp_ty {v : V} {d : PyData} (h : Dp K H v d) : TyX K H v (.type (tyD d)) := by
  cases h with
  | non => exact .base .non
  | bl b => exact .base (.bl b)
  | int i => exact .base (.int i)
  | str x => exact .base (.str x)
  | lst s a =>
    rcases s with (s | ⟨o, s⟩) | ⟨o, its, n, k, c, _⟩
    · exact .base (.lst s)
    · exact .base (.frz s)
    · exact .kList k c
  | tup s a =>
    rcases s with (s | ⟨o, s⟩) | ⟨o, its, n, k, c, _⟩
    · exact .base (.tup s)
    · exact .fTuple s
    · exact .kTuple k c
end
/-! ### tests of numbers -/
section
variable {A B : Prop} {i j : Int}
theorem iteEQ (h : i = j) (x : A) : if decide (V.int i = V.int j) = true then A else B := by
  rw [decide_eq_true (congrArg V.int h)]
  exact iteT x
theorem iteNQ (h : i ≠ j) (x : B) : if decide (V.int i = V.int j) = true then A else B := by
  rw [decide_eq_false (fun e => h (V.int.inj e))]
  exact iteF x
theorem iteNEQ (h : i ≠ j) (x : A) : if (!decide (V.int i = V.int j)) = true then A else B := by
  rw [decide_eq_false (fun e => h (V.int.inj e))]
  exact iteT x
theorem iteNNQ (h : i = j) (x : B) : if (!decide (V.int i = V.int j)) = true then A else B := by
  rw [decide_eq_true (congrArg V.int h)]
  exact iteF x
theorem ite2Q (h1 : i = j → A) (h2 : i ≠ j → B) : if decide (V.int i = V.int j) = true then A else B := by
  by_cases h : i = j
  · exact iteEQ h (h1 h)
  · exact iteNQ h (h2 h)
theorem ite2NQ (h1 : i ≠ j → A) (h2 : i = j → B) : if (!decide (V.int i = V.int j)) = true then A else B := by
  by_cases h : i = j
  · exact iteNNQ h (h2 h)
  · exact iteNEQ h (h1 h)
theorem iteP {c : Prop} [Decidable c] (h : c) (x : A) : if decide c = true then A else B := by
  rw [decide_eq_true h]
  exact iteT x
theorem iteN {c : Prop} [Decidable c] (h : ¬ c) (x : B) : if decide c = true then A else B := by
  rw [decide_eq_false h]
  exact iteF x
theorem ite2P {c : Prop} [Decidable c] (h1 : c → A) (h2 : ¬ c → B) : if decide c = true then A else B := by
  by_cases h : c
  · exact iteP h (h1 h)
  · exact iteN h (h2 h)
theorem iteNP {c : Prop} [Decidable c] (h : ¬ c) (x : A) : if (!decide c) = true then A else B := by
  rw [decide_eq_false h]
  exact iteT x
theorem iteNN {c : Prop} [Decidable c] (h : c) (x : B) : if (!decide c) = true then A else B := by
  rw [decide_eq_true h]
  exact iteF x
end
/-! ### isinstance -/
def isIntB : PyData → Bool
  | .int _ => true
  | .bool _ => true
  | _ => false
def isBoolB : PyData → Bool
  | .bool _ => true
  | _ => false
def isTupB : PyData → Bool
  | .tuple _ => true
  | _ => false
def isLstB : PyData → Bool
  | .list _ => true
  | _ => false
def isStrB : PyData → Bool
  | .str _ => true
  | _ => false
section
variable {K : PySem.W.Frag}
theorem kit_int : ∀ d : PyData, PySem.W.kitOne K (.type (tyD d)) (.type "int") = some (isIntB d)
  | .none => kit_ty (a := "NoneType") (b := "int") (r := false) (by decide +kernel)
  | .bool _ => kit_ty (a := "bool") (b := "int") (r := true) (by decide +kernel)
  | .int _ => kit_ty (a := "int") (b := "int") (r := true) (by decide +kernel)
  | .str _ => kit_ty (a := "str") (b := "int") (r := false) (by decide +kernel)
  | .list _ => kit_ty (a := "list") (b := "int") (r := false) (by decide +kernel)
  | .tuple _ => kit_ty (a := "tuple") (b := "int") (r := false) (by decide +kernel)
  | .dict _ => kit_ty (a := "dict") (b := "int") (r := false) (by decide +kernel)
theorem kit_bool : ∀ d : PyData, PySem.W.kitOne K (.type (tyD d)) (.type "bool") = some (isBoolB d)
  | .none => kit_ty (a := "NoneType") (b := "bool") (r := false) (by decide +kernel)
  | .bool _ => kit_ty (a := "bool") (b := "bool") (r := true) (by decide +kernel)
  | .int _ => kit_ty (a := "int") (b := "bool") (r := false) (by decide +kernel)
  | .str _ => kit_ty (a := "str") (b := "bool") (r := false) (by decide +kernel)
  | .list _ => kit_ty (a := "list") (b := "bool") (r := false) (by decide +kernel)
  | .tuple _ => kit_ty (a := "tuple") (b := "bool") (r := false) (by decide +kernel)
  | .dict _ => kit_ty (a := "dict") (b := "bool") (r := false) (by decide +kernel)
theorem kit_tup : ∀ d : PyData, PySem.W.kitOne K (.type (tyD d)) (.type "tuple") = some (isTupB d)
  | .none => kit_ty (a := "NoneType") (b := "tuple") (r := false) (by decide +kernel)
  | .bool _ => kit_ty (a := "bool") (b := "tuple") (r := false) (by decide +kernel)
  | .int _ => kit_ty (a := "int") (b := "tuple") (r := false) (by decide +kernel)
  | .str _ => kit_ty (a := "str") (b := "tuple") (r := false) (by decide +kernel)
  | .list _ => kit_ty (a := "list") (b := "tuple") (r := false) (by decide +kernel)
  | .tuple _ => kit_ty (a := "tuple") (b := "tuple") (r := true) (by decide +kernel)
  | .dict _ => kit_ty (a := "dict") (b := "tuple") (r := false) (by decide +kernel)
theorem kit_lst : ∀ d : PyData, PySem.W.kitOne K (.type (tyD d)) (.type "list") = some (isLstB d)
  | .none => kit_ty (a := "NoneType") (b := "list") (r := false) (by decide +kernel)
  | .bool _ => kit_ty (a := "bool") (b := "list") (r := false) (by decide +kernel)
  | .int _ => kit_ty (a := "int") (b := "list") (r := false) (by decide +kernel)
  | .str _ => kit_ty (a := "str") (b := "list") (r := false) (by decide +kernel)
  | .list _ => kit_ty (a := "list") (b := "list") (r := true) (by decide +kernel)
  | .tuple _ => kit_ty (a := "tuple") (b := "list") (r := false) (by decide +kernel)
  | .dict _ => kit_ty (a := "dict") (b := "list") (r := false) (by decide +kernel)
theorem kit_str : ∀ d : PyData, PySem.W.kitOne K (.type (tyD d)) (.type "str") = some (isStrB d)
  | .none => kit_ty (a := "NoneType") (b := "str") (r := false) (by decide +kernel)
  | .bool _ => kit_ty (a := "bool") (b := "str") (r := false) (by decide +kernel)
  | .int _ => kit_ty (a := "int") (b := "str") (r := false) (by decide +kernel)
  | .str _ => kit_ty (a := "str") (b := "str") (r := true) (by decide +kernel)
  | .list _ => kit_ty (a := "list") (b := "str") (r := false) (by decide +kernel)
  | .tuple _ => kit_ty (a := "tuple") (b := "str") (r := false) (by decide +kernel)
  | .dict _ => kit_ty (a := "dict") (b := "str") (r := false) (by decide +kernel)
theorem isi {H : Hp} {x : V} {d : PyData} {n : String} {b : Bool} {Q : VK} (hd : Dp K H x d) (hk : PySem.W.kitOne K (.type (tyD d)) (.type n) = some b) (q : Q (.bl b) H) : rIsi K [x, .ty n] H Q := ⟨x, .ty n, _, _, b, rfl, .ty _, dp_ty hd, hk, q⟩
end
/-- a tuple of the written part -/
def tupIs (K : PySem.W.Frag) (a : Addr) (vs : List V) : Bool := match K.lookup a with
  | some ⟨.type c, _, .seq its _, _⟩ => decide (c = "tuple") && (decide (its.size ≤ sizeLine) && He.relAll vs its.toList)
  | _ => false
theorem tupIs_ok {K : PySem.W.Frag} {a : Addr} {vs : List V} (h : tupIs K a vs = true) (H : Hp) : SqT K H a vs := by
  unfold tupIs at h
  cases q : K.lookup a with
  | none =>
    rw [q] at h
    cases h
  | some o =>
    obtain ⟨oc, od, dt, osl⟩ := o
    rw [q] at h
    cases oc with
    | type c =>
      cases dt with
      | seq its n =>
        obtain ⟨h1, h2⟩ := He.ba h
        obtain ⟨h3, h4⟩ := He.ba h2
        exact .inr ⟨_, its, n, q, congrArg Value.type (of_decide_eq_true h1), rfl, of_decide_eq_true h3, He.relAll_ok h4⟩
      | _ => cases h
    | _ => cases dt <;> cases h
/-! ### the classes of refusals -/
def exNames : List Str := ["BadBar", "BadPlace", "BadDesk", "BadLayout", "BadRepeats", "Unlike", "Full", "Nothing", "BadText"]
/-- what is asked of the class C -/
structure ExF (K : PySem.W.Frag) (C : Addr) : Prop where
  ga : PySem.W.findIn K (.ref C) "__getattribute__" = some (some (.builtin "BaseException.__getattribute__"))
  gg : PySem.W.findIn K (.ref C) "__getattr__" = some none
  sub : PySem.W.subIn K (.ref C) (.type "BaseException") = some true
  hd : PySem.W.hasDictIn K C = true
  ca : PySem.W.findIn K (.ref C) "__class__" = some (some (.builtin "object.__class__"))
  mro : PySem.W.mroIn K C (.type "object") = some true
  ty : PySem.W.typeIn K (.ref C) = some (.type "type")
  kp : PySem.W.keepIn K (.ref C) = true
def exB (K : PySem.W.Frag) (n : Str) : Bool :=
  He.eqO (PySem.W.findIn K (.ref (He.ga K n)) "__getattribute__") (some (some (.builtin "BaseException.__getattribute__"))) && (He.eqO (PySem.W.findIn K (.ref (He.ga K n)) "__getattr__") (some none) &&
  (decide (PySem.W.subIn K (.ref (He.ga K n)) (.type "BaseException") = some true) && (PySem.W.hasDictIn K (He.ga K n) && (He.eqO (PySem.W.findIn K (.ref (He.ga K n)) "__class__") (some (some (.builtin "object.__class__"))) &&
  (decide (PySem.W.mroIn K (He.ga K n) (.type "object") = some true) && (decide (PySem.W.typeIn K (.ref (He.ga K n)) = some (.type "type")) && PySem.W.keepIn K (.ref (He.ga K n))))))))
theorem exB_ok {K : PySem.W.Frag} {n : Str} (h : exB K n = true) : ExF K (He.ga K n) := by
  obtain ⟨h1, h⟩ := He.ba h
  obtain ⟨h2, h⟩ := He.ba h
  obtain ⟨h3, h⟩ := He.ba h
  obtain ⟨h4, h⟩ := He.ba h
  obtain ⟨h5, h⟩ := He.ba h
  obtain ⟨h6, h⟩ := He.ba h
  obtain ⟨h7, h8⟩ := He.ba h
  exact ⟨He.eqO_ok h1, He.eqO_ok h2, of_decide_eq_true h3, h4, He.eqO_ok h5, of_decide_eq_true h6, of_decide_eq_true h7, h8⟩
/-- isinstance, except: each class is its own alone -/
structure ExK (K : PySem.W.Frag) (n : Str) : Prop where
  f : ExF K (He.ga K n)
  kit : ∀ m ∈ exNames, PySem.W.kitOne K (.ref (He.ga K n)) (.ref (He.ga K m)) = some (decide (n = m))
  val : PySem.W.kitOne K (.ref (He.ga K n)) (.type "ValueError") = some true
  exm : ∀ m ∈ ["BadLayout", "Unlike"], PySem.W.exmOne K (.ref (He.ga K n)) (.ref (He.ga K m)) = some (decide (n = m))
  leaf : PySem.W.exmOne K (.ref (He.ga K n)) (.ref (He.ga K "LeafError")) = some true
def exK1 (K : PySem.W.Frag) (n : Str) : Bool := exB K n && ((exNames.all fun m => decide (PySem.W.kitOne K (.ref (He.ga K n)) (.ref (He.ga K m)) = some (decide (n = m)))) && (decide (PySem.W.kitOne K (.ref (He.ga K n)) (.type "ValueError") = some true) &&
  ((["BadLayout", "Unlike"].all fun m => decide (PySem.W.exmOne K (.ref (He.ga K n)) (.ref (He.ga K m)) = some (decide (n = m)))) && decide (PySem.W.exmOne K (.ref (He.ga K n)) (.ref (He.ga K "LeafError")) = some true))))
def exAllB (K : PySem.W.Frag) : Bool := exNames.all fun n => exK1 K n
theorem exAll_ok {K : PySem.W.Frag} (h : exAllB K = true) : ∀ n ∈ exNames, ExK K n := fun n hn => by
  obtain ⟨h1, h⟩ := He.ba (show (exB K n && _) = true from List.all_eq_true.mp h n hn)
  obtain ⟨h2, h⟩ := He.ba h
  obtain ⟨h3, h⟩ := He.ba h
  obtain ⟨h4, h5⟩ := He.ba h
  exact ⟨exB_ok h1, fun m hm => of_decide_eq_true (List.all_eq_true.mp h2 m hm), of_decide_eq_true h3, fun m hm => of_decide_eq_true (List.all_eq_true.mp h4 m hm), of_decide_eq_true h5⟩
/-- those without an own __init__ -/
def exPlain : List Str := ["BadBar", "BadPlace", "BadDesk", "BadRepeats", "Full", "Nothing", "BadText"]
def exPlainB (K : PySem.W.Frag) : Bool := exPlain.all fun n => PySem.W.excIn K (He.ga K n) [.type "ValueError", .type "Exception", .type "BaseException", .type "object"] "ValueError.__new__"
theorem exPlain_ok {K : PySem.W.Frag} (h : exPlainB K = true) : ∀ n ∈ exPlain, PySem.W.excIn K (He.ga K n) [.type "ValueError", .type "Exception", .type "BaseException", .type "object"] "ValueError.__new__" = true := fun n hn => List.all_eq_true.mp h n hn
/-- those with one -/
def oexB (K : PySem.W.Frag) (C : Addr) : Bool := match K.lookup C with
  | some ⟨.type t, _, .cls cd, sl⟩ => decide (t = "type") && (match cd.mro, sl.toList with
    | .ref D :: bm, [_, _, _, _, some (.builtin n), _] => decide (D = C) && (decide (n = "ValueError.__new__") && (!cd.hasDel && (cd.hasDict && HandSPX.refsVE bm)))
    | _, _ => false)
  | _ => false
theorem oexB_ok {K : PySem.W.Frag} {C : Addr} (h : oexB K C = true) : ∃ nm q N bs bm sn sub ab col dd k0 k1 k2 k3 k5, K.lookup C = some (excClassObj nm q C N bs bm true sn sub ab col dd k0 k1 k2 k3 k5 "ValueError.__new__") ∧ HandSPX.refsVE bm = true := by
  unfold oexB at h
  split at h
  · rename_i t dd cd sl ho
    obtain ⟨h1, h2⟩ := He.ba h
    split at h2
    · rename_i D bm k0 k1 k2 k3 n k5 hm hs
      obtain ⟨g1, h3⟩ := He.ba h2
      obtain ⟨g2, h4⟩ := He.ba h3
      obtain ⟨g3, h5⟩ := He.ba h4
      obtain ⟨g4, g5⟩ := He.ba h5
      have e1 : D = C := of_decide_eq_true g1
      have e2 : n = "ValueError.__new__" := of_decide_eq_true g2
      have e0 : t = "type" := of_decide_eq_true h1
      have e3 : cd.hasDel = false := by cases q : cd.hasDel with | false => rfl | true => rw [q] at g3; cases g3
      obtain ⟨nm, bs, mro, ns, qn, hd, sn, sub, ab, col, del⟩ := cd
      dsimp only at hm e3 g4
      subst hm e3 g4 e1 e2 e0
      have e4 : sl = #[k0, k1, k2, k3, some (.builtin "ValueError.__new__"), k5] := by
        obtain ⟨l⟩ := sl
        exact congrArg Array.mk hs
      subst e4
      exact ⟨nm, qn, ns, bs, bm, sn, sub, ab, col, dd, k0, k1, k2, k3, k5, ho, g5⟩
    · cases h2
  · cases h
structure ExO2 (K : PySem.W.Frag) (n f : Str) : Prop where
  cls : ∃ nm q N bs bm sn sub ab col dd k0 k1 k2 k3 k5, K.lookup (He.ga K n) = some (excClassObj nm q (He.ga K n) N bs bm true sn sub ab col dd k0 k1 k2 k3 k5 "ValueError.__new__") ∧ HandSPX.refsVE bm = true
  sa : PySem.W.findIn K (.ref (He.ga K n)) "__setattr__" = some (some (.builtin "object.__setattr__"))
  no : PySem.W.findIn K (.ref (He.ga K n)) f = some none
  ini : PySem.W.findIn K (.ref (He.ga K n)) "__init__" = some (some (.ref (He.fAd K (n, some "__init__"))))
  fn : PySem.W.typeIn K (.ref (He.fAd K (n, some "__init__"))) = some (.type "function")
def exO2B (K : PySem.W.Frag) (n f : Str) : Bool := oexB K (He.ga K n) && (He.eqO (PySem.W.findIn K (.ref (He.ga K n)) "__setattr__") (some (some (.builtin "object.__setattr__"))) && (He.eqO (PySem.W.findIn K (.ref (He.ga K n)) f) (some none) &&
  (He.eqO (PySem.W.findIn K (.ref (He.ga K n)) "__init__") (some (some (.ref (He.fAd K (n, some "__init__"))))) && decide (PySem.W.typeIn K (.ref (He.fAd K (n, some "__init__"))) = some (.type "function")))))
theorem exO2_ok {K : PySem.W.Frag} {n f : Str} (h : exO2B K n f = true) : ExO2 K n f := by
  obtain ⟨h1, h⟩ := He.ba h
  obtain ⟨h2, h⟩ := He.ba h
  obtain ⟨h3, h⟩ := He.ba h
  obtain ⟨h4, h5⟩ := He.ba h
  exact ⟨oexB_ok h1, He.eqO_ok h2, He.eqO_ok h3, He.eqO_ok h4, of_decide_eq_true h5⟩
/-- LeafError.__init__ -/
def leafB (K : PySem.W.Frag) : Bool := PySem.W.readsIn K (He.ga K "LeafError") (.type "type") && (PySem.W.keepIn K (.ref (He.ga K "LeafError")) && (decide (PySem.W.specialIn K (.ref (He.ga K "LeafError")) "__getattribute__" = some (some (.builtin "type.__getattribute__"))) && (match PySem.W.findCls K (.ref (He.ga K "LeafError")) (.type "type") "__init__" with
  | some (.val (.builtin n)) => decide (n = "ValueError.__init__")
  | _ => false)))
structure LeafI (K : PySem.W.Frag) : Prop where
  rd : PySem.W.readsIn K (He.ga K "LeafError") (.type "type") = true
  kp : PySem.W.keepIn K (.ref (He.ga K "LeafError")) = true
  sp : PySem.W.specialIn K (.ref (He.ga K "LeafError")) "__getattribute__" = some (some (.builtin "type.__getattribute__"))
  fc : PySem.W.findCls K (.ref (He.ga K "LeafError")) (.type "type") "__init__" = some (.val (.builtin "ValueError.__init__"))
theorem leaf_ok {K : PySem.W.Frag} (h : leafB K = true) : LeafI K := by
  obtain ⟨h1, h⟩ := He.ba h
  obtain ⟨h2, h⟩ := He.ba h
  obtain ⟨h3, h4⟩ := He.ba h
  refine ⟨h1, h2, of_decide_eq_true h3, ?_⟩
  split at h4
  · rename_i n e
    rw [e, of_decide_eq_true h4]
  · cases h4
/-! ### the Hook, with the machine's own marks looked at, too -/
def asY (g : Addr → Option Obj) (n : Nat) : List Addr := cStatics :: He.asD g n
abbrev frY (g : Addr → Option Obj) (n : Nat) : PySem.W.Frag := He.frT g (asY g n)
def obsY (n : Nat) (fa : List He.Fa) (fn : List He.DefD) (tf : List He.Defn) (ex : PySem.W.Frag → Bool) (g : Addr → Option Obj) : He.AlX := (He.obsT fa fn [] (frY g n), ex (frY g n) && He.tabsB g tf (frY g n))
theorem saysY_of {n : Nat} {fa : List He.Fa} {fn : List He.DefD} {tf : List He.Defn} {ex : PySem.W.Frag → Bool} {w : World} {h : Heap} (e : obsY n fa fn tf ex h.get? = He.valX fn [] w) : He.SaysX fa fn [] tf ex w h (frY h.get? n) := by
  obtain ⟨m1, m2⟩ := He.ba (show (ex (frY h.get? n) && He.tabsB h.get? tf (frY h.get? n)) = true from congrArg (fun z : He.AlX => z.2) e)
  have tab : ∀ p ∈ tf, PySem.W.codeHdIn (frY h.get? n) (He.cT (frY h.get? n) p).1 (He.cT (frY h.get? n) p).2 = true ∧ ∃ o, h.get? (He.cT (frY h.get? n) p).2 = some o ∧ He.emptyTab o = true := fun p hp => by
    obtain ⟨c1, c2⟩ := He.ba (List.all_eq_true.mp m2 p hp)
    refine ⟨c1, ?_⟩
    cases q : h.get? (He.cT (frY h.get? n) p).2 with
    | none => rw [q] at c2; cases c2
    | some o => rw [q] at c2; exact ⟨o, rfl, c2⟩
  refine ⟨congrArg (fun z : He.AlX => z.1) e, m1, fun p hp => (tab p hp).1, fun p hp => ?_, fun p hp => ?_⟩ <;> obtain ⟨_, o, q, z⟩ := tab p hp
  · exact He.frT_none q z
  · rw [q, He.emptyTab_eq z]
def hookY (n : Nat) (fa : List He.Fa) (fn : List He.DefD) (tf : List He.Defn) (ex : PySem.W.Frag → Bool) : PySem.W.Hook where
  α := He.AlX
  obs := fun s => obsY n fa fn tf ex s.heap.get?
  val := fun w => He.valX fn [] w
  says := fun w h => ∃ K : PySem.W.Frag, K.In h ∧ He.SaysX fa fn [] tf ex w h K
  of := fun _ _ e => ⟨_, He.frT_in, saysY_of e⟩
  keeps := fun _ _ _ ⟨K, hK, c⟩ k => ⟨K, hK.keeps k, ⟨c.t, c.more, c.hd, c.out, fun p hp => k _ _ (c.empty p hp)⟩⟩
theorem obsY_eq {n : Nat} {fa : List He.Fa} {fn : List He.DefD} {tf : List He.Defn} {ex : PySem.W.Frag → Bool} {g : Addr → Option Obj} {s : Shared} (h : ∀ a, g a = s.heap.get? a) : obsY n fa fn tf ex g = (hookY n fa fn tf ex).obs s := by
  rw [show g = s.heap.get? from funext h] <;> rfl

def topS (i : Nat) : Stmt := PySem.Challenge.pw_turnedleaves_k80_whole_saved_and_woken.main.body.getD i (.Pass ⟨0, 0, 0, 0⟩)
abbrev s__wall : Stmt := topS 0
abbrev s_BadLayout_init : Stmt := inClass (topS 10) 0
abbrev s_Unlike_init : Stmt := inClass (topS 11) 0
abbrev s_is_number : Stmt := topS 14
abbrev s_is_bar : Stmt := topS 15
abbrev s_beats_of : Stmt := topS 16
abbrev s_Part_init : Stmt := inClass (topS 17) 0
abbrev s_Part_len : Stmt := inClass (topS 17) 1
abbrev s_Part_eq : Stmt := inClass (topS 17) 2
abbrev s_Part_str : Stmt := inClass (topS 17) 3
abbrev s_Part_bars : Stmt := inClass (topS 17) 4
abbrev s_Part_becomes : Stmt := inClass (topS 17) 5
abbrev s_Part_put : Stmt := inClass (topS 17) 6
abbrev s_Part_drop : Stmt := inClass (topS 17) 7
abbrev s_Part_take_back : Stmt := inClass (topS 17) 8
abbrev s_Part_ahead : Stmt := inClass (topS 17) 9
abbrev s_Part_behind : Stmt := inClass (topS 17) 10
abbrev s_Part_rest : Stmt := inClass (topS 17) 11
abbrev s_Part_wide : Stmt := inClass (topS 17) 12
abbrev s_saved : Stmt := topS 21
abbrev s_need : Stmt := topS 22
abbrev s_figure : Stmt := topS 23
abbrev s_bar_of : Stmt := topS 24
abbrev s_woken : Stmt := topS 25
abbrev s__law_cell : Stmt := topS 27
abbrev s__law_drawn : Stmt := topS 28
abbrev s__law_roll : Stmt := topS 29
abbrev s__law_rounds : Stmt := topS 30
abbrev s__law_word : Stmt := topS 31
abbrev s__law_told : Stmt := topS 32
abbrev s__law_bar : Stmt := topS 33
abbrev s__law_row : Stmt := topS 34
abbrev s_law : Stmt := topS 35
def dd_BadLayout_init : He.DefD := ⟨("BadLayout", some "__init__"), "__init__", "BadLayout.__init__", defArgs s_BadLayout_init, defBody s_BadLayout_init, defScope s_BadLayout_init, [], []⟩
def dd_Unlike_init : He.DefD := ⟨("Unlike", some "__init__"), "__init__", "Unlike.__init__", defArgs s_Unlike_init, defBody s_Unlike_init, defScope s_Unlike_init, [], []⟩
def dd_is_number : He.DefD := ⟨("is_number", none), "is_number", "is_number", defArgs s_is_number, defBody s_is_number, defScope s_is_number, [], []⟩
def dd_is_bar : He.DefD := ⟨("is_bar", none), "is_bar", "is_bar", defArgs s_is_bar, defBody s_is_bar, defScope s_is_bar, [], []⟩
def dd_beats_of : He.DefD := ⟨("beats_of", none), "beats_of", "beats_of", defArgs s_beats_of, defBody s_beats_of, defScope s_beats_of, [], []⟩
def dd_Part_init : He.DefD := ⟨("Part", some "__init__"), "__init__", "Part.__init__", defArgs s_Part_init, defBody s_Part_init, defScope s_Part_init, [.non], []⟩
def dd_Part_len : He.DefD := ⟨("Part", some "__len__"), "__len__", "Part.__len__", defArgs s_Part_len, defBody s_Part_len, defScope s_Part_len, [], []⟩
def dd_Part_eq : He.DefD := ⟨("Part", some "__eq__"), "__eq__", "Part.__eq__", defArgs s_Part_eq, defBody s_Part_eq, defScope s_Part_eq, [], []⟩
def dd_Part_str : He.DefD := ⟨("Part", some "__str__"), "__str__", "Part.__str__", defArgs s_Part_str, defBody s_Part_str, defScope s_Part_str, [], []⟩
def dd_Part_bars : He.DefD := ⟨("Part", some "bars"), "bars", "Part.bars", defArgs s_Part_bars, defBody s_Part_bars, defScope s_Part_bars, [], []⟩
def dd_Part_becomes : He.DefD := ⟨("Part", some "becomes"), "becomes", "Part.becomes", defArgs s_Part_becomes, defBody s_Part_becomes, defScope s_Part_becomes, [], []⟩
def dd_Part_put : He.DefD := ⟨("Part", some "put"), "put", "Part.put", defArgs s_Part_put, defBody s_Part_put, defScope s_Part_put, [], []⟩
def dd_Part_drop : He.DefD := ⟨("Part", some "drop"), "drop", "Part.drop", defArgs s_Part_drop, defBody s_Part_drop, defScope s_Part_drop, [], []⟩
def dd_Part_take_back : He.DefD := ⟨("Part", some "take_back"), "take_back", "Part.take_back", defArgs s_Part_take_back, defBody s_Part_take_back, defScope s_Part_take_back, [], []⟩
def dd_Part_ahead : He.DefD := ⟨("Part", some "ahead"), "ahead", "Part.ahead", defArgs s_Part_ahead, defBody s_Part_ahead, defScope s_Part_ahead, [], []⟩
def dd_Part_behind : He.DefD := ⟨("Part", some "behind"), "behind", "Part.behind", defArgs s_Part_behind, defBody s_Part_behind, defScope s_Part_behind, [], []⟩
def dd_Part_rest : He.DefD := ⟨("Part", some "rest"), "rest", "Part.rest", defArgs s_Part_rest, defBody s_Part_rest, defScope s_Part_rest, [], []⟩
def dd_saved : He.DefD := ⟨("saved", none), "saved", "saved", defArgs s_saved, defBody s_saved, defScope s_saved, [], []⟩
def dd_need : He.DefD := ⟨("need", none), "need", "need", defArgs s_need, defBody s_need, defScope s_need, [], []⟩
def dd_figure : He.DefD := ⟨("figure", none), "figure", "figure", defArgs s_figure, defBody s_figure, defScope s_figure, [], []⟩
def dd_bar_of : He.DefD := ⟨("bar_of", none), "bar_of", "bar_of", defArgs s_bar_of, defBody s_bar_of, defScope s_bar_of, [], []⟩
def dd_woken : He.DefD := ⟨("woken", none), "woken", "woken", defArgs s_woken, defBody s_woken, defScope s_woken, [], []⟩
def dd__law_cell : He.DefD := ⟨("_law_cell", none), "_law_cell", "_law_cell", defArgs s__law_cell, defBody s__law_cell, defScope s__law_cell, [], []⟩
def dd__law_drawn : He.DefD := ⟨("_law_drawn", none), "_law_drawn", "_law_drawn", defArgs s__law_drawn, defBody s__law_drawn, defScope s__law_drawn, [], []⟩
def dd__law_roll : He.DefD := ⟨("_law_roll", none), "_law_roll", "_law_roll", defArgs s__law_roll, defBody s__law_roll, defScope s__law_roll, [], []⟩
def dd__law_rounds : He.DefD := ⟨("_law_rounds", none), "_law_rounds", "_law_rounds", defArgs s__law_rounds, defBody s__law_rounds, defScope s__law_rounds, [], []⟩
def dd__law_word : He.DefD := ⟨("_law_word", none), "_law_word", "_law_word", defArgs s__law_word, defBody s__law_word, defScope s__law_word, [], []⟩
def dd__law_told : He.DefD := ⟨("_law_told", none), "_law_told", "_law_told", defArgs s__law_told, defBody s__law_told, defScope s__law_told, [], []⟩
def dd__law_bar : He.DefD := ⟨("_law_bar", none), "_law_bar", "_law_bar", defArgs s__law_bar, defBody s__law_bar, defScope s__law_bar, [], []⟩
def dd__law_row : He.DefD := ⟨("_law_row", none), "_law_row", "_law_row", defArgs s__law_row, defBody s__law_row, defScope s__law_row, [], []⟩
def dd_law : He.DefD := ⟨("law", none), "law", "law", defArgs s_law, defBody s_law, defScope s_law, [], []⟩
def tf : List He.Defn := [("law", none)]
def fn_0 : List He.DefD := [dd_BadLayout_init, dd_Unlike_init, dd_is_number, dd_is_bar, dd_beats_of, dd_Part_init, dd_Part_len, dd_Part_eq, dd_Part_str, dd_Part_bars, dd_Part_becomes, dd_Part_put, dd_Part_drop, dd_Part_take_back, dd_Part_ahead, dd_Part_behind, dd_Part_rest, dd_saved, dd_need, dd_figure, dd_bar_of, dd_woken, dd__law_cell, dd__law_drawn, dd__law_roll]
def fn_1 : List He.DefD := [dd__law_rounds, dd__law_word, dd__law_told, dd__law_bar, dd__law_row, dd_law]
def fn : List He.DefD := fn_0 ++ fn_1
def fa_0 : List He.Fa := [.glo "is_number", .glo "is_bar", .glo "beats_of", .glo "saved", .glo "need", .glo "figure", .glo "bar_of", .glo "woken", .glo "_law_cell", .glo "_law_drawn", .glo "_law_roll", .glo "_law_rounds", .glo "_law_word", .glo "_law_told", .glo "_law_bar", .glo "_law_row", .glo "law", .free "len", .free "isinstance", .free "range", .free "list", .free "all", .free "int", .free "bool", .free "str"]
def fa_1 : List He.Fa := [.free "tuple", .free "max", .free "min", .free "sum", .free "ValueError", .int "MOST" 40, .str "END" ".", .str "FIGURES" "0123456789", .glo "LeafError", .glo "BadBar", .glo "BadPlace", .glo "BadDesk", .glo "BadRepeats", .glo "Full", .glo "Nothing", .glo "BadText", .glo "BadLayout", .glo "Unlike", .cls "Part", .mkr "Part", .noat "Part" "row", .noat "Part" "past", .meth "Part" "__init__", .meth "Part" "__len__", .meth "Part" "__eq__"]
def fa_2 : List He.Fa := [.meth "Part" "__str__", .meth "Part" "bars", .meth "Part" "becomes", .meth "Part" "put", .meth "Part" "drop", .meth "Part" "take_back", .meth "Part" "ahead", .meth "Part" "behind", .meth "Part" "rest", .glo "Part"]
def fa : List He.Fa := fa_0 ++ fa_1 ++ fa_2
def exs_0 : List (PySem.W.Frag → Bool) := [(fun K => He.eqO (PySem.W.findIn K (.ref (He.ga K "Part")) "__class__") (some (some (.builtin "object.__class__")))), (fun K => He.eqO (PySem.W.specialIn K (.builtin "object.__class__") "__get__") (some (some (.builtin "getset_descriptor.__get__")))), (fun K => decide (PySem.W.takesIn K (.builtin "object.__class__") = some true)), (fun K => decide (PySem.W.mroIn K (He.ga K "Part") (.type "object") = some true)), (fun K => decide (PySem.W.kitOne K (.ref (He.ga K "Part")) (.ref (He.ga K "Part")) = some true)), (fun K => decide (PySem.W.kitOne K (.type "NoneType") (.ref (He.ga K "Part")) = some false)), (fun K => decide (PySem.W.kitOne K (.type "bool") (.ref (He.ga K "Part")) = some false)), (fun K => decide (PySem.W.kitOne K (.type "int") (.ref (He.ga K "Part")) = some false)), (fun K => decide (PySem.W.kitOne K (.type "str") (.ref (He.ga K "Part")) = some false)), (fun K => decide (PySem.W.kitOne K (.type "list") (.ref (He.ga K "Part")) = some false)), (fun K => decide (PySem.W.kitOne K (.type "tuple") (.ref (He.ga K "Part")) = some false)), (fun K => decide (PySem.W.kitOne K (.ref (He.ga K "Part")) (.type "list") = some false)), (fun K => decide (PySem.W.kitOne K (.ref (He.ga K "Part")) (.type "tuple") = some false)), (fun K => decide (PySem.W.kitOne K (.ref (He.ga K "Part")) (.type "int") = some false)), (fun K => decide (PySem.W.kitOne K (.ref (He.ga K "Part")) (.type "bool") = some false)), (fun K => decide (PySem.W.kitOne K (.ref (He.ga K "Part")) (.type "str") = some false)), (fun K => He.eqO (PySem.W.findIn K (.ref (He.ga K "Part")) "__ne__") (some (some (.builtin "object.__ne__")))), (fun K => PySem.W.notFirst K (He.ga K "Part") (.type "NoneType")), (fun K => PySem.W.notFirst K (He.ga K "Part") (.type "bool")), (fun K => PySem.W.notFirst K (He.ga K "Part") (.type "int")), (fun K => PySem.W.notFirst K (He.ga K "Part") (.type "str")), (fun K => PySem.W.notFirst K (He.ga K "Part") (.type "list")), (fun K => PySem.W.notFirst K (He.ga K "Part") (.type "tuple")), (fun K => exAllB K), (fun K => exPlainB K)]
def exs_1 : List (PySem.W.Frag → Bool) := [(fun K => exO2B K "BadLayout" "page"), (fun K => exO2B K "Unlike" "bar"), (fun K => leafB K)]
def exs : List (PySem.W.Frag → Bool) := exs_0 ++ exs_1
def loose_0 : List PySem.Str := ["_wall", "LeafError", "BadBar", "BadPlace", "BadDesk", "BadRepeats", "Full", "Nothing", "BadText", "BadLayout", "Unlike", "MOST", "is_number", "is_bar", "beats_of", "Part", "END", "FIGURES", "saved", "need", "figure", "bar_of", "woken", "_law_cell", "_law_drawn"]
def loose_1 : List PySem.Str := ["_law_roll", "_law_rounds", "_law_word", "_law_told", "_law_bar", "_law_row"]
def loose : List PySem.Str := loose_0 ++ loose_1
structure Txt (K : PySem.W.Frag) (mg : Str → Option Value) : Prop where
  BadLayout_init : Df K ("BadLayout", some "__init__") "__init__" "BadLayout.__init__" s_BadLayout_init []
  Unlike_init : Df K ("Unlike", some "__init__") "__init__" "Unlike.__init__" s_Unlike_init []
  is_number : Df K ("is_number", none) "is_number" "is_number" s_is_number []
  is_bar : Df K ("is_bar", none) "is_bar" "is_bar" s_is_bar []
  beats_of : Df K ("beats_of", none) "beats_of" "beats_of" s_beats_of []
  Part_init : Df K ("Part", some "__init__") "__init__" "Part.__init__" s_Part_init [.non]
  Part_len : Df K ("Part", some "__len__") "__len__" "Part.__len__" s_Part_len []
  Part_eq : Df K ("Part", some "__eq__") "__eq__" "Part.__eq__" s_Part_eq []
  Part_str : Df K ("Part", some "__str__") "__str__" "Part.__str__" s_Part_str []
  Part_bars : Df K ("Part", some "bars") "bars" "Part.bars" s_Part_bars []
  Part_becomes : Df K ("Part", some "becomes") "becomes" "Part.becomes" s_Part_becomes []
  Part_put : Df K ("Part", some "put") "put" "Part.put" s_Part_put []
  Part_drop : Df K ("Part", some "drop") "drop" "Part.drop" s_Part_drop []
  Part_take_back : Df K ("Part", some "take_back") "take_back" "Part.take_back" s_Part_take_back []
  Part_ahead : Df K ("Part", some "ahead") "ahead" "Part.ahead" s_Part_ahead []
  Part_behind : Df K ("Part", some "behind") "behind" "Part.behind" s_Part_behind []
  Part_rest : Df K ("Part", some "rest") "rest" "Part.rest" s_Part_rest []
  saved : Df K ("saved", none) "saved" "saved" s_saved []
  need : Df K ("need", none) "need" "need" s_need []
  figure : Df K ("figure", none) "figure" "figure" s_figure []
  bar_of : Df K ("bar_of", none) "bar_of" "bar_of" s_bar_of []
  woken : Df K ("woken", none) "woken" "woken" s_woken []
  _law_cell : Df K ("_law_cell", none) "_law_cell" "_law_cell" s__law_cell []
  _law_drawn : Df K ("_law_drawn", none) "_law_drawn" "_law_drawn" s__law_drawn []
  _law_roll : Df K ("_law_roll", none) "_law_roll" "_law_roll" s__law_roll []
  _law_rounds : Df K ("_law_rounds", none) "_law_rounds" "_law_rounds" s__law_rounds []
  _law_word : Df K ("_law_word", none) "_law_word" "_law_word" s__law_word []
  _law_told : Df K ("_law_told", none) "_law_told" "_law_told" s__law_told []
  _law_bar : Df K ("_law_bar", none) "_law_bar" "_law_bar" s__law_bar []
  _law_row : Df K ("_law_row", none) "_law_row" "_law_row" s__law_row []
  law : Df K ("law", none) "law" "law" s_law []
  g_is_number : mg "is_number" = some (.ref (He.fAd K ("is_number", none)))
  g_is_bar : mg "is_bar" = some (.ref (He.fAd K ("is_bar", none)))
  g_beats_of : mg "beats_of" = some (.ref (He.fAd K ("beats_of", none)))
  g_saved : mg "saved" = some (.ref (He.fAd K ("saved", none)))
  g_need : mg "need" = some (.ref (He.fAd K ("need", none)))
  g_figure : mg "figure" = some (.ref (He.fAd K ("figure", none)))
  g_bar_of : mg "bar_of" = some (.ref (He.fAd K ("bar_of", none)))
  g_woken : mg "woken" = some (.ref (He.fAd K ("woken", none)))
  g__law_cell : mg "_law_cell" = some (.ref (He.fAd K ("_law_cell", none)))
  g__law_drawn : mg "_law_drawn" = some (.ref (He.fAd K ("_law_drawn", none)))
  g__law_roll : mg "_law_roll" = some (.ref (He.fAd K ("_law_roll", none)))
  g__law_rounds : mg "_law_rounds" = some (.ref (He.fAd K ("_law_rounds", none)))
  g__law_word : mg "_law_word" = some (.ref (He.fAd K ("_law_word", none)))
  g__law_told : mg "_law_told" = some (.ref (He.fAd K ("_law_told", none)))
  g__law_bar : mg "_law_bar" = some (.ref (He.fAd K ("_law_bar", none)))
  g__law_row : mg "_law_row" = some (.ref (He.fAd K ("_law_row", none)))
  g_law : mg "law" = some (.ref (He.fAd K ("law", none)))
  b_len : mg "len" = none
  b_isinstance : mg "isinstance" = none
  b_range : mg "range" = none
  b_list : mg "list" = none
  b_all : mg "all" = none
  b_int : mg "int" = none
  b_bool : mg "bool" = none
  b_str : mg "str" = none
  b_tuple : mg "tuple" = none
  b_max : mg "max" = none
  b_min : mg "min" = none
  b_sum : mg "sum" = none
  b_ValueError : mg "ValueError" = none
  c_MOST : ∃ t, mg "MOST" = some (.int 40 t)
  c_END : ∃ t, mg "END" = some (.str "." t)
  c_FIGURES : ∃ t, mg "FIGURES" = some (.str "0123456789" t)
  g_LeafError : mg "LeafError" = some (.ref (He.ga K "LeafError"))
  g_BadBar : mg "BadBar" = some (.ref (He.ga K "BadBar"))
  g_BadPlace : mg "BadPlace" = some (.ref (He.ga K "BadPlace"))
  g_BadDesk : mg "BadDesk" = some (.ref (He.ga K "BadDesk"))
  g_BadRepeats : mg "BadRepeats" = some (.ref (He.ga K "BadRepeats"))
  g_Full : mg "Full" = some (.ref (He.ga K "Full"))
  g_Nothing : mg "Nothing" = some (.ref (He.ga K "Nothing"))
  g_BadText : mg "BadText" = some (.ref (He.ga K "BadText"))
  g_BadLayout : mg "BadLayout" = some (.ref (He.ga K "BadLayout"))
  g_Unlike : mg "Unlike" = some (.ref (He.ga K "Unlike"))
  cl_Part : Cls K (He.ga K "Part")
  mk_Part : Mk K (He.ga K "Part") (He.fAd K ("Part", some "__init__"))
  n_row : NoAttr K (He.ga K "Part") "row"
  n_past : NoAttr K (He.ga K "Part") "past"
  m_Part_init : Meth K (He.ga K "Part") "__init__" (He.fAd K ("Part", some "__init__"))
  m_Part_len : Meth K (He.ga K "Part") "__len__" (He.fAd K ("Part", some "__len__"))
  m_Part_eq : Meth K (He.ga K "Part") "__eq__" (He.fAd K ("Part", some "__eq__"))
  m_Part_str : Meth K (He.ga K "Part") "__str__" (He.fAd K ("Part", some "__str__"))
  m_Part_bars : Meth K (He.ga K "Part") "bars" (He.fAd K ("Part", some "bars"))
  m_Part_becomes : Meth K (He.ga K "Part") "becomes" (He.fAd K ("Part", some "becomes"))
  m_Part_put : Meth K (He.ga K "Part") "put" (He.fAd K ("Part", some "put"))
  m_Part_drop : Meth K (He.ga K "Part") "drop" (He.fAd K ("Part", some "drop"))
  m_Part_take_back : Meth K (He.ga K "Part") "take_back" (He.fAd K ("Part", some "take_back"))
  m_Part_ahead : Meth K (He.ga K "Part") "ahead" (He.fAd K ("Part", some "ahead"))
  m_Part_behind : Meth K (He.ga K "Part") "behind" (He.fAd K ("Part", some "behind"))
  m_Part_rest : Meth K (He.ga K "Part") "rest" (He.fAd K ("Part", some "rest"))
  k_class : PySem.W.findIn K (.ref (He.ga K "Part")) "__class__" = some (some (.builtin "object.__class__"))
  k_get : PySem.W.specialIn K (.builtin "object.__class__") "__get__" = some (some (.builtin "getset_descriptor.__get__"))
  k_takes : PySem.W.takesIn K (.builtin "object.__class__") = some true
  k_mro : PySem.W.mroIn K (He.ga K "Part") (.type "object") = some true
  k_self : PySem.W.kitOne K (.ref (He.ga K "Part")) (.ref (He.ga K "Part")) = some true
  k_NoneType : PySem.W.kitOne K (.type "NoneType") (.ref (He.ga K "Part")) = some false
  k_bool : PySem.W.kitOne K (.type "bool") (.ref (He.ga K "Part")) = some false
  k_int : PySem.W.kitOne K (.type "int") (.ref (He.ga K "Part")) = some false
  k_str : PySem.W.kitOne K (.type "str") (.ref (He.ga K "Part")) = some false
  k_list : PySem.W.kitOne K (.type "list") (.ref (He.ga K "Part")) = some false
  k_tuple : PySem.W.kitOne K (.type "tuple") (.ref (He.ga K "Part")) = some false
  k_nolist : PySem.W.kitOne K (.ref (He.ga K "Part")) (.type "list") = some false
  k_notuple : PySem.W.kitOne K (.ref (He.ga K "Part")) (.type "tuple") = some false
  k_noint : PySem.W.kitOne K (.ref (He.ga K "Part")) (.type "int") = some false
  k_nobool : PySem.W.kitOne K (.ref (He.ga K "Part")) (.type "bool") = some false
  k_nostr : PySem.W.kitOne K (.ref (He.ga K "Part")) (.type "str") = some false
  k_ne : PySem.W.findIn K (.ref (He.ga K "Part")) "__ne__" = some (some (.builtin "object.__ne__"))
  k_first_NoneType : PySem.W.notFirst K (He.ga K "Part") (.type "NoneType") = true
  k_first_bool : PySem.W.notFirst K (He.ga K "Part") (.type "bool") = true
  k_first_int : PySem.W.notFirst K (He.ga K "Part") (.type "int") = true
  k_first_str : PySem.W.notFirst K (He.ga K "Part") (.type "str") = true
  k_first_list : PySem.W.notFirst K (He.ga K "Part") (.type "list") = true
  k_first_tuple : PySem.W.notFirst K (He.ga K "Part") (.type "tuple") = true
  g_Part : mg "Part" = some (.ref (He.ga K "Part"))
  k_exc : exAllB K = true
  k_plain : exPlainB K = true
  k_BadLayout : exO2B K "BadLayout" "page" = true
  k_Unlike : exO2B K "Unlike" "bar" = true
  k_leaf : leafB K = true
def ex (K : PySem.W.Frag) : Bool := exs.all fun f => f K
theorem exAt {K : PySem.W.Frag} (h : ex K = true) (i : Nat) {f : PySem.W.Frag → Bool} (e : exs[i]? = some f) : f K = true := List.all_eq_true.mp h f (List.mem_of_getElem? e)
theorem txt_of {tf : List He.Defn} {w : World} {h h0 : Heap} {K : PySem.W.Frag} {mg : Str → Option Value} (X : K.In h) (G : h.Ns mainGlobals mg) (c : He.SaysX fa fn [] tf ex w h0 K) : Txt K mg := ⟨df_of (c.t.d.defs (d := dd_BadLayout_init) (by simp [fn, fn_0])),
  df_of (c.t.d.defs (d := dd_Unlike_init) (by simp [fn, fn_0])),
  df_of (c.t.d.defs (d := dd_is_number) (by simp [fn, fn_0])),
  df_of (c.t.d.defs (d := dd_is_bar) (by simp [fn, fn_0])),
  df_of (c.t.d.defs (d := dd_beats_of) (by simp [fn, fn_0])),
  df_of (c.t.d.defs (d := dd_Part_init) (by simp [fn, fn_0])),
  df_of (c.t.d.defs (d := dd_Part_len) (by simp [fn, fn_0])),
  df_of (c.t.d.defs (d := dd_Part_eq) (by simp [fn, fn_0])),
  df_of (c.t.d.defs (d := dd_Part_str) (by simp [fn, fn_0])),
  df_of (c.t.d.defs (d := dd_Part_bars) (by simp [fn, fn_0])),
  df_of (c.t.d.defs (d := dd_Part_becomes) (by simp [fn, fn_0])),
  df_of (c.t.d.defs (d := dd_Part_put) (by simp [fn, fn_0])),
  df_of (c.t.d.defs (d := dd_Part_drop) (by simp [fn, fn_0])),
  df_of (c.t.d.defs (d := dd_Part_take_back) (by simp [fn, fn_0])),
  df_of (c.t.d.defs (d := dd_Part_ahead) (by simp [fn, fn_0])),
  df_of (c.t.d.defs (d := dd_Part_behind) (by simp [fn, fn_0])),
  df_of (c.t.d.defs (d := dd_Part_rest) (by simp [fn, fn_0])),
  df_of (c.t.d.defs (d := dd_saved) (by simp [fn, fn_0])),
  df_of (c.t.d.defs (d := dd_need) (by simp [fn, fn_0])),
  df_of (c.t.d.defs (d := dd_figure) (by simp [fn, fn_0])),
  df_of (c.t.d.defs (d := dd_bar_of) (by simp [fn, fn_0])),
  df_of (c.t.d.defs (d := dd_woken) (by simp [fn, fn_0])),
  df_of (c.t.d.defs (d := dd__law_cell) (by simp [fn, fn_0])),
  df_of (c.t.d.defs (d := dd__law_drawn) (by simp [fn, fn_0])),
  df_of (c.t.d.defs (d := dd__law_roll) (by simp [fn, fn_0])),
  df_of (c.t.d.defs (d := dd__law_rounds) (by simp [fn, fn_1])),
  df_of (c.t.d.defs (d := dd__law_word) (by simp [fn, fn_1])),
  df_of (c.t.d.defs (d := dd__law_told) (by simp [fn, fn_1])),
  df_of (c.t.d.defs (d := dd__law_bar) (by simp [fn, fn_1])),
  df_of (c.t.d.defs (d := dd__law_row) (by simp [fn, fn_1])),
  df_of (c.t.d.defs (d := dd_law) (by simp [fn, fn_1])),
  He.glo_ok X G (c.t.d.facts (f := .glo "is_number") (by simp [fa, fa_0])),
  He.glo_ok X G (c.t.d.facts (f := .glo "is_bar") (by simp [fa, fa_0])),
  He.glo_ok X G (c.t.d.facts (f := .glo "beats_of") (by simp [fa, fa_0])),
  He.glo_ok X G (c.t.d.facts (f := .glo "saved") (by simp [fa, fa_0])),
  He.glo_ok X G (c.t.d.facts (f := .glo "need") (by simp [fa, fa_0])),
  He.glo_ok X G (c.t.d.facts (f := .glo "figure") (by simp [fa, fa_0])),
  He.glo_ok X G (c.t.d.facts (f := .glo "bar_of") (by simp [fa, fa_0])),
  He.glo_ok X G (c.t.d.facts (f := .glo "woken") (by simp [fa, fa_0])),
  He.glo_ok X G (c.t.d.facts (f := .glo "_law_cell") (by simp [fa, fa_0])),
  He.glo_ok X G (c.t.d.facts (f := .glo "_law_drawn") (by simp [fa, fa_0])),
  He.glo_ok X G (c.t.d.facts (f := .glo "_law_roll") (by simp [fa, fa_0])),
  He.glo_ok X G (c.t.d.facts (f := .glo "_law_rounds") (by simp [fa, fa_0])),
  He.glo_ok X G (c.t.d.facts (f := .glo "_law_word") (by simp [fa, fa_0])),
  He.glo_ok X G (c.t.d.facts (f := .glo "_law_told") (by simp [fa, fa_0])),
  He.glo_ok X G (c.t.d.facts (f := .glo "_law_bar") (by simp [fa, fa_0])),
  He.glo_ok X G (c.t.d.facts (f := .glo "_law_row") (by simp [fa, fa_0])),
  He.glo_ok X G (c.t.d.facts (f := .glo "law") (by simp [fa, fa_0])),
  He.free_ok X G (c.t.d.facts (f := .free "len") (by simp [fa, fa_0])),
  He.free_ok X G (c.t.d.facts (f := .free "isinstance") (by simp [fa, fa_0])),
  He.free_ok X G (c.t.d.facts (f := .free "range") (by simp [fa, fa_0])),
  He.free_ok X G (c.t.d.facts (f := .free "list") (by simp [fa, fa_0])),
  He.free_ok X G (c.t.d.facts (f := .free "all") (by simp [fa, fa_0])),
  He.free_ok X G (c.t.d.facts (f := .free "int") (by simp [fa, fa_0])),
  He.free_ok X G (c.t.d.facts (f := .free "bool") (by simp [fa, fa_0])),
  He.free_ok X G (c.t.d.facts (f := .free "str") (by simp [fa, fa_0])),
  He.free_ok X G (c.t.d.facts (f := .free "tuple") (by simp [fa, fa_1])),
  He.free_ok X G (c.t.d.facts (f := .free "max") (by simp [fa, fa_1])),
  He.free_ok X G (c.t.d.facts (f := .free "min") (by simp [fa, fa_1])),
  He.free_ok X G (c.t.d.facts (f := .free "sum") (by simp [fa, fa_1])),
  He.free_ok X G (c.t.d.facts (f := .free "ValueError") (by simp [fa, fa_1])),
  He.int_ok X G (c.t.d.facts (f := .int "MOST" 40) (by simp [fa, fa_1])),
  He.str_ok X G (c.t.d.facts (f := .str "END" ".") (by simp [fa, fa_1])),
  He.str_ok X G (c.t.d.facts (f := .str "FIGURES" "0123456789") (by simp [fa, fa_1])),
  He.glo_ok X G (c.t.d.facts (f := .glo "LeafError") (by simp [fa, fa_1])),
  He.glo_ok X G (c.t.d.facts (f := .glo "BadBar") (by simp [fa, fa_1])),
  He.glo_ok X G (c.t.d.facts (f := .glo "BadPlace") (by simp [fa, fa_1])),
  He.glo_ok X G (c.t.d.facts (f := .glo "BadDesk") (by simp [fa, fa_1])),
  He.glo_ok X G (c.t.d.facts (f := .glo "BadRepeats") (by simp [fa, fa_1])),
  He.glo_ok X G (c.t.d.facts (f := .glo "Full") (by simp [fa, fa_1])),
  He.glo_ok X G (c.t.d.facts (f := .glo "Nothing") (by simp [fa, fa_1])),
  He.glo_ok X G (c.t.d.facts (f := .glo "BadText") (by simp [fa, fa_1])),
  He.glo_ok X G (c.t.d.facts (f := .glo "BadLayout") (by simp [fa, fa_1])),
  He.glo_ok X G (c.t.d.facts (f := .glo "Unlike") (by simp [fa, fa_1])),
  He.cls_ok (c.t.d.facts (f := .cls "Part") (by simp [fa, fa_1])),
  He.mkr_ok (c.t.d.facts (f := .mkr "Part") (by simp [fa, fa_1])),
  He.noat_ok (c.t.d.facts (f := .noat "Part" "row") (by simp [fa, fa_1])),
  He.noat_ok (c.t.d.facts (f := .noat "Part" "past") (by simp [fa, fa_1])),
  He.meth_ok (c.t.d.facts (f := .meth "Part" "__init__") (by simp [fa, fa_1])),
  He.meth_ok (c.t.d.facts (f := .meth "Part" "__len__") (by simp [fa, fa_1])),
  He.meth_ok (c.t.d.facts (f := .meth "Part" "__eq__") (by simp [fa, fa_1])),
  He.meth_ok (c.t.d.facts (f := .meth "Part" "__str__") (by simp [fa, fa_2])),
  He.meth_ok (c.t.d.facts (f := .meth "Part" "bars") (by simp [fa, fa_2])),
  He.meth_ok (c.t.d.facts (f := .meth "Part" "becomes") (by simp [fa, fa_2])),
  He.meth_ok (c.t.d.facts (f := .meth "Part" "put") (by simp [fa, fa_2])),
  He.meth_ok (c.t.d.facts (f := .meth "Part" "drop") (by simp [fa, fa_2])),
  He.meth_ok (c.t.d.facts (f := .meth "Part" "take_back") (by simp [fa, fa_2])),
  He.meth_ok (c.t.d.facts (f := .meth "Part" "ahead") (by simp [fa, fa_2])),
  He.meth_ok (c.t.d.facts (f := .meth "Part" "behind") (by simp [fa, fa_2])),
  He.meth_ok (c.t.d.facts (f := .meth "Part" "rest") (by simp [fa, fa_2])),
  He.eqO_ok (exAt c.more 0 rfl),
  He.eqO_ok (exAt c.more 1 rfl),
  of_decide_eq_true (exAt c.more 2 rfl),
  of_decide_eq_true (exAt c.more 3 rfl),
  of_decide_eq_true (exAt c.more 4 rfl),
  of_decide_eq_true (exAt c.more 5 rfl),
  of_decide_eq_true (exAt c.more 6 rfl),
  of_decide_eq_true (exAt c.more 7 rfl),
  of_decide_eq_true (exAt c.more 8 rfl),
  of_decide_eq_true (exAt c.more 9 rfl),
  of_decide_eq_true (exAt c.more 10 rfl),
  of_decide_eq_true (exAt c.more 11 rfl),
  of_decide_eq_true (exAt c.more 12 rfl),
  of_decide_eq_true (exAt c.more 13 rfl),
  of_decide_eq_true (exAt c.more 14 rfl),
  of_decide_eq_true (exAt c.more 15 rfl),
  He.eqO_ok (exAt c.more 16 rfl),
  (exAt c.more 17 rfl),
  (exAt c.more 18 rfl),
  (exAt c.more 19 rfl),
  (exAt c.more 20 rfl),
  (exAt c.more 21 rfl),
  (exAt c.more 22 rfl),
  He.glo_ok X G (c.t.d.facts (f := .glo "Part") (by simp [fa, fa_2])),
  (exAt c.more 23 rfl),
  (exAt c.more 24 rfl),
  (exAt c.more 25 rfl),
  (exAt c.more 26 rfl),
  (exAt c.more 27 rfl)⟩
/-! ### bars -/
structure Bar where
  w : Int
  b : Int
  r : Bool
  deriving DecidableEq
def barD (x : Bar) : PyData := .tuple [.int x.w, .int x.b, .bool x.r]
def barV (x : Bar) : List V := [.int x.w, .int x.b, .bl x.r]
def BarOk (x : Bar) : Prop := 1 ≤ x.w ∧ x.w ≤ 40 ∧ 1 ≤ x.b ∧ x.b ≤ 16
abbrev barsD (bs : List Bar) : List PyData := bs.map barD
theorem isT_bar (x : Bar) : isT (barD x) = true := rfl
theorem isTs_bars : ∀ bs : List Bar, isTs (barsD bs) = true
  | [] => rfl
  | x :: r => by
    show (isT (barD x) && isTs (barsD r)) = true
    rw [isTs_bars r]
    rfl
section
variable {K : PySem.W.Frag} {H H' : Hp}
theorem dp_bar {v : V} {x : Bar} (h : Dp K H v (barD x)) : ∃ p, v = .ref p ∧ SqT K H p (barV x) := by
  cases h with
  | tup s a =>
    cases a with
    | cons d0 r =>
      cases r with
      | cons d1 r =>
        cases r with
        | cons d2 r =>
          cases r
          cases d0
          cases d1
          cases d2
          exact ⟨_, rfl, s⟩
theorem dp_bar_of {p : Addr} {x : Bar} (h : SqT K H p (barV x)) : Dp K H (.ref p) (barD x) := .tup h (.cons (.int _) (.cons (.int _) (.cons (.bl _) .nil)))
theorem bar_at {vs : List V} {bs : List Bar} {i : Nat} {v : V} (h : DpAll K H vs (barsD bs)) (e : vs[i]? = some v) : ∃ x p, bs[i]? = some x ∧ v = .ref p ∧ SqT K H p (barV x) := by
  obtain ⟨d, e1, hd⟩ := dpa_at h e
  rw [List.getElem?_map] at e1
  cases q : bs[i]? with
  | none =>
    rw [q] at e1
    cases e1
  | some x =>
    rw [q] at e1
    have e2 : barD x = d := Option.some.inj e1
    subst e2
    obtain ⟨p, rfl, s⟩ := dp_bar hd
    exact ⟨x, p, rfl, rfl, s⟩
/-- a list of bars at an address -/
def RowAt (K : PySem.W.Frag) (H : Hp) (r : Addr) (bs : List Bar) : Prop := ∃ vs, H r = some (.lst vs) ∧ DpAll K H vs (barsD bs)
theorem RowAt.dp {r : Addr} {bs : List Bar} (h : RowAt K H r bs) : Dp K H (.ref r) (.list (barsD bs)) := by
  obtain ⟨vs, e, a⟩ := h
  exact .lst (.of e) a
theorem RowAt.same {r : Addr} {bs : List Bar} (h : RowAt K H r bs) (s : Same H H') : RowAt K H' r bs := by
  obtain ⟨vs, e, a⟩ := h
  exact ⟨vs, s _ _ e, dpa_same s a⟩
theorem RowAt.fr {ds : List Addr} {r : Addr} {bs : List Bar} (h : RowAt K H r bs) (s : Fr ds H H') (n : r ∉ ds) : RowAt K H' r bs := by
  obtain ⟨vs, e, a⟩ := h
  exact ⟨vs, s.keep _ _ n e, s.dpa a (isTs_bars bs)⟩
theorem lst_bars {a : Addr} {bs : List Bar} (h : Dp K H (.ref a) (.list (barsD bs))) : ∃ vs, SqL K H a vs ∧ DpAll K H vs (barsD bs) := by
  cases h with
  | lst s d => exact ⟨_, s, d⟩
theorem bars_len {vs : List V} {bs : List Bar} (h : DpAll K H vs (barsD bs)) : vs.length = bs.length := by
  rw [dpa_len h, List.length_map]
end
/-- the beats of the first bars, as long as they rest -/
def beatsOf : List Bar → Int
  | [] => 0
  | x :: r => if x.r = true then x.b + beatsOf r else 0
def restOf (bs : List Bar) (k : Nat) : Int := beatsOf (bs.take k).reverse + beatsOf (bs.drop k)
theorem drop_at {α : Type} {l : List α} {i : Nat} {x : α} (h : l[i]? = some x) : l.drop i = x :: l.drop (i + 1) := by
  obtain ⟨hi, e⟩ := List.getElem?_eq_some_iff.mp h
  rw [List.drop_eq_getElem_cons hi, e]
theorem take_at {α : Type} {l : List α} {i : Nat} {x : α} (h : l[i]? = some x) : l.take (i + 1) = l.take i ++ [x] := by
  rw [List.take_add_one, h]
  rfl
/-! ### parts -/
abbrev pC (K : PySem.W.Frag) : Addr := He.ga K "Part"
def pf (r q : Addr) : List (Str × V) := [("row", .ref r), ("past", .ref q)]
theorem pf_row {r q : Addr} : (pf r q).lookup ("row" : Str) = some (.ref r) := rfl
theorem pf_past {r q : Addr} : (pf r q).lookup ("past" : Str) = some (.ref q) := by
  show (match (("past" : Str) == ("row" : Str)) with | true => some (V.ref r) | false => ([("past", .ref q)] : List (Str × V)).lookup ("past" : Str)) = some (.ref q)
  rw [show (("past" : Str) == ("row" : Str)) = false by decide +kernel]
  rfl
theorem pf_no {r q : Addr} {x : Str} (h1 : (x == ("row" : Str)) = false) (h2 : (x == ("past" : Str)) = false) : (pf r q).lookup x = none := by
  show (match (x == ("row" : Str)) with | true => some (V.ref r) | false => (match (x == ("past" : Str)) with | true => some (V.ref q) | false => none)) = none
  rw [h1, h2]
theorem pf_len {r q : Addr} : (pf r q).length < 1000 := by
  show (2 : Nat) < 1000
  decide
theorem put_row {r q r' : Addr} : putF ("row" : Str) (.ref r') (pf r q) = pf r' q := rfl
section
variable {K : PySem.W.Frag} {H H' : Hp}
def Rows (K : PySem.W.Frag) (H : Hp) (q : Addr) : List V → List (List Bar) → Prop := Paired fun v bs => ∃ r, v = .ref r ∧ r ≠ q ∧ RowAt K H r bs
/-- the part at p: its bars, what it was (its list at q) -/
def PartX (K : PySem.W.Frag) (H : Hp) (p q : Addr) (bs : List Bar) (past : List (List Bar)) : Prop :=
  ∃ dx r ws, H p = some (.ins (pC K) dx (pf r q)) ∧ r ≠ q ∧ RowAt K H r bs ∧ H q = some (.lst ws) ∧ Rows K H q ws past
theorem Rows.imp {q : Addr} {ws : List V} {past : List (List Bar)} (h : Rows K H q ws past) (f : ∀ r bs, r ≠ q → RowAt K H r bs → RowAt K H' r bs) : Rows K H' q ws past :=
  Paired.mapP h fun v bs ⟨r, e, n, z⟩ => ⟨r, e, n, f r bs n z⟩
theorem Rows.snoc {q : Addr} {r : Addr} {bs : List Bar} : ∀ {ws : List V} {past : List (List Bar)}, Rows K H q ws past → r ≠ q → RowAt K H r bs → Rows K H q (ws ++ [.ref r]) (past ++ [bs])
  | _, _, .nil, n, h => .cons ⟨r, rfl, n, h⟩ .nil
  | _, _, .cons a t, n, h => .cons a (Rows.snoc t n h)
theorem Rows.len {q : Addr} {ws : List V} {past : List (List Bar)} (h : Rows K H q ws past) : ws.length = past.length := Paired.length h
theorem PartX.same {p q : Addr} {bs : List Bar} {past : List (List Bar)} (h : PartX K H p q bs past) (s : Same H H') : PartX K H' p q bs past := by
  obtain ⟨dx, r, ws, h1, n, h2, h3, h4⟩ := h
  exact ⟨dx, r, ws, s _ _ h1, n, h2.same s, s _ _ h3, h4.imp fun _ _ _ z => z.same s⟩
/-- a die -/
def Dice (H : Hp) (d : Addr) : Prop := ∃ a b : Int, H d = some (.lst [.int a, .int b])
theorem RowAt.ne_dice {r d : Addr} {bs : List Bar} (h : RowAt K H r bs) (hd : Dice H d) : r ≠ d := by
  obtain ⟨vs, e, a⟩ := h
  obtain ⟨i, j, e2⟩ := hd
  intro z
  subst z
  rw [e] at e2
  injection e2 with e3
  injection e3 with e4
  subst e4
  cases bs with
  | nil => cases a
  | cons b r =>
    cases a with
    | cons d _ => cases d
theorem PartX.fr {p q d : Addr} {bs : List Bar} {past : List (List Bar)} (h : PartX K H p q bs past) (hd : Dice H d) (s : Fr [d] H H') : PartX K H' p q bs past := by
  obtain ⟨dx, r, ws, h1, n, h2, h3, h4⟩ := h
  obtain ⟨i, j, e2⟩ := id hd
  have np : p ≠ d := ne_of h1 e2 (by intro z; cases z)
  have nq : q ≠ d := by
    intro z
    subst z
    rw [h3] at e2
    injection e2 with e3
    injection e3 with e4
    subst e4
    cases h4 with
    | cons a _ =>
      obtain ⟨r, e, _⟩ := a
      cases e
  exact ⟨dx, r, ws, s.keep _ _ (by simp [np]) h1, n, h2.fr s (by simp [h2.ne_dice hd]), s.keep _ _ (by simp [nq]) h3, h4.imp fun r bs _ z => z.fr s (by simp [z.ne_dice hd])⟩
theorem Fr.step {ds es : List Addr} {H0 H1 H2 : Hp} (a : Fr ds H0 H1) (b : Fr es H1 H2) (h : ∀ e ∈ es, H0 e = none ∨ e ∈ ds) : Fr ds H0 H2 := by
  refine ⟨fun c o n e => b.keep c o (fun z => ?_) (a.keep c o n e), fun c xs e => b.tu c xs (a.tu c xs e), fun c o u e => b.fz c o u (a.fz c o u e)⟩
  rcases h c z with q | q
  · rw [q] at e
    cases e
  · exact n q
end
theorem cut_take {xs : List V} {k : Nat} : cutV xs none (some (k : Int)) = xs.take k := by
  unfold cutV
  rw [HT.sIx_none, HT.sIx_nat]
  show (xs.drop 0).take (min k xs.length - 0) = xs.take k
  rw [List.drop_zero, Nat.sub_zero, List.take_eq_take_min]
  all_goals simp
theorem cut_drop {xs : List V} {k : Nat} : cutV xs (some (k : Int)) none = xs.drop k := by
  unfold cutV
  rw [HT.sIx_none, HT.sIx_nat]
  by_cases h : k ≤ xs.length
  · rw [Nat.min_eq_left h, List.take_of_length_le (by rw [List.length_drop]; omega)]
  · rw [Nat.min_eq_right (by omega), List.drop_length, List.drop_eq_nil_of_le (by omega)]
    exact List.take_nil
theorem sc_is_number : FnScope ["thing", "low", "high"] ["thing", "low", "high"] (defScope s_is_number) := ⟨rfl, rfl, rfl, by decide +kernel, rfl, by decide +kernel, by decide +kernel⟩
section
variable {K : PySem.W.Frag} {mg : Str → Option Value}
theorem b_is_number (T : Txt K mg) : Binds K (fdOf K ("is_number", none)) ["thing", "low", "high"] [] := T.is_number.bindsN fun _ _ _ _ _ _ us hl => match us, hl with | [_, _, _], _ => rfl
end
/-- a whole number between -/
def isNum : PyData → Int → Int → Bool
  | .int i, lo, hi => decide (lo ≤ i) && decide (i ≤ hi)
  | _, _, _ => false
def sp_is_number (K : PySem.W.Frag) : Sp := fun vs H Q _ => ∃ (x : V) (d : PyData) (lo hi : Int), vs = [x, .int lo, .int hi] ∧ Dp K H x d ∧ Q (.bl (isNum d lo hi)) H
theorem ok_is_number {P : Program} {w : World} {K : PySem.W.Frag} {mg : Str → Option Value} {base : Heap} (T : Txt K mg) : OkF P w K mg base CX0 1 ("is_number", none) ["thing", "low", "high"] (sp_is_number K) := by
  refine okN T.is_number sc_is_number (fun vs H Q E h => ?_) (fun cdv A outer s H vs Q E hr h => ?_)
  · obtain ⟨x, d, lo, hi, rfl, _⟩ := h
    rfl
  · obtain ⟨x, d, lo, hi, rfl, hd, q⟩ := h
    refine ⟨_, (pss_one (ps_ret (pe_and (pe_callB call_isi (by rfl) T.b_isinstance (by decide +kernel) (pa_cons (pv 0) (pa_cons (pe_bltn (v := .ty "int") (by rfl) T.b_int (by decide +kernel) rfl) pa_nil))) (pe_and (pe_not (pe_callB call_isi (by rfl) T.b_isinstance (by decide +kernel) (pa_cons (pv 0) (pa_cons (pe_bltn (v := .ty "bool") (by rfl) T.b_bool (by decide +kernel) rfl) pa_nil)))) (pe_one (pe_chain op_le op_le (pv 1) (pv 0) (pv 2))))))), ?_⟩
    refine ⟨_, rfl, _, _, _, _, _, rfl, .ty _, dp_ty hd, kit_int d, _, rfl, ?_⟩
    cases d with
    | int i =>
      cases hd
      refine iteT ⟨_, rfl, _, _, _, _, _, rfl, .ty _, dp_ty (.int i), kit_bool (.int i), _, rfl, _, rfl, iteT ⟨_, rfl, _, rfl, _, _, rfl, rfl, _, rfl, ?_⟩⟩
      replace q : Q (.bl (decide (lo ≤ i) && decide (i ≤ hi))) H := q
      refine ite2 (fun h => ?_) (fun h => ?_)
      · rw [h] at q
        exact ⟨_, rfl, _, _, rfl, rfl, q⟩
      · rw [Bool.eq_false_iff.mpr h] at q
        exact q
    | bool b =>
      cases hd
      exact iteT ⟨_, rfl, _, _, _, _, _, rfl, .ty _, dp_ty (.bl b), kit_bool (.bool b), _, rfl, _, rfl, iteF q⟩
    | _ => exact iteF q
theorem sc_is_bar : FnScope ["thing"] ["thing"] (defScope s_is_bar) := ⟨rfl, rfl, rfl, by decide +kernel, rfl, by decide +kernel, by decide +kernel⟩
section
variable {K : PySem.W.Frag} {mg : Str → Option Value}
theorem b_is_bar (T : Txt K mg) : Binds K (fdOf K ("is_bar", none)) ["thing"] [] := T.is_bar.bindsN fun _ _ _ _ _ _ us hl => match us, hl with | [_], _ => rfl
end
def isBar : PyData → Bool
  | .tuple [a, b, .bool _] => isNum a 1 40 && isNum b 1 16
  | _ => false
theorem isBar_len {ds : List PyData} (h : ds.length ≠ 3) : isBar (.tuple ds) = false := by
  unfold isBar
  split
  · rename_i e
    injection e with e
    subst e
    exact absurd rfl h
  · rfl
theorem isBar_bar {x : Bar} (h : BarOk x) : isBar (barD x) = true := by
  obtain ⟨h1, h2, h3, h4⟩ := h
  show ((decide (1 ≤ x.w) && decide (x.w ≤ 40)) && (decide (1 ≤ x.b) && decide (x.b ≤ 16))) = true
  rw [decide_eq_true h1, decide_eq_true h2, decide_eq_true h3, decide_eq_true h4]
  rfl
def sp_is_bar (K : PySem.W.Frag) : Sp := fun vs H Q _ => ∃ (x : V) (d : PyData), vs = [x] ∧ Dp K H x d ∧ Q (.bl (isBar d)) H
theorem ok_is_bar {P : Program} {w : World} {K : PySem.W.Frag} {mg : Str → Option Value} {base : Heap} (T : Txt K mg) : OkF P w K mg base CX0 2 ("is_bar", none) ["thing"] (sp_is_bar K) := by
  refine okN T.is_bar sc_is_bar (fun vs H Q E h => ?_) (fun cdv A outer s H vs Q E hr h => ?_)
  · obtain ⟨x, d, rfl, _⟩ := h
    rfl
  · obtain ⟨x, d, rfl, hd, q⟩ := h
    refine ⟨_, (pss_cons (ps_if (PW.pt (pw_or (pt_not (pt_val (pe_callB call_isi (by rfl) T.b_isinstance (by decide +kernel) (pa_cons (pv 0) (pa_cons (pe_bltn (v := .ty "tuple") (by rfl) T.b_tuple (by decide +kernel) rfl) pa_nil))))) (pw_or (pt_cmpR op_ne (pe_callB call_len (by rfl) T.b_len PySem.boot_len (pa_cons (pv 0) pa_nil)) pe_int (nomark _)) (pw_or1 (pt_not (pt_val (pe_callB call_isi (by rfl) T.b_isinstance (by decide +kernel) (pa_cons (pe_ix ix_tup (pv 0) pe_int (fun _ _ => rfl)) (pa_cons (pe_bltn (v := .ty "bool") (by rfl) T.b_bool (by decide +kernel) rfl) pa_nil))))))))) (pss_one (ps_ret pe_bl)) pss_nil)
      (pss_one (ps_ret (pe_and (pe_call (ok_is_number T) (hr.mono (by decide)) (by rfl) T.g_is_number T.is_number.kp (b_is_number T) .nil pass0 (pa_cons (pe_ix ix_tup (pv 0) pe_int (fun _ _ => rfl)) (pa_cons pe_int (pa_cons pe_int pa_nil)))) (pe_one (pe_call (ok_is_number T) (hr.mono (by decide)) (by rfl) T.g_is_number T.is_number.kp (b_is_number T) .nil pass0 (pa_cons (pe_ix ix_tup (pv 0) pe_int (fun _ _ => rfl)) (pa_cons pe_int (pa_cons pe_int pa_nil))))))))), ?_⟩
    refine ⟨_, rfl, _, _, _, _, _, rfl, .ty _, dp_ty hd, kit_tup d, _, rfl, ?_⟩
    cases d with
    | tuple ds =>
      cases hd with
      | tup hs ha =>
        refine iteF ⟨_, rfl, _, _, rfl, .inr ⟨_, hs, rfl⟩, rfl, _, rfl, ?_⟩
        by_cases hl : ds.length = 3
        · obtain ⟨d0, d1, d2, rfl⟩ := len3 hl
          obtain ⟨v0, v1, v2, rfl, h0, h1, h2⟩ := dpa3 ha
          refine iteNNQ rfl ⟨_, rfl, _, _, _, _, rfl, rfl, hs, rfl, _, _, _, _, _, rfl, .ty _, dp_ty h2, kit_bool d2, _, rfl, ?_⟩
          cases d2 with
          | bool r =>
            refine iteF ⟨_, rfl, _, _, _, _, rfl, rfl, hs, rfl, _, d0, _, _, rfl, h0, _, rfl, ?_⟩
            replace q : Q (.bl (isNum d0 1 40 && isNum d1 1 16)) H := q
            refine ite2 (fun e => ?_) (fun e => ?_)
            · rw [e] at q
              exact ⟨_, rfl, _, _, _, _, rfl, rfl, hs, rfl, _, d1, _, _, rfl, h1, q⟩
            · rw [Bool.eq_false_iff.mpr e] at q
              exact q
          | _ => exact iteT q
        · rw [isBar_len hl] at q
          exact iteNEQ (by rw [dpa_len ha]; omega) q
    | _ => exact iteT q
theorem sc_Part_init : FnScope ["self", "bars", "one"] ["self", "bars"] (defScope s_Part_init) := ⟨rfl, rfl, rfl, by decide +kernel, rfl, by decide +kernel, by decide +kernel⟩
section
variable {K : PySem.W.Frag} {mg : Str → Option Value}
theorem b1_Part (T : Txt K mg) : Binds K (fdOf K ("Part", some "__init__")) ["self", "bars"] [] := by
  obtain ⟨ds, v, b⟩ := T.Part_init.binds1 (ps := ["self", "bars"]) 2 1 (by simp) rfl fun T kV doc pm an cdv ct us its h1 h2 => match us, its, h1, h2 with | [_, _], [_], _, _ => ⟨_, rfl, rfl⟩
  cases v
  exact b
theorem b0_Part (T : Txt K mg) : ∃ ds, Vals [.non] ds ∧ Binds K (fdOf K ("Part", some "__init__")) ["self", "bars"] ds :=
  T.Part_init.binds1 (ps := ["self", "bars"]) 1 0 (by simp) rfl fun T kV doc pm an cdv ct us its h1 h2 => match us, its, h1, h2 with | [_], [_], _, _ => ⟨_, rfl, rfl⟩
end
def sp_Part_init (K : PySem.W.Frag) : Sp := fun vs H Q _ => ∃ (x dx : Addr) (v : V) (bs : List Bar), vs = [.ref x, v] ∧ H x = some (.ins (pC K) dx []) ∧ (v = .non ∧ bs = [] ∨ ∃ a, v = .ref a ∧ Dp K H (.ref a) (.list (barsD bs))) ∧ (∀ b ∈ bs, BarOk b) ∧ bs.length ≤ 40 ∧
  ∀ H' q, Fr [x] H H' → H q = none → PartX K H' x q bs [] → Q .non H'
theorem isBars : ∀ {bs : List Bar}, (∀ b ∈ bs, BarOk b) → (bs.map fun b => isBar (barD b)).all id = true
  | [], _ => rfl
  | x :: r, h => by
    show (isBar (barD x) && ((r.map fun b => isBar (barD b)).all id)) = true
    rw [isBar_bar (h x List.mem_cons_self), isBars fun b hb => h b (List.mem_cons_of_mem _ hb)]
    rfl
theorem ok_Part_init {P : Program} {w : World} {K : PySem.W.Frag} {mg : Str → Option Value} {base : Heap} (T : Txt K mg) : OkF P w K mg base CX0 3 ("Part", some "__init__") ["self", "bars"] (sp_Part_init K) := by
  refine okN T.Part_init sc_Part_init (fun vs H Q E h => ?_) (fun cdv A outer s H vs Q E hr h => ?_)
  · obtain ⟨x, dx, v, bs, rfl, _⟩ := h
    rfl
  · obtain ⟨x, dx, v, bs, rfl, hx, hv, ok, hl, z⟩ := h
    refine ⟨_, (pss_cons (ps_if (PW.pt (pw_and (pt_cmp (pc_notN (pv 1))) (pw_and1 (PW.pt (pw_or (pt_not (pt_val (pe_callB call_isi (by rfl) T.b_isinstance (by decide +kernel) (pa_cons (pv 1) (pa_cons (pe_bltn (v := .ty "list") (by rfl) T.b_list (by decide +kernel) rfl) pa_nil))))) (pw_or1 (pt_not (pt_val (pe_callB (cr_all rfl) (by rfl) T.b_all (by decide +kernel) (pa_cons (pe_lc (own := [("one", 2)]) (g := (gName 2)) (tt := tYes)  (by rfl) sc_Part_init.nd (pi_list (pv 1)) (blkOk_by (own := [("one", 2)]) (N := ["self", "bars", "one"]) (sc := defScope s_Part_init) (by decide +kernel)) (fun _ _ _ _ _ => (pg_name (i := 2) sc_Part_init.nd rfl (by first | exact Or.inl rfl | exact Or.inr rfl))) (fun _ _ _ _ _ => pts_nil) (fun _ _ _ _ _ => (pe_call (ok_is_bar T) (hr.mono (by decide)) (by rfl) T.g_is_bar T.is_bar.kp (b_is_bar T) .nil pass0 (pa_cons (pv 2) pa_nil)))) pa_nil)))))))))) pss_never pss_nil)
      (pss_cons (ps_fld (pv 0) (pe_ifExp (pt_cmp (pc_notN (pv 1))) (pe_callTy call_list_of (by rfl) T.b_list (by decide +kernel) (pa_cons (pv 1) pa_nil)) (pe_lst pa_nil)) rfl)
      (pss_cons (ps_if (pt_cmpR op_gt (pe_callB call_len (by rfl) T.b_len PySem.boot_len (pa_cons (pe_fld (pv 0) rfl) pa_nil)) (pe_glob (v := .int 40) (by rfl) T.c_MOST.choose_spec ⟨_, rfl⟩) (nomark _)) pss_never pss_nil)
      (pss_one (ps_fld (pv 0) (pe_lst pa_nil) rfl))))), ?_⟩
    -- what follows the row's store
    have tail : ∀ (H1 : Hp) (r : Addr) (vs : List V), Fr [x] H H1 → H1 x = some (.ins (pC K) dx []) → H r = none → H1 r = some (.lst vs) → DpAll K H1 vs (barsD bs) →
        ∀ (H2 : Hp), H2 = upd H1 x (.ins (pC K) dx [("row", .ref r)]) → (H2 x = some (.ins (pC K) dx [("row", .ref r)]) ∧ H2 r = some (.lst vs) ∧ Fr [x] H H2 ∧ DpAll K H2 vs (barsD bs)) := by
      intro H1 r vs f h1 nr h2 h3 H2 e
      subst e
      have f2 : Fr [x] H1 (upd H1 x (.ins (pC K) dx [("row", .ref r)])) := Fr.upd h1 trivial (by simp)
      refine ⟨upd_same, ?_, f.trans f2, f2.dpa h3 (isTs_bars bs)⟩
      rw [upd_ne (ne_of h2 h1 (by intro z; cases z))]
      exact h2
    have fin : ∀ (H2 : Hp) (r q : Addr) (vs : List V), H2 x = some (.ins (pC K) dx [("row", .ref r)]) → H2 r = some (.lst vs) → Fr [x] H H2 → DpAll K H2 vs (barsD bs) → H2 q = none →
        Q .non (upd (upd H2 q (.lst [])) x (.ins (pC K) dx (pf r q))) := by
      intro H2 r q vs h1 h2 f h3 nq
      have s : Same H2 (upd H2 q (.lst [])) := same_upd nq
      have nqx : x ≠ q := ne_of_none h1 nq
      have nqr : r ≠ q := ne_of_none h2 nq
      have h1' : (upd H2 q (.lst [])) x = some (.ins (pC K) dx [("row", .ref r)]) := s _ _ h1
      have f2 : Fr [x] (upd H2 q (.lst [])) (upd (upd H2 q (.lst [])) x (.ins (pC K) dx (pf r q))) := Fr.upd h1' trivial (by simp)
      have f3 := (f.trans (Fr.of s _)).trans f2
      have nq0 : H q = none := by
        cases e : H q with
        | none => rfl
        | some o =>
          have := f.keep q o (by simp [nqx.symm]) e
          rw [nq] at this
          cases this
      refine z _ q f3 nq0 ⟨dx, r, [], upd_same, nqr, ⟨vs, ?_, f2.dpa (dpa_same s h3) (isTs_bars bs)⟩, ?_, .nil⟩
      · rw [upd_ne (ne_of (s _ _ h2) h1' (by intro z; cases z))]
        exact s _ _ h2
      · rw [upd_ne nqx.symm, upd_same]
    rcases hv with ⟨rfl, rfl⟩ | ⟨a, rfl, hd⟩
    · refine ⟨_, rfl, _, rfl, ?_⟩
      refine iteF ⟨_, rfl, _, rfl, iteF ⟨by decide, fun r nr => ?_⟩⟩
      have s : Same H (upd H r (.lst [])) := same_upd nr
      refine ⟨_, rfl, x, _, dx, _, rfl, s _ _ hx, T.cl_Part, T.n_row, by decide, ?_⟩
      obtain ⟨h1, h2, h3, h4⟩ := tail _ r [] (Fr.of s _) (s _ _ hx) nr upd_same .nil _ rfl
      refine ⟨_, rfl, x, _, dx, _, _, rfl, h1, T.cl_Part, T.n_row, rfl, _, _, rfl, .inl ⟨_, .of h2, rfl⟩, _, _, rfl, rfl, _, rfl, iteN (by decide) ?_⟩
      exact ⟨by decide, fun q nq => ⟨_, rfl, x, _, dx, [("row", .ref r)], rfl, by rw [upd_ne (ne_of_none h1 nq)]; exact h1, T.cl_Part, T.n_past, by show (1 : Nat) < 1000; decide, fin _ r q [] h1 h2 h3 h4 nq⟩⟩
    · obtain ⟨vs, hs, ha⟩ := lst_bars hd
      refine ⟨_, rfl, _, rfl, ?_⟩
      refine iteT ⟨_, rfl, _, _, _, _, _, rfl, .ty _, dp_ty hd, kit_lst _, _, rfl, iteF ?_⟩
      refine ⟨_, rfl, a, rfl, ⟨_, hs⟩, fun D hD => lc_list (K := K) (a := a) (xs := vs) (fun i H' => Same H H' ∧ H' D = some (.lst (((bs.take i).map fun b => isBar (barD b)).map V.bl))) ⟨same_upd hD, ?_⟩ ?_ ?_ ?_⟩
      · rw [upd_same]
        rfl
      · rintro i H' _ ⟨s, _⟩
        exact s.seq hs
      · rintro i v H' hv ⟨s, e⟩
        obtain ⟨b, p, hb, rfl, hp⟩ := bar_at ha hv
        refine ⟨rfl, _, rfl, _, _, rfl, dp_bar_of (same_sqt s hp), _, e, ?_, ?_, ?_⟩
        · rw [List.length_map, List.length_map, List.length_take]
          exact small1000 (by omega)
        · exact same_updR s hD
        · rw [upd_same, take_at hb, List.map_append, List.map_append]
          rfl
      · rintro H1 ⟨s1, e1⟩
        rw [bars_len ha, List.take_length] at e1
        refine ⟨D, _, rfl, .of e1, _, rfl, ?_⟩
        rw [isBars ok]
        refine iteF ⟨_, rfl, _, rfl, iteT ⟨_, rfl, a, vs, rfl, .inl (s1.seq hs), fun r nr => ?_⟩⟩
        have s2 := s1.trans (same_upd (o := .lst vs) nr)
        refine ⟨_, rfl, x, _, dx, _, rfl, s2 _ _ hx, T.cl_Part, T.n_row, by decide, ?_⟩
        obtain ⟨h1, h2, h3, h4⟩ := tail _ r vs (Fr.of s2 _) (s2 _ _ hx) (s1.free nr) upd_same (dpa_same s2 ha) _ rfl
        refine ⟨_, rfl, x, _, dx, _, _, rfl, h1, T.cl_Part, T.n_row, rfl, _, _, rfl, .inl ⟨_, .of h2, rfl⟩, _, _, rfl, rfl, _, rfl, iteN (by rw [bars_len ha]; omega) ?_⟩
        exact ⟨by decide, fun q nq => ⟨_, rfl, x, _, dx, [("row", .ref r)], rfl, by rw [upd_ne (ne_of_none h1 nq)]; exact h1, T.cl_Part, T.n_past, by show (1 : Nat) < 1000; decide, fin _ r q vs h1 h2 h3 h4 nq⟩⟩
/-! ### the shape of data -/
def Shp (n : Nat) (d : PyData) : Prop := d.canLay0 = true ∧ d.depth ≤ n
def ShpA (n : Nat) (ds : List PyData) : Prop := PyData.canLayAll0 ds = true ∧ PyData.depthAll ds ≤ n
theorem shpA_nil {n : Nat} : ShpA n [] := ⟨by simp [PyData.canLayAll0], by simp [PyData.depthAll]⟩
theorem shpA_cons {n : Nat} {d : PyData} {ds : List PyData} (h : Shp n d) (t : ShpA n ds) : ShpA n (d :: ds) := by
  refine ⟨?_, ?_⟩
  · simp only [PyData.canLayAll0, h.1, t.1, Bool.and_self]
  · simp only [PyData.depthAll]
    exact Nat.max_le.mpr ⟨h.2, t.2⟩
theorem shpA_all {n : Nat} : ∀ {ds : List PyData}, (∀ d ∈ ds, Shp n d) → ShpA n ds
  | [], _ => shpA_nil
  | d :: ds, h => shpA_cons (h d List.mem_cons_self) (shpA_all fun e he => h e (List.mem_cons_of_mem _ he))
theorem shp_list {n : Nat} {ds : List PyData} (h : ShpA n ds) : Shp (n + 1) (.list ds) := ⟨by simp only [PyData.canLay0]; exact h.1, by simp only [PyData.depth]; exact Nat.succ_le_succ h.2⟩
theorem shp_tup {n : Nat} {ds : List PyData} (h : ShpA n ds) : Shp (n + 1) (.tuple ds) := ⟨by simp only [PyData.canLay0]; exact h.1, by simp only [PyData.depth]; exact Nat.succ_le_succ h.2⟩
theorem shp_int {n : Nat} (i : Int) : Shp n (.int i) := ⟨by simp [PyData.canLay0], by simp [PyData.depth]⟩
theorem shp_bool {n : Nat} (b : Bool) : Shp n (.bool b) := ⟨by simp [PyData.canLay0], by simp [PyData.depth]⟩
theorem shp_none {n : Nat} : Shp n .none := ⟨by simp [PyData.canLay0], by simp [PyData.depth]⟩
theorem shp_str {n : Nat} {x : Str} (h : PyData.strOk x = true) : Shp n (.str x) := ⟨by simp only [PyData.canLay0]; exact h, by simp [PyData.depth]⟩
theorem Shp.ok {n : Nat} {d : PyData} (h : Shp n d) (hn : n ≤ 64) : SeqAt.shaped d = true := by
  unfold SeqAt.shaped
  rw [h.1, decide_eq_true (Nat.le_trans h.2 hn)]
  rfl
theorem Shp.mono {n m : Nat} {d : PyData} (h : Shp n d) (hn : n ≤ m) : Shp m d := ⟨h.1, Nat.le_trans h.2 hn⟩
theorem ShpA.mono {n m : Nat} {ds : List PyData} (h : ShpA n ds) (hn : n ≤ m) : ShpA m ds := ⟨h.1, Nat.le_trans h.2 hn⟩
/-! ### == of lists by their items -/
theorem eqvAll_map {α : Type} {f : α → PyData} (hf : ∀ a b : α, PyData.eqv (f a) (f b) = true ↔ a = b) : ∀ xs ys : List α, PyData.eqvAll (xs.map f) (ys.map f) = true ↔ xs = ys
  | [], [] => by simp [PyData.eqvAll]
  | [], _ :: _ => by simp [PyData.eqvAll]
  | _ :: _, [] => by simp [PyData.eqvAll]
  | x :: xs, y :: ys => by
    simp only [List.map_cons, PyData.eqvAll, Bool.and_eq_true, hf x y, eqvAll_map hf xs ys, List.cons.injEq]
theorem eqv_listM {α : Type} {f : α → PyData} (hf : ∀ a b : α, PyData.eqv (f a) (f b) = true ↔ a = b) (xs ys : List α) : PyData.eqv (.list (xs.map f)) (.list (ys.map f)) = true ↔ xs = ys := by
  simp only [PyData.eqv]
  exact eqvAll_map hf xs ys
theorem eqv_tupM {α : Type} {f : α → PyData} (hf : ∀ a b : α, PyData.eqv (f a) (f b) = true ↔ a = b) (xs ys : List α) : PyData.eqv (.tuple (xs.map f)) (.tuple (ys.map f)) = true ↔ xs = ys := by
  simp only [PyData.eqv]
  exact eqvAll_map hf xs ys
theorem eqv_int (i j : Int) : PyData.eqv (.int i) (.int j) = true ↔ i = j := by simp [PyData.eqv]
theorem eqv_nil {xs : List PyData} : PyData.eqv (.list xs) (.list []) = true ↔ xs = [] := by
  cases xs <;> simp [PyData.eqv, PyData.eqvAll]
theorem dpa_ints {K : PySem.W.Frag} {H : Hp} : ∀ ns : List Int, DpAll K H (ns.map V.int) (ns.map PyData.int)
  | [] => .nil
  | n :: r => .cons (.int n) (dpa_ints r)
theorem shp_ints (ns : List Int) : Shp 1 (.list (ns.map PyData.int)) := shp_list (shpA_all fun d hd => by
  obtain ⟨i, _, rfl⟩ := List.mem_map.mp hd
  exact shp_int i)
theorem shp_nil {n : Nat} : Shp (n + 1) (.list []) := shp_list shpA_nil
theorem sc__law_cell : FnScope ["script", "k"] ["script", "k"] (defScope s__law_cell) := ⟨rfl, rfl, rfl, by decide +kernel, rfl, by decide +kernel, by decide +kernel⟩
section
variable {K : PySem.W.Frag} {mg : Str → Option Value}
theorem b__law_cell (T : Txt K mg) : Binds K (fdOf K ("_law_cell", none)) ["script", "k"] [] := T._law_cell.bindsN fun _ _ _ _ _ _ us hl => match us, hl with | [_, _], _ => rfl
end
def sp__law_cell (K : PySem.W.Frag) : Sp := fun vs H Q _ => ∃ (a : Addr) (ns : List Int) (k : Nat), vs = [.ref a, .int (k : Int)] ∧ SqL K H a (ns.map V.int) ∧ ns.length ≤ 63 ∧ k ≤ 1000 ∧ ∀ H' i, Same H H' → Q (.int i) H'
theorem ok__law_cell {P : Program} {w : World} {K : PySem.W.Frag} {mg : Str → Option Value} {base : Heap} (T : Txt K mg) : OkF P w K mg base CX0 1 ("_law_cell", none) ["script", "k"] (sp__law_cell K) := by
  refine okN T._law_cell sc__law_cell (fun vs H Q E h => ?_) (fun cdv A outer s H vs Q E hr h => ?_)
  · obtain ⟨a, ns, k, rfl, _⟩ := h
    rfl
  · obtain ⟨a, ns, k, rfl, hs, hl, hk, z⟩ := h
    refine ⟨_, (pss_cons (ps_if (pt_cmpR (op_eqD hr.units) (pv 0) (pe_lst pa_nil) (nomark _)) (pss_one (ps_ret (pe_op op_mul (pv 1) pe_int))) pss_nil)
      (pss_one (ps_ret (pe_op op_add (pe_ix ix_list (pv 0) (pe_op op_mod (pv 1) (pe_callB call_len (by rfl) T.b_len PySem.boot_len (pa_cons (pv 0) pa_nil))) (fun _ _ => rfl)) (pe_op op_mul (pe_op op_fdiv (pv 1) (pe_callB call_len (by rfl) T.b_len PySem.boot_len (pa_cons (pv 0) pa_nil))) pe_int))))), ?_⟩
    refine ⟨_, rfl, by decide, fun e ne => ?_⟩
    have s1 : Same H (upd H e (.lst [])) := same_upd ne
    refine ⟨_, _, .lst (s1.seq hs) (dpa_ints ns), .lst (.of upd_same) .nil, (shp_ints ns).ok (by decide), (shp_nil (n := 0)).ok (by decide), _, rfl, ?_⟩
    refine ite2 (fun h => ?_) (fun h => ?_)
    · exact ⟨_, rfl, _, _, rfl, rfl, .inr ⟨by decide, by decide⟩, z _ _ s1⟩
    · have hn : ns ≠ [] := fun e => h (eqv_nil.mpr (by rw [e]; rfl))
      have hpos : 0 < ns.length := List.length_pos_iff.mpr hn
      have hb := Int.emod_nonneg (k : Int) (b := (ns.length : Int)) (by omega)
      have hb2 := Int.emod_lt_of_pos (k : Int) (b := (ns.length : Int)) (by omega)
      have hi : ((k : Int) % (ns.length : Int)).toNat < ns.length := by omega
      refine ⟨_, rfl, _, rfl, _, rfl, _, _, rfl, .inl ⟨_, s1.seq hs, rfl⟩, _, _, rfl, rfl, by rw [List.length_map]; omega, ?_⟩
      rw [List.length_map]
      refine ⟨a, _, _, .int ns[((k : Int) % (ns.length : Int)).toNat], rfl, rfl, s1.seq hs, at_of (j := ((k : Int) % (ns.length : Int)).toNat) (by omega) (by rw [List.getElem?_map, List.getElem?_eq_getElem hi]; rfl), ?_⟩
      refine ⟨_, rfl, _, rfl, _, _, rfl, .inl ⟨_, s1.seq hs, rfl⟩, _, _, rfl, rfl, ⟨by rw [List.length_map]; omega, by rw [List.length_map]; omega⟩, ?_⟩
      exact ⟨_, _, rfl, rfl, .inr ⟨by decide, by decide⟩, _, _, rfl, rfl, z _ _ s1⟩
theorem sc__law_rounds : FnScope ["script", "most", "k"] ["script", "most"] (defScope s__law_rounds) := ⟨rfl, rfl, rfl, by decide +kernel, rfl, by decide +kernel, by decide +kernel⟩
section
variable {K : PySem.W.Frag} {mg : Str → Option Value}
theorem b__law_rounds (T : Txt K mg) : Binds K (fdOf K ("_law_rounds", none)) ["script", "most"] [] := T._law_rounds.bindsN fun _ _ _ _ _ _ us hl => match us, hl with | [_, _], _ => rfl
end
def sp__law_rounds (K : PySem.W.Frag) : Sp := fun vs H Q _ => ∃ (a : Addr) (ns : List Int) (most : Nat), vs = [.ref a, .int (most : Int)] ∧ SqL K H a (ns.map V.int) ∧ ns.length ≤ 63 ∧ most ≤ 1000 ∧
  ∀ H' (R : Addr) (ds : List Addr), Same H H' → H R = none → H' R = some (.lst (ds.map V.ref)) → (∀ d ∈ ds, Dice H' d ∧ d ≠ R) → ds.length ≤ 1000 → Q (.ref R) H'
theorem ok__law_rounds {P : Program} {w : World} {K : PySem.W.Frag} {mg : Str → Option Value} {base : Heap} (T : Txt K mg) : OkF P w K mg base CX0 2 ("_law_rounds", none) ["script", "most"] (sp__law_rounds K) := by
  refine okN T._law_rounds sc__law_rounds (fun vs H Q E h => ?_) (fun cdv A outer s H vs Q E hr h => ?_)
  · obtain ⟨a, ns, most, rfl, _⟩ := h
    rfl
  · obtain ⟨a, ns, most, rfl, hs, hl, hm, z⟩ := h
    refine ⟨_, (pss_one (ps_ret (pe_lc (own := [("k", 2)]) (g := (gName 2)) (tt := tYes)  (by rfl) sc__law_rounds.nd (pi_range1 (by rfl) T.b_range (pa_cons (pe_callB (call_max2 rfl) (by rfl) T.b_max (by decide +kernel) (pa_cons pe_int (pa_cons (pe_callB (call_min2 rfl) (by rfl) T.b_min (by decide +kernel) (pa_cons (pv 1) (pa_cons (pe_callB call_len (by rfl) T.b_len PySem.boot_len (pa_cons (pv 0) pa_nil)) pa_nil))) pa_nil))) pa_nil)) (blkOk_by (own := [("k", 2)]) (N := ["script", "most", "k"]) (sc := defScope s__law_rounds) (by decide +kernel)) (fun _ _ _ _ _ => (pg_name (i := 2) sc__law_rounds.nd rfl (by first | exact Or.inl rfl | exact Or.inr rfl))) (fun _ _ _ _ _ => pts_nil) (fun _ _ _ _ _ => (pe_lst (pa_cons (pe_call (ok__law_cell T) (hr.mono (by decide)) (by rfl) T.g__law_cell T._law_cell.kp (b__law_cell T) .nil pass0 (pa_cons (pv 0) (pa_cons (pv 2) pa_nil))) (pa_cons pe_int pa_nil))))))), ?_⟩
    refine ⟨_, rfl, _, rfl, _, _, rfl, .inl ⟨_, hs, rfl⟩, _, _, rfl, _, _, rfl, _, rfl, ?_⟩
    rw [List.length_map]
    have hb : ∃ n : Nat, (if (if (ns.length : Int) < (most : Int) then (ns.length : Int) else (most : Int)) > 1 then (if (ns.length : Int) < (most : Int) then (ns.length : Int) else (most : Int)) else 1) = (n : Int) ∧ n ≤ 1000 := by
      by_cases h1 : (ns.length : Int) < (most : Int)
      · rw [if_pos h1]
        by_cases h2 : (ns.length : Int) > 1
        · exact ⟨ns.length, if_pos h2, by omega⟩
        · exact ⟨1, if_neg h2, by omega⟩
      · rw [if_neg h1]
        by_cases h2 : (most : Int) > 1
        · exact ⟨most, if_pos h2, by omega⟩
        · exact ⟨1, if_neg h2, by omega⟩
    obtain ⟨n, en, hn⟩ := hb
    rw [en]
    refine ⟨by omega, by omega, fun D hD => lc_range (lo := 0) (n := n) (fun i H' => Same H H' ∧ ∃ ds : List Addr, H' D = some (.lst (ds.map V.ref)) ∧ ds.length = i ∧ ∀ d ∈ ds, Dice H' d ∧ d ≠ D) ⟨same_upd hD, [], upd_same, rfl, fun _ h => nomatch h⟩ ?_ ?_⟩
    · rintro i H1 hi ⟨s1, ds, e1, hlen, hds⟩
      refine ⟨rfl, _, rfl, _, rfl, a, ns, i, ?_, s1.seq hs, hl, by omega, fun H2 c s2 => ⟨by show (2 : Nat) ≤ sizeLine; decide, fun d nd => ?_⟩⟩
      · show [V.ref a, V.int (0 + (i : Int))] = [V.ref a, V.int (i : Int)]
        rw [Int.zero_add]
      have s3 := s2.trans (same_upd (o := .lst [.int c, .int 0]) nd)
      have e3 := s3 _ _ e1
      refine ⟨_, e3, ?_, ?_, ds ++ [d], ?_, ?_, ?_⟩
      · rw [List.length_map]
        exact small1000 (by omega)
      · exact same_updR (s1.trans s3) hD
      · rw [upd_same, List.map_append]
        rfl
      · rw [List.length_append, hlen]
        rfl
      · intro x hx
        have nD : d ≠ D := fun e => by
          rw [e] at nd
          rw [s2 _ _ e1] at nd
          cases nd
        rcases List.mem_append.mp hx with hx | hx
        · obtain ⟨⟨p, q, hp⟩, nx⟩ := hds x hx
          exact ⟨⟨p, q, by rw [upd_ne nx]; exact s3 _ _ hp⟩, nx⟩
        · have ex : x = d := by simpa using hx
          subst ex
          exact ⟨⟨c, 0, by rw [upd_ne nD, upd_same]⟩, nD⟩
    · rintro H1 ⟨s1, ds, e1, hlen, hds⟩
      exact z H1 D ds s1 hD e1 hds (by omega)
theorem sc__law_drawn : FnScope ["cell", "k", "more"] ["cell", "k"] (defScope s__law_drawn) := ⟨rfl, rfl, rfl, by decide +kernel, rfl, by decide +kernel, by decide +kernel⟩
section
variable {K : PySem.W.Frag} {mg : Str → Option Value}
theorem b__law_drawn (T : Txt K mg) : Binds K (fdOf K ("_law_drawn", none)) ["cell", "k"] [] := T._law_drawn.bindsN fun _ _ _ _ _ _ us hl => match us, hl with | [_, _], _ => rfl
end
theorem mod_abs {x M : Int} {a : Nat} (h : 0 < M) (hM : M.natAbs < 2 ^ a) : (x % M).natAbs < 2 ^ a := by
  have h1 := Int.emod_nonneg x (b := M) (by omega)
  have h2 := Int.emod_lt_of_pos x h
  exact Nat.lt_of_le_of_lt (by omega) hM
theorem mod1_abs {x M : Int} {a : Nat} (h : 0 < M) (hM : M.natAbs < 2 ^ a) : (x % M + 1).natAbs < 2 ^ a := by
  have h1 := Int.emod_nonneg x (b := M) (by omega)
  have h2 := Int.emod_lt_of_pos x h
  exact Nat.lt_of_le_of_lt (by omega) hM
theorem div1_abs {x M P : Int} {a : Nat} (h : 0 < M) (hP : 0 < P) (hM : M.natAbs < 2 ^ a) : (x % M / P + 1).natAbs < 2 ^ a := by
  have h1 := Int.emod_nonneg x (b := M) (by omega)
  have h2 := Int.emod_lt_of_pos x h
  have h3 : 0 ≤ x % M / P := Int.ediv_nonneg h1 (by omega)
  have h4 : x % M / P ≤ x % M := Int.ediv_le_self P h1
  exact Nat.lt_of_le_of_lt (by omega) hM
def sp__law_drawn : Sp := fun vs H Q _ => ∃ c k : Int, vs = [.int c, .int k] ∧ ∀ r : Int, Q (.int r) H
theorem ok__law_drawn {P : Program} {w : World} {K : PySem.W.Frag} {mg : Str → Option Value} {base : Heap} (T : Txt K mg) : OkF P w K mg base CX0 1 ("_law_drawn", none) ["cell", "k"] sp__law_drawn := by
  refine okN T._law_drawn sc__law_drawn (fun vs H Q E h => ?_) (fun cdv A outer s H vs Q E hr h => ?_)
  · obtain ⟨c, k, rfl, _⟩ := h
    rfl
  · obtain ⟨c, k, rfl, z⟩ := h
    refine ⟨_, (pss_cons (ps_set (i := 2) sc__law_drawn.nd rfl (by first | exact Or.inl rfl | exact Or.inr rfl) (pe_op op_mod (pe_op op_add (pe_op op_mul (pv 0) pe_int) (pe_op op_mul (pe_op op_add (pv 1) pe_int) pe_int)) pe_int))
      (pss_cons (ps_set (i := 2) sc__law_drawn.nd rfl (by first | exact Or.inl rfl | exact Or.inr rfl) (pe_op op_mod (pe_op op_mulW (pv 2) (pv 2)) pe_int))
      (pss_cons (ps_set (i := 2) sc__law_drawn.nd rfl (by first | exact Or.inl rfl | exact Or.inr rfl) (pe_op op_mulW (pe_op op_mulW (pe_op op_add (pe_op op_mod (pv 2) pe_int) pe_int) (pe_op op_add (pe_op op_fdivW (pv 2) pe_int) pe_int)) (pv 2)))
      (pss_one (ps_ret (pe_op op_mod (pv 2) pe_int)))))), ?_⟩
    refine ⟨_, rfl, _, _, rfl, rfl, .inr ⟨by decide, by decide⟩, _, rfl, _, _, rfl, rfl, _, _, rfl, rfl, .inr ⟨by decide, by decide⟩, _, _, rfl, rfl, _, _, rfl, rfl, (by show (0 : Int) < 340282366920938463463374607431768211507; decide), ?_⟩
    refine ⟨_, rfl, _, rfl, _, _, rfl, rfl, wide_mul (a := 129) (b := 129) (mod_abs (by decide) (by decide)) (mod_abs (by decide) (by decide)) (by decide) (by decide) (by decide), _, _, rfl, rfl, (by show (0 : Int) < 340282366920938463463374607431768211297; decide), ?_⟩
    refine ⟨_, rfl, _, _, rfl, rfl, (by show (0 : Int) < 18446744073709551557; decide), _, _, rfl, rfl, _, rfl, _, _, rfl, rfl, ⟨by decide, by decide +kernel⟩, _, _, rfl, rfl, _, _, rfl, rfl, ?_, ?_⟩
    · exact wide_mul (a := 129) (b := 129) (mod1_abs (by decide) (by decide)) (div1_abs (by decide) (by decide) (by decide)) (by decide) (by decide) (by decide)
    · refine ⟨_, rfl, _, _, rfl, rfl, wide_mul (a := 258) (b := 129) (wide_lt (a := 129) (b := 129) (mod1_abs (by decide) (by decide)) (div1_abs (by decide) (by decide) (by decide))) (mod_abs (by decide) (by decide)) (by decide) (by decide) (by decide), ?_⟩
      exact ⟨_, rfl, _, _, rfl, rfl, (by show (0 : Int) < 340282366920938463463374607431768211507; decide), z _⟩
theorem sc__law_roll : FnScope ["dice", "many", "told"] ["dice", "many"] (defScope s__law_roll) := ⟨rfl, rfl, rfl, by decide +kernel, rfl, by decide +kernel, by decide +kernel⟩
section
variable {K : PySem.W.Frag} {mg : Str → Option Value}
theorem b__law_roll (T : Txt K mg) : Binds K (fdOf K ("_law_roll", none)) ["dice", "many"] [] := T._law_roll.bindsN fun _ _ _ _ _ _ us hl => match us, hl with | [_, _], _ => rfl
end
def sp__law_roll : Sp := fun vs H Q _ => ∃ (d : Addr) (many : Int), vs = [.ref d, .int many] ∧ Dice H d ∧ 0 < many ∧ many < 1073741824 ∧ ∀ H' (r : Int), Fr [d] H H' → Dice H' d → 0 ≤ r → r < many → Q (.int r) H'
theorem ok__law_roll {P : Program} {w : World} {K : PySem.W.Frag} {mg : Str → Option Value} {base : Heap} (T : Txt K mg) : OkF P w K mg base CX0 2 ("_law_roll", none) ["dice", "many"] sp__law_roll := by
  refine okN T._law_roll sc__law_roll (fun vs H Q E h => ?_) (fun cdv A outer s H vs Q E hr h => ?_)
  · obtain ⟨d, many, rfl, _⟩ := h
    rfl
  · obtain ⟨d, many, rfl, ⟨a, b, hd⟩, h1, h2, z⟩ := h
    refine ⟨_, (pss_cons (ps_if (pt_cmpR op_ge (pe_ix ix_list (pv 0) pe_int (fun _ _ => rfl)) (pe_op op_pow pe_int pe_int) (nomark _)) (pss_cons (ps_set (i := 2) sc__law_roll.nd rfl (by first | exact Or.inl rfl | exact Or.inr rfl) (pe_op op_mod (pe_ix ix_list (pv 0) pe_int (fun _ _ => rfl)) (pv 1)))
      (pss_cons (ps_asg (pe_op op_fdiv (pe_ix ix_list (pv 0) pe_int (fun _ _ => rfl)) (pv 1)) (pg_sub (pv 0) pe_int set_list))
      (pss_one (ps_ret (pv 2))))) pss_nil)
      (pss_cons (ps_asg (pe_op op_add (pe_ix ix_list (pv 0) pe_int (fun _ _ => rfl)) pe_int) (pg_sub (pv 0) pe_int set_list))
      (pss_one (ps_ret (pe_op op_mod (pe_op op_fdiv (pe_call (ok__law_drawn T) (hr.mono (by decide)) (by rfl) T.g__law_drawn T._law_drawn.kp (b__law_drawn T) .nil pass0 (pa_cons (pe_ix ix_list (pv 0) pe_int (fun _ _ => rfl)) (pa_cons (pe_ix ix_list (pv 0) pe_int (fun _ _ => rfl)) pa_nil))) pe_int) (pv 1)))))), ?_⟩
    refine ⟨_, rfl, d, _, _, _, rfl, rfl, .of hd, rfl, _, _, rfl, rfl, ⟨by decide, by decide, by decide⟩, _, _, rfl, rfl, _, rfl, ?_⟩
    refine ite2 (fun h => ?_) (fun h => ?_)
    · refine ⟨_, rfl, d, _, _, _, rfl, rfl, .of hd, rfl, _, rfl, _, _, rfl, rfl, h1, ?_⟩
      refine ⟨_, rfl, d, _, _, _, rfl, rfl, .of hd, rfl, _, rfl, _, _, rfl, rfl, ⟨h1, h2⟩, _, rfl, d, _, _, 0, rfl, rfl, hd, rfl, ?_⟩
      exact ⟨_, rfl, z _ _ (Fr.upd hd trivial (by simp)) ⟨_, _, upd_same⟩ (Int.emod_nonneg _ (by omega)) (Int.emod_lt_of_pos _ h1)⟩
    · refine ⟨_, rfl, d, _, _, _, rfl, rfl, .of hd, rfl, _, _, rfl, rfl, _, rfl, d, _, _, 1, rfl, rfl, hd, rfl, ?_⟩
      refine ⟨_, rfl, d, _, _, _, rfl, rfl, .of upd_same, rfl, _, rfl, d, _, _, _, rfl, rfl, .of upd_same, rfl, _, _, rfl, fun r => ?_⟩
      exact ⟨_, _, rfl, rfl, ⟨by decide, by decide⟩, _, rfl, _, _, rfl, rfl, h1, z _ _ (Fr.upd hd trivial (by simp)) ⟨_, _, upd_same⟩ (Int.emod_nonneg _ (by omega)) (Int.emod_lt_of_pos _ h1)⟩
def sp_law (K : PySem.W.Frag) : Sp := fun vs H Q _ => ∃ (a : Addr) (ns : List Int), vs = [.ref a] ∧ SqL K H a (ns.map V.int) ∧ ns.length ≤ 63 ∧ ∀ H', Q (.bl true) H'
/-- the dice of all rounds -/
def Rnd (H : Hp) (R : Addr) (ds : List Addr) : Prop := H R = some (.lst (ds.map V.ref)) ∧ ∀ d ∈ ds, Dice H d ∧ d ≠ R
theorem Rnd.turn {H0 H1 : Hp} {R d : Addr} {ds : List Addr} (h : Rnd H0 R ds) (hd : d ∈ ds) (f : Fr [d] H0 H1) (hd1 : Dice H1 d) : Rnd H1 R ds := by
  obtain ⟨h1, h2⟩ := h
  refine ⟨f.keep _ _ (by simp [(h2 d hd).2.symm]) h1, fun x hx => ⟨?_, (h2 x hx).2⟩⟩
  by_cases e : x = d
  · rw [e]
    exact hd1
  · obtain ⟨⟨a, b, z⟩, _⟩ := h2 x hx
    exact ⟨a, b, f.keep _ _ (by simp [e]) z⟩
theorem Rnd.at {H : Hp} {R : Addr} {ds : List Addr} (h : Rnd H R ds) {i : Nat} {v : V} (e : (ds.map V.ref)[i]? = some v) : ∃ d, v = .ref d ∧ d ∈ ds ∧ Dice H d := by
  rw [List.getElem?_map] at e
  cases q : ds[i]? with
  | none =>
    rw [q] at e
    cases e
  | some d =>
    rw [q] at e
    exact ⟨d, (Option.some.inj e).symm, List.mem_of_getElem? q, (h.2 d (List.mem_of_getElem? q)).1⟩
theorem Dice.fr {H H' : Hp} {d x : Addr} (h : Dice H x) (f : Fr [d] H H') (n : x ≠ d) : Dice H' x := by
  obtain ⟨a, b, z⟩ := h
  exact ⟨a, b, f.keep _ _ (by simp [n]) z⟩
theorem Dice.same {H H' : Hp} {d : Addr} (h : Dice H d) (s : Same H H') : Dice H' d := by
  obtain ⟨a, b, z⟩ := h
  exact ⟨a, b, s _ _ z⟩
theorem Fr.then {ds : List Addr} {H0 H1 H2 : Hp} (a : Fr ds H0 H1) (s : Same H1 H2) : Fr ds H0 H2 := a.trans (Fr.of s ds)
theorem Dice.keep {H H' : Hp} {d : Addr} {es : List Addr} (h : Dice H d) (f : Fr es H H') (n : d ∉ es) : Dice H' d := by
  obtain ⟨a, b, z⟩ := h
  exact ⟨a, b, f.keep _ _ n z⟩
/-- a new part -/
theorem make_part {K : PySem.W.Frag} {H : Hp} {v : V} {bs : List Bar} {Q : Addr → Hp → Prop} (hv : v = .non ∧ bs = [] ∨ ∃ a, v = .ref a ∧ Dp K H (.ref a) (.list (barsD bs))) (ok : ∀ b ∈ bs, BarOk b) (hl : bs.length ≤ 40)
    (k : ∀ H' p q, Same H H' → H p = none → H q = none → p ≠ q → PartX K H' p q bs [] → Q p H') :
    ∀ x dx, H x = none → H dx = none → dx ≠ x → sp_Part_init K [.ref x, v] (upd (upd H dx (.own x)) x (.ins (pC K) dx [])) (fun v H2 => v = .non ∧ Q x H2) E0 := by
  intro x dx nx nd ne
  have s : Same H (upd (upd H dx (.own x)) x (.ins (pC K) dx [])) := fun b o e => by
    rw [upd_ne (ne_of_none e nx), upd_ne (ne_of_none e nd)]
    exact e
  refine ⟨x, dx, v, bs, rfl, upd_same, ?_, ok, hl, fun H' q f nq hp => ?_⟩
  · rcases hv with h | ⟨a, e, h⟩
    · exact .inl h
    · exact .inr ⟨a, e, dp_same s h⟩
  · have nqx : x ≠ q := fun e => by
      rw [← e, upd_same] at nq
      cases nq
    have nq0 : H q = none := s.free nq
    exact ⟨rfl, k H' x q (fun b o e => f.keep b o (by simp [ne_of_none e nx]) (s b o e)) nx nq0 nqx hp⟩
/-- a bar appended -/
theorem row_app {K : PySem.W.Frag} {H : Hp} {B : Addr} {bs : List Bar} {v : V} {b : Bar} {vs : List V} (h1 : H B = some (.lst vs)) (h2 : DpAll K H vs (barsD bs)) (hv : Dp K H v (barD b)) : RowAt K (upd H B (.lst (vs ++ [v]))) B (bs ++ [b]) ∧ Fr [B] H (upd H B (.lst (vs ++ [v]))) := by
  have f : Fr [B] H (upd H B (.lst (vs ++ [v]))) := Fr.upd h1 trivial (by simp)
  refine ⟨⟨_, upd_same, ?_⟩, f⟩
  show DpAll K _ _ ((bs ++ [b]).map barD)
  rw [List.map_append]
  exact dpa_app (f.dpa h2 (isTs_bars bs)) (.cons (f.dp hv (isT_bar b)) .nil)
theorem new_ne {H : Hp} {d L : Addr} (hD : Dice H d) (nL : H L = none) : L ≠ d := fun e => by
  obtain ⟨i, j, q⟩ := hD
  rw [e, q] at nL
  cases nL
/-- what follows a statement, asked once -/
theorem seq_cont {t u : TS} {D : Ends} {σ : L2.St} {H : Hp} (C : L2.St → Hp → Prop) (h1 : (∀ σ' H', C σ' H' → u D σ' H') → t { D with nx := u D } σ H) (h2 : ∀ σ' H', C σ' H' → u D σ' H') : tSeq t u D σ H := h1 h2
theorem Fr.freeD {ds : List Addr} {H H' : Hp} {l : Addr} (f : Fr ds H H') (n : l ∉ ds) (h : H' l = none) : H l = none := by
  cases e : H l with
  | none => rfl
  | some o =>
    rw [f.keep _ _ n e] at h
    cases h
theorem ixN_nat {n i : Nat} (h : i < n) : ixN n (i : Int) = some i := by
  unfold ixN
  rw [if_pos (by omega), if_pos (by omega), Int.toNat_natCast]
/-! ### while an exception is handled: the chain of its contexts is known -/
/-- the objects ps stand in h -/
def Stand (ps : List (Addr × Obj)) (h : Heap) : Prop := ∀ p ∈ ps, h.get? p.1 = some p.2
theorem Stand.up {ps : List (Addr × Obj)} {h h' : Heap} (s : Stand ps h) (k : ∀ b o, h.get? b = some o → h'.get? b = some o) : Stand ps h' := fun p hp => k _ _ (s p hp)
/-- the handled exception is of ps; its context is None, or of ps and without a context -/
def HotIn (A : Around) (ps : List (Addr × Obj)) : Prop := ∃ (x : Addr) (o : Obj) (vs : Array Value), A.handled = some (.ref x) ∧ (x, o) ∈ ps ∧ o.data = .fields vs ∧
  (vs[2]? = some .none ∨ ∃ (y : Addr) (oy : Obj) (vy : Array Value), y ≠ x ∧ vs[2]? = some (.ref y) ∧ (y, oy) ∈ ps ∧ oy.data = .fields vy ∧ vy[2]? = some .none)
section
variable {prog : Program} {w : World} {A : Around} {E : Value → Shared → Prop} {s : Shared} {ps : List (Addr × Obj)}
theorem unch2 {x y a : Addr} {ox oy : Obj} {vx vy : Array Value} {Q : Value → Shared → Prop} (hx : s.heap.get? x = some ox) (dx : ox.data = .fields vx) (cx : vx[2]? = some (.ref y)) (hy : s.heap.get? y = some oy) (dy : oy.data = .fields vy) (cy : vy[2]? = some .none)
    (ne : y ≠ x) (na : y ≠ a) (q : Q .none s) : wpAny (model prog w) A (holding [Value.ref a] (runValue (.builtin "proto.unchain" ⟨[.ref a, .ref x, .ref x, .bool false], []⟩))) Q E s := by
  refine wpAny_holding (wpAny_runValue (codeAny_builtin HotX.entry_unchain ?_))
  show wpAny _ _ (field (.ref x) 2 >>= _) _ _ s
  refine wpAny_bind (wpAny_field hx dx cx ?_)
  have n1 : ¬ ((Value.ref y == Value.none) = true) := by simp
  have n2 : ¬ ((Value.ref y == Value.ref a) = true) := by simp [na]
  have n3 : ¬ ((Value.ref y == Value.ref x) = true) := by simp [ne]
  simp only [if_neg n1, if_neg n2, if_neg n3]
  refine wpAny_bind (wpAny_pure ?_)
  refine wpAny_bind (wpAny_pure ?_)
  refine wpAny_bind (wpAny_pure ?_)
  refine wpAny_bind (wpAny_pure ?_)
  refine wpAny_pure ⟨Code.quiet_builtin _ (by decide +kernel), codeAny_builtin HotX.entry_unchain ?_⟩
  show wpAny _ _ (field (.ref y) 2 >>= _) _ _ s
  refine wpAny_bind (wpAny_field hy dy cy ?_)
  rw [if_pos (show (Value.none == Value.none) = true from rfl)]
  first
  | exact wpAny_bind (wpAny_pure (wpAny_pure q))
  | exact wpAny_pure q
/-- a new exception is raised there -/
theorem raise_in {α : Type} {a : Addr} {oe : Obj} {vs : Array Value} {Q : α → Shared → Prop} (hot : HotIn A ps) (st : Stand ps s.heap) (na : ∀ p ∈ ps, p.1 ≠ a) (ha : s.heap.get? a = some oe) (da : oe.data = .fields vs) (hi : 2 < vs.size)
    (hE : ∀ x, E (.ref a) { s with heap := s.heap.update a (Obj.mapFields (·.setIfInBounds 2 (.ref x))) }) : wpAny (model prog w) A (raiseNew (.ref a) : Sem α) Q E s := by
  obtain ⟨x, o, vx, hh, mx, dx, c⟩ := hot
  unfold raiseNew
  refine wpAny_bind (wpAny_handled ?_)
  rw [hh]
  have hb : (Value.ref x != Value.ref a) = true := HotX.ref_bne (na _ mx)
  have un : ∀ {Q' : Value → Shared → Prop}, Q' .none s → wpAny (model prog w) A (holding [Value.ref a] (runValue (.builtin "proto.unchain" ⟨[.ref a, .ref x, .ref x, .bool false], []⟩))) Q' E s := fun {Q'} q => by
    rcases c with c | ⟨y, oy, vy, nyx, cy, my, dy, cn⟩
    · exact HotX.unchained (st _ mx) dx c q
    · exact unch2 (st _ mx) dx cy (st _ my) dy cn nyx (na _ my) q
  first
  | (show wpAny _ _ (if (Value.ref x != Value.ref a) = true then _ else _) _ _ _
     rw [if_pos hb]
     first
     | exact wpAny_bind (un (wpAny_bind (HotX.chained ha da hi (wpAny_throw (hE x)))))
     | exact wpAny_bind (wpAny_bind (un (HotX.chained ha da hi (wpAny_throw (hE x))))))
  | (refine wpAny_bind ?_
     show wpAny _ _ (if (Value.ref x != Value.ref a) = true then _ else _) _ _ _
     rw [if_pos hb]
     exact wpAny_bind (un (HotX.chained ha da hi (wpAny_throw (hE x)))))
/-- a list's walk ends there -/
theorem next_end_in {it l : Addr} {i : Nat} {items : Array Value} {Q : Option Value → Shared → Prop} (hot : HotIn A ps) (st : Stand ps s.heap) (nit : ∀ p ∈ ps, p.1 ≠ it) (hit : s.heap.IsListIter it l i) (hl : s.heap.IsList l items) (hx : items[i]? = none)
    (hQ : ∀ h', Heap.ExtBut it s.heap h' → Q none { s with heap := h' }) : wpAny (model prog w) A (pyNext (.ref it)) Q E s := by
  obtain ⟨oi, hoi, _, di⟩ := id hit
  obtain ⟨ol, hol, _, nl, dl⟩ := hl
  unfold pyNext
  refine wpAny_bind (wpAny_attempt (wpAny_callSpecial?_slot (name := Str.ofString "__next__") hit.typeIs slot_listiter_next (wpAny_call_entry slot_listiter_next hit.typeIs entry_listiter_next ?_ (args_listiter_next _))))
  show wpAny _ _ (field (.ref it) 0 >>= _) _ _ s; refine wpAny_bind (wpAny_field hoi di (x := .ref l) rfl ?_)
  show wpAny _ _ (if (Value.ref l == Value.none) = true then _ else _) _ _ s; rw [if_neg (by simp)]
  show wpAny _ _ (field (.ref it) 1 >>= _) _ _ s; refine wpAny_bind (wpAny_field hoi di (x := .int i 0) rfl ?_)
  show wpAny _ _ (seqItems? (.ref l) >>= _) _ _ s; refine wpAny_bind (wpAny_seqItems hol dl ?_)
  simp only [Int.toNat_natCast, hx]
  refine wpAny_bind (wpAny_rule (wpAny_bind (wpAny_setField hoi di (by simp) ?_)))
  generalize hU : (s.heap.update it _) = hu
  have ku : ∀ b o, b ≠ it → s.heap.get? b = some o → hu.get? b = some o := fun b o nb e => by
    rw [← hU, Heap.get?_update_other _ _ (Ne.symm nb)]; exact e
  have stu : Stand ps hu := fun p hp => ku _ _ (nit p hp) (st p hp)
  show wpAny _ _ (newExc (.type "StopIteration") [] >>= _) _ _ _
  refine wpAny_bind ?_; simp only [newExc, newTuple]
  refine wpAny_bind (wpAny_newObj_type ?_ (by size_fits))
  refine wpAny_bind (m := firstArgMember _ _) (wpAny_of_eq (a := Value.none) (by first | rfl | (simp only [firstArgMember]; rfl)) ?_)
  refine wpAny_newObj_type ?_ (by size_fits)
  refine raise_in hot (stu.up fun b o e => Heap.get?_push_of_some _ (Heap.get?_push_of_some _ e)) (fun p hp => Nat.ne_of_lt (Heap.lt_size (Heap.get?_push_of_some _ (stu p hp)))) (Heap.get?_push_size _ rfl) rfl (by first | (simp; done) | (simp; omega) | (simp only [Array.size_append]; simp; omega)) fun x => ?_
  refine wpAny_bind (wpAny_isInstance (T := "StopIteration") (b := true) ⟨_, Heap.get?_update_self _ (Heap.get?_push_size _ rfl) rfl, rfl⟩ isSubtype_stop ?_)
  refine wpAny_pure (hQ _ fun b o nb e => ?_)
  have e2 := ku b o nb e
  rw [Heap.get?_update_other _ _ (Nat.ne_of_gt (Heap.lt_size (Heap.get?_push_of_some _ e2)))]
  exact Heap.get?_push_of_some _ (Heap.get?_push_of_some _ e2)
/-- such a walk -/
theorem walks_in (hot : HotIn A ps) (I ax : Addr) (hne : ax ≠ I) (nI : ∀ p ∈ ps, p.1 ≠ I) (items : Array Value) :
    Walks prog w A I (I :: ax :: ps.map (·.1)) [I] items.size (fun i v => items[i]? = some v) (fun i h => (h.IsListIter I ax i ∧ h.IsList ax items) ∧ Stand ps h) where
  sub := fun b hb => by simp at hb; simp [hb]
  frame := fun _ _ _ st hk => ⟨⟨st.1.1.at fun o e => hk I (by simp) o e, st.1.2.at fun o e => hk ax (by simp) o e⟩, fun p hp => hk p.1 (by simp; exact .inr (.inr ⟨_, hp⟩)) _ (st.2 p hp)⟩
  item := fun i s Q E hi st hQ => by
    refine wpAny_pyNext_list_item st.1.1 st.1.2 (x := items[i]) (by simp [hi]) fun h' hit' hs' => ?_
    have kk : ∀ b o, b ≠ I → s.heap.get? b = some o → h'.get? b = some o := hs'.extBut
    exact hQ _ h' s.toks (by simp [hi]) ⟨⟨hit', st.1.2.extBut kk hne⟩, fun p hp => kk _ _ (nI p hp) (st.2 p hp)⟩ fun b o hb e => kk b o (fun h => hb (by simp [h])) e
  done := fun s Q E st hQ => next_end_in hot st.2 nI st.1.1 st.1.2 (by simp) fun h' he' => hQ h' s.toks fun b o hb e => he' b o (fun h => hb (by simp [h])) e
  self := fun _ _ _ _ st hQ => wpAny_pyIter_listiter st.1.1 hQ
/-- sum of a list of ints there -/
theorem sum_in {l : Addr} {xs : Array (Int × Tok)} {Q : Value → Shared → Prop} (hot : HotIn A ps) (st : Stand ps s.heap) (hl : s.heap.IsList l (intItems xs))
    (h : ∀ h' tk t', (∀ b o, s.heap.get? b = some o → h'.get? b = some o) → Q (.int (preSum (numAt xs) xs.size) t') { s with heap := h', toks := tk }) : wpAny (model prog w) A (call (.builtin "sum") [.ref l]) Q E s := by
  refine call_sum_walkG (iter_intList hl fun s₂ e st' hfp hlI => ?_)
  subst e
  refine ⟨_, _, _, _, _, _, numAt xs, rfl, walks_in (A := A.in1) hot _ l hlI (fun p hp => Nat.ne_of_lt (Heap.lt_size (st p hp))) (intItems xs), ⟨st', st.up fun b o e => Heap.get?_push_of_some _ e⟩, fun b hb => ?_, (fun _ _ => intItems_at), fun h' tk t' hk => ?_⟩
  · rcases List.mem_cons.mp hb with e | hb
    · exact hfp b (by simp [e])
    · rcases List.mem_cons.mp hb with e | hb
      · exact hfp b (by simp [e])
      · obtain ⟨p, hp, e⟩ := List.mem_map.mp hb
        rw [← e]
        exact Heap.lt_size (Heap.get?_push_of_some _ (st p hp))
  · have := h h' tk t' (old_kept hk)
    simpa [intItems] using this
end
/-! ### contexts in which an exception is handled -/
structure HotX1 (X : Cx) (ps : List (Addr × Obj)) : Prop where
  hot : HotIn X.A ps
  st : Stand ps X.base
section
variable {X : Cx} {ps : List (Addr × Obj)}
theorem HotX1.at {pins : List (Addr × Obj)} {σ : L2.St} {H : Hp} {s : Shared} (h : HotX1 X ps) (I : Inv X pins σ H s) : Stand ps s.heap := h.st.up I.bk
theorem cr_sumH (hx : HotX1 X ps) : CallR X (.builtin "sum") (rSum X.K) := by
  intro pins s σ H vs us Q I r h
  obtain ⟨a, ns, rfl, hs, q⟩ := h
  obtain ⟨its, rv, hl, _⟩ := I.list hs
  rw [Vals.ref1 r]
  obtain ⟨xs, e⟩ := rv.ints.allInts.items
  have hn : numsOf (intItems xs).toList = ns := by rw [← e]; exact rv.ints.numsOf
  rw [nums_intItems] at hn
  have hl' := hl.isList
  rw [e] at hl'
  refine sum_in hx.hot (hx.at I) hl' fun h' tk t' hk => ⟨.int ns.sum, H, I.kept hk, ⟨t', ?_⟩, q⟩
  rw [preSum_eq, List.take_of_length_le (by simp), hn]
/-- [int(x) for x in xs], xs truth values -/
def tInts (K : PySem.W.Frag) (tl : TE) : TE := fun σ H Q => tl σ H fun v H1 => ∃ (a : Addr) (bs : List Bool), v = .ref a ∧ SqL K H1 a (bs.map V.bl) ∧ ∀ D, H1 D = none → Q (.ref D) (upd H1 D (.lst (bs.map fun b => V.int (if b then 1 else 0))))
theorem vals_ints2 : ∀ {bs : List Bool} {us ys : List Value}, Vals (bs.map V.bl) us → Paired (fun v y => ∃ (b : Bool) (t : Tok), v = Value.bool b ∧ y = Value.int (if b then 1 else 0) t) us ys → Vals (bs.map fun b => V.int (if b then 1 else 0)) ys
  | [], _, _, .nil, .nil => .nil
  | b :: bs, _, _, .cons r rr, .cons p pp => by
    obtain ⟨b', t, e1, e2⟩ := p
    have r' : _ = Value.bool b := r
    rw [e1] at r'
    cases r'
    exact .cons ⟨t, e2⟩ (vals_ints2 rr pp)
theorem vals_bool : ∀ {bs : List Bool} {us : List Value} {i : Nat} {v : Value}, Vals (bs.map V.bl) us → us[i]? = some v → ∃ b, v = .bool b
  | [], _, _, _, .nil, e => by simp at e
  | b :: bs, _, 0, v, .cons r rr, e => by
    have e' := Option.some.inj e
    subst e'
    exact ⟨b, r⟩
  | b :: bs, _, i + 1, v, .cons r rr, e => vals_bool (i := i) rr (by simpa using e)
theorem pe_ints {iter : Expr} {tl : TE} {x : Str} {p1 p2 p3 px pos : Pos} {scope : Scope} (hx : HotX1 X ps) (hl : PE X iter tl) (hm : X.mg "int" = none) (hfree : ∀ y ∈ scope.names, y.2 ≠ .free) (hcell : ∀ y ∈ scope.names, y.2 ≠ .cell) (hkind : scope.kind = .function)
    (hnames : ∀ y ∈ scope.names, y.2 = .local → scope.names.lookup y.1 = some .local) (hxl : scope.names.lookup x = some .local) (hgi : ∀ C, (compEnv scope C X.env).kindOf "int" = some .globalImplicit) (hxd : (x == ("__debug__" : Str)) = false) (hxc : (x == ("__classdict__" : Str)) = false)
    (hs : ∀ x, foldedSetIterable iter X.env x = pure x := by intro _; rfl) :
    PE X (.ListComp (.Call (.Name "int" p1) [.Name x p2] [] p3) [⟨.Name x px, iter, [], 0⟩] scope pos) (tInts X.K tl) := by
  refine ⟨fun pins s σ H Q I h => ?_⟩
  refine wpAny_ListComp_walk (fun _ => true) (fun v y => ∃ (b : Bool) (t : Tok), v = Value.bool b ∧ y = Value.int (if b then 1 else 0) t) hfree hcell hkind hnames hxl (thn (hl.run pins s σ H _ I h) fun v s1 ⟨z, H1, I1, r1, a, bs, e, hq, q⟩ => ?_) hs
  subst e
  cases r1
  obtain ⟨its, rv, pl, hz⟩ := I1.list hq
  have hlt : a < s1.heap.objs.size := by obtain ⟨_, e, _⟩ := pl.isList; exact Heap.lt_size e
  refine wpAny_pyIter_list pl.isList ?_
  refine ⟨s1.heap.objs.size, _, [s1.heap.objs.size], its.toArray.size, _, _, rfl, walks_in hx.hot _ a (Nat.ne_of_lt hlt) (fun p hp => Nat.ne_of_lt (Heap.lt_size (hx.at I1 p hp))) its.toArray, by rw [List.size_toArray, ← rv.length]; exact hz,
    ⟨⟨⟨_, Heap.get?_push_size _ rfl, rfl, rfl⟩, pl.isList.push _⟩, (hx.at I1).up fun b o e => Heap.get?_push_of_some _ e⟩, fun b hb => ?_, ⟨fun C i v s₃ m₃ E' _ _ _ _ _ => wpAny_pure ⟨rfl, ⟨s₃.heap, s₃.toks, rfl, fun _ _ e => e⟩⟩, fun C i v s₃ m₃ E' hP _ hn hx' hk _ => ?_⟩, fun D h' tk ys vs hD hl' hpl hlen hP hF hk => ?_⟩
  · show b < (s1.heap.push _).objs.size
    rw [Heap.size_push]
    rcases List.mem_cons.mp hb with e | hb
    · rw [e]; exact Nat.lt_succ_self _
    · rcases List.mem_cons.mp hb with e | hb
      · rw [e]; exact Nat.lt_succ_of_lt hlt
      · obtain ⟨p, hp, e⟩ := List.mem_map.mp hb
        rw [← e]
        exact Nat.lt_succ_of_lt (Heap.lt_size (hx.at I1 p hp))
  · obtain ⟨b, eb⟩ := vals_bool (i := i) rv (by simpa using hP)
    obtain ⟨mb, h1, h2⟩ := I1.mod.blt
    have kk : ∀ b o, s1.heap.get? b = some o → s₃.heap.get? b = some o := fun b o e => hk b o (by simp only [List.mem_singleton]; exact Nat.ne_of_lt (Heap.lt_size e)) (Heap.get?_push_of_some _ e)
    have kb : ∀ b o, X.base.get? b = some o → s₃.heap.get? b = some o := fun b o e => kk b o (I1.bk b o e)
    refine Call_ (Calls.Name_function_global (by exact hkind) (hgi C) (Calls.loadGlobal_builtin (by show s₃.heap.Ns X.env.globals _; rw [I1.ok.glob]; exact I1.mod.glob.keeps kb) hm (by show s₃.heap.Ns X.env.builtins _; rw [I1.ok.blt]; exact h1.keeps kb) ((h2 "int" (by decide)).trans (show bootBuiltins "int" = some (.type "int") by decide +kernel)) ?_) (by decide))
    refine PyProof.Rows.callWith_type1 (Calls.spliced_cons (wpAny_Name (wpAny_loadName_local (by exact hkind) (by exact hxl) hn hx' (Calls.spliced_nil ?_)) hxd)) rfl rfl
    subst eb
    exact call_int_bool ⟨⟨b, _, rfl, rfl⟩, ⟨s₃.heap, _, rfl, fun _ _ e => e⟩⟩
  · have e1 : vs = its := by
      refine List.ext_getElem? fun j => ?_
      by_cases hj : j < vs.length
      · have e2 := hP j _ (List.getElem?_eq_getElem hj)
        rw [List.getElem?_eq_getElem hj]
        simpa using e2.symm
      · rw [List.getElem?_eq_none (by omega), List.getElem?_eq_none (by rw [hlen, List.size_toArray] at hj; omega)]
    subst e1
    have hF2 : Paired (fun v y => ∃ (b : Bool) (t : Tok), v = Value.bool b ∧ y = Value.int (if b then 1 else 0) t) vs ys.toList := by rw [List.filter_eq_self.mpr (fun _ _ => rfl)] at hF; exact hF
    have rv2 := vals_ints2 rv hF2
    have nD : s1.heap.get? D = none := by
      cases e : s1.heap.get? D with
      | none => rfl
      | some o =>
        have := Heap.get?_push_of_some (h := s1.heap) ({ cls := .type "list_iterator", data := .fields #[.ref a, .int 0 0] } : Obj) e
        rw [hD] at this
        cases this
    obtain ⟨n, hn⟩ := hpl
    have nH : H1 D = none := I1.hok.gone nD
    refine ⟨.ref D, _, I1.laidN (t' := tk) (o := .lst (bs.map fun b => V.int (if b then 1 else 0))) (fun b o e => hk b o (by simp only [List.mem_singleton]; exact Nat.ne_of_lt (Heap.lt_size e)) (Heap.get?_push_of_some _ e)) nD nH ⟨?_, ys.toList, n, rv2, by simpa using hn⟩, rfl, q D nH⟩
    rw [List.length_map]
    simpa using hz
end
/-! ### an exception of the base -/
structure ExAt (K : PySem.W.Frag) (base : Heap) (n : Str) (a : Addr) (d : Option Addr) : Prop where
  k : ExK K n
  ob : ∃ (oe : Obj) (vs : Array Value), base.get? a = some oe ∧ oe.cls = .ref (He.ga K n) ∧ oe.dict = d ∧ oe.data = .fields vs
def rIsX (K : PySem.W.Frag) (n : Str) (a : Addr) (d : Option Addr) : List V → Hp → VK → Prop := fun xs H Q => ∃ (c : V) (u : Value) (b : Bool), xs = [.ref a, c] ∧ ClsV c u ∧ (∀ dd, d = some dd → ∃ fs, H dd = some (.xd fs)) ∧ PySem.W.kitOne K (.ref (He.ga K n)) u = some b ∧ Q (.bl b) H
theorem call_isX {X : Cx} {n : Str} {a : Addr} {d : Option Addr} (k1 : PySem.W.specialIn X.K (.builtin "object.__class__") "__get__" = some (some (.builtin "getset_descriptor.__get__"))) (k2 : PySem.W.takesIn X.K (.builtin "object.__class__") = some true)
    (e : ExAt X.K X.base n a d) : CallR X (.builtin "isinstance") (rIsX X.K n a d) := by
  intro pins s σ H xs us Q I r h
  obtain ⟨c, u, b, rfl, hc, hd, hk, q⟩ := h
  cases r with
  | cons rx rr =>
    cases rr with
    | cons rt rr =>
      cases rr
      cases rx
      rw [hc.eq rt]
      obtain ⟨oe, vs, ho, h1, h2, h3⟩ := e.ob
      have hg := I.bk _ _ ho
      have J : ∃ od, PySem.W.InstAt s.heap a oe (He.ga X.K n) od := by
        cases d with
        | none => exact ⟨none, hg, h1, by unfold PySem.W.notCls; rw [h3] <;> rfl, by rw [h2] <;> trivial⟩
        | some dd =>
          obtain ⟨fs, hf⟩ := hd dd rfl
          obtain ⟨o, ho2⟩ := objOk_get (I.hok dd _ hf)
          exact ⟨some o, hg, h1, by unfold PySem.W.notCls; rw [h3] <;> rfl, by rw [h2]; exact ho2⟩
      obtain ⟨od, J⟩ := J
      have hcl : (PySem.W.clsIn X.K (He.ga X.K n)).isSome = true := by
        obtain ⟨cd, hcd, _⟩ := PySem.W.any_some e.k.f.hd
        rw [hcd]
        rfl
      exact PySem.W.kia_one (PySem.W.kitx_exc (od := od) hcl e.k.f.ga e.k.f.gg e.k.f.sub e.k.f.ca k1 k2 e.k.f.mro) I.kIn J hk (fun z => nomatch z) fun tk => ⟨.bl b, H, I.kept (t' := tk) fun _ _ z => z, rfl, q⟩
/-! ### a base with more in it -/
theorem base_more {X : Cx} {pins : List (Addr × Obj)} {σ : L2.St} {H : Hp} {s : Shared} (I : Inv X pins σ H s) (ps : List (Addr × Obj)) (st : Stand ps s.heap) (hn : ∀ p ∈ ps, H p.1 = none ∧ p.1 ∉ frs X.stack) :
    ∃ base : Heap, (∀ b o, X.base.get? b = some o → base.get? b = some o) ∧ Stand ps base ∧ Env0 X.prog X.w X.K X.mg base X.A X.stack s H := by
  obtain ⟨e1, e2, e3, e4, e5, e6, e7, e8⟩ := I.env0
  obtain ⟨l, hl⟩ : ∃ l : List Addr, l = (List.range s.heap.objs.size).filter fun b => !((X.base.get? b).isSome || (ps.map (·.1)).contains b) := ⟨_, rfl⟩
  have inl : ∀ {b : Addr}, b ∈ l → X.base.get? b = none ∧ b ∉ ps.map (·.1) := fun {b} hb => by
    rw [hl] at hb
    have z := (List.mem_filter.mp hb).2
    simp only [Bool.not_or, Bool.and_eq_true, Bool.not_eq_true', Option.isSome_eq_false_iff, Option.isNone_iff_eq_none] at z
    refine ⟨z.1, fun hm => ?_⟩
    have z2 := z.2
    rw [List.contains_iff_mem.mpr hm] at z2
    cases z2
  have bb : ∀ b o, X.base.get? b = some o → (PySem.W.hideAll s.heap l).get? b = some o := fun b o e => PySem.W.hideAll_get l (e3 b o e).1 fun hm => by
    rw [(inl hm).1] at e
    cases e
  have bp : Stand ps (PySem.W.hideAll s.heap l) := fun p hp => PySem.W.hideAll_get l (st p hp) fun hm => (inl hm).2 (List.mem_map.mpr ⟨p, hp, rfl⟩)
  have ob : ∀ b o, (PySem.W.hideAll s.heap l).get? b = some o → s.heap.get? b = some o ∧ (X.base.get? b = some o ∨ b ∈ ps.map (·.1)) := fun b o e => by
    have e' := PySem.W.of_hideAll l e
    refine ⟨e', ?_⟩
    cases q : X.base.get? b with
    | some o' =>
      rw [(e3 b o' q).1] at e'
      exact .inl e'
    | none =>
      by_cases hm : b ∈ ps.map (·.1)
      · exact .inr hm
      · have hb : b ∈ l := by
          rw [hl]
          refine List.mem_filter.mpr ⟨List.mem_range.mpr (Heap.lt_size e'), ?_⟩
          rw [q]
          have : (ps.map (·.1)).contains b = false := by
            cases z : (ps.map (·.1)).contains b with
            | false => rfl
            | true => exact absurd (List.contains_iff_mem.mp z) hm
          rw [this]
          rfl
        rw [PySem.W.hideAll_none l hb] at e
        cases e
  have np : ∀ b ∈ ps.map (·.1), H b = none ∧ b ∉ frs X.stack := fun b hb => by
    obtain ⟨p, hp, rfl⟩ := List.mem_map.mp hb
    exact hn p hp
  refine ⟨PySem.W.hideAll s.heap l, bb, bp, e1, ⟨e2.kin.keeps bb, e2.glob.keeps bb, ?_, e2.nolimit.keeps bb⟩, fun b o e => ?_, Nat.le_of_eq (PySem.W.hideAll_size _ _), funFrames_none e5 fun L hL => ?_, e6, e7, e8⟩
  · obtain ⟨mb, h1, h2⟩ := e2.blt
    exact ⟨mb, h1.keeps bb, h2⟩
  · obtain ⟨h1, h2⟩ := ob b o e
    rcases h2 with h2 | h2
    · exact ⟨h1, (e3 b o h2).2⟩
    · exact ⟨h1, (np b h2).1⟩
  · cases q : (PySem.W.hideAll s.heap l).get? L with
    | none => rfl
    | some o =>
      obtain ⟨h1, h2⟩ := ob L o q
      rcases h2 with h2 | h2
      · have z := (e5.mem hL).1
        rw [h2] at z
        cases z
      · exact absurd hL (np L h2).2
/-! ### a def called there -/
theorem run_hot {P : Program} {w : World} {K : PySem.W.Frag} {mg : Str → Option Value} {base : Heap} {k : Nat} {f : Addr} {x qual : Str} {params : Arguments} {body : List Stmt} {scope : Scope} {dvs : List V} {kws : List (Str × V)} {fd : FuncData} {N ps : List Str}
    (F : FunD K x qual params body scope dvs kws f fd) (S : FnScope N ps scope) {A : Around} {outer : List Env} {s : Shared} {H : Hp} {us : List Value} {vs : List V} {Q : VK} {E : XK} (hr : L2H.RoomH (k + 1) A) (e0 : Env0 P w K mg base A outer s H) (hb : BindsTo s fd ⟨us, []⟩ (ps.zip us)) (r : Vals vs us) (hl : vs.length = ps.length)
    (p : Addr × Obj) (hp : L2H.PinOk outer H s p)
    (hbody : ∀ cdv, L2H.RoomH k (A.deeper (envOfC qual scope s.heap.objs.size f cdv)) → ∃ t, PSs (L2H.cxH CX0 P w K mg base N qual scope f cdv A outer s H E p) body t ∧ t { nx := fun _ H' => Q .non H', rt := Q } (L2.start N vs) H) :
    codeAny (model P w) A (.call (.ref f) ⟨us, []⟩) (CR CX0 outer P w H s Q E) s := by
  obtain ⟨oc, od, dV, kV, doc, pm, an, cdv, ct, osl, rfl, lk, hcd, _⟩ := F.ex
  have kept : ∀ b o, base.get? b = some o → s.heap.get? b = some o := fun b o e => (e0.bs b o e).1
  have KX : K.In s.heap := e0.mod.kin.keeps kept
  refine codeAny_call_function hr.depth (KX _ _ lk) rfl S.co S.gen rfl (PySem.W.codeRec_of KX hcd) (hb _ _ _ _ ?_)
  refine wpAny_newFunctionEnv_cells S.kind (fun ⟨n, v⟩ hy => ?_) fun env he s1 x => ?_
  · rcases S.par n (List.of_mem_zip hy).1 with q | q
    · exact .inl q
    · exact .inr ⟨q, PySem.W.cellsFrom_some _ _ _ (.inl q)⟩
  subst he
  refine ⟨(e0.mod.nolimit.keeps kept).keeps x.toInCall.keep, codeAny_func ?_⟩
  obtain ⟨t, ht, hq⟩ := hbody cdv (hr.deeper _)
  have I : Inv (L2H.cxH CX0 P w K mg base N qual scope f cdv A outer s H E p) [] (L2.start N vs) H s1 := L2H.inv_startH S hp e0 hl r x
  refine wpAny_mono (ht.run [] s1 (L2.start N vs) H _ I hq) (fun fl s' hs => ?_) fun e s' hs => hs
  cases fl with
  | ret u => obtain ⟨v, σ', H', J, rv, q⟩ := hs; exact ⟨v, H', J.os, J.bare, J.base, J.hok, rv, q⟩
  | next => obtain ⟨σ', H', J, q⟩ := hs; exact ⟨.non, H', J.os, J.bare, J.base, J.hok, rfl, q⟩
  | brk => obtain ⟨_, _, _, q⟩ := hs; exact q.elim
  | cont => obtain ⟨_, _, _, q⟩ := hs; exact q.elim
theorem units65 {k : Nat} {A : Around} (h : Room k A) : A.units + 65 < cLine := by
  have := h.un
  omega
def rLenK (K : PySem.W.Frag) : List V → Hp → VK → Prop := fun xs H Q => ∃ x n, xs = [x] ∧ LenV K x H n ∧ Q (.int (n : Nat)) H
section
variable {X : Cx}
/-- sum of a tuple of ints -/
def rSumT (K : PySem.W.Frag) : List V → Hp → VK → Prop := fun vs H Q => ∃ (a : Addr) (ns : List Int), vs = [V.ref a] ∧ SqT K H a (ns.map V.int) ∧ Q (.int ns.sum) H
theorem cr_sumT (hc : X.calm = true) : CallR X (.builtin "sum") (rSumT X.K) := by
  intro pins s σ H vs us Q I r h
  obtain ⟨a, ns, rfl, hs, q⟩ := h
  obtain ⟨its, rv, hl, _⟩ := I.tuple hs
  rw [Vals.ref1 r]
  have hi : IntsAre its ns := rv.ints
  obtain ⟨xs, e⟩ := hi.allInts.items
  have hn : numsOf (intItems xs).toList = ns := by rw [← e]; exact hi.numsOf
  rw [nums_intItems] at hn
  have hT : s.heap.IsTuple a (intItems xs) := by rw [← e]; exact hl
  have hlt : a < s.heap.objs.size := hl.lt
  refine call_sum_walkG (wpAny_pyIter_tuple hT ?_)
  refine ⟨_, [s.heap.objs.size, a], [s.heap.objs.size], _, _, _, numAt xs, rfl, Walks.tuple (A := X.A.in1) (I.ok.hd hc) _ a (Nat.ne_of_lt hlt) (intItems xs),
    ⟨⟨_, Heap.get?_push_size _ rfl, rfl, rfl⟩, hT.push _⟩, fun c hcc => ?_, (fun _ _ => intItems_at), fun h' tk t' hk => ?_⟩
  · show c < (s.heap.push _).objs.size
    rw [Heap.size_push]
    rcases List.mem_cons.mp hcc with rfl | hcc
    · exact Nat.lt_succ_self _
    · have e : c = a := by simpa using hcc
      rw [e]
      exact Nat.lt_succ_of_lt hlt
  · have hk2 : ∀ b o, s.heap.get? b = some o → h'.get? b = some o := fun b o e => hk b o (by
      intro hb
      have e2 : b = s.heap.objs.size := by simpa using hb
      have lt := Heap.lt_size e
      rw [e2] at lt
      exact Nat.lt_irrefl _ lt) (Heap.get?_push_of_some _ e)
    refine ⟨.int ns.sum, H, I.kept hk2, ⟨t', ?_⟩, q⟩
    rw [preSum_eq, List.take_of_length_le (by simp [intItems]), hn]
/-- t.count(x) of data -/
def rCntD (K : PySem.W.Frag) : V → List V → Hp → VK → Prop := fun x xs H Q => ∃ (p : Addr) (y : V) (ds : List PyData) (d : PyData), x = .ref p ∧ xs = [y] ∧ Dp K H (.ref p) (.tuple ds) ∧ Dp K H y d ∧ SeqAt.shaped (.tuple ds) = true ∧ SeqAt.shaped d = true ∧ Q (.int ((ds.countP fun z => PyData.eqv z d : Nat) : Int)) H
theorem mt_tcount (hu : X.A.units + 65 < cLine) : MtR X "tuple.count" (rCntD X.K) := by
  intro pins s σ H x xs v us Q I rx rxs h
  obtain ⟨p, y, ds, d, rfl, rfl, hl, hy, sl, sd, q⟩ := h
  cases rx
  obtain ⟨u, rfl, ru⟩ := rxs.one
  obtain ⟨bs, r1⟩ := Dp.reads I d y u hy ru
  cases hl with
  | tup hs ha =>
    obtain ⟨its, rv, hT, _⟩ := I.tuple hs
    obtain ⟨as, h4⟩ := Dp.readsAll I ds _ its ha rv
    exact SeqAt.count_tuple_data (vs := its.toArray) hT (by simpa using h4) r1 (PyData.plain_of_canLay0 (.tuple ds) (SeqAt.canLay_of_shaped sl)) (PyData.plain_of_canLay0 _ (SeqAt.canLay_of_shaped sd)) (room_in_shaped sd hu) ⟨.int _, H, I.tok _, ⟨_, rfl⟩, q⟩
def rInDT (K : PySem.W.Frag) : R2 := fun x y H Q => ∃ d ds, Dp K H x d ∧ Dp K H y (.tuple ds) ∧ SeqAt.shaped d = true ∧ SeqAt.shaped (.tuple ds) = true ∧ Q (.bl (ds.any fun z => PyData.eqv z d)) H
def rNotInDT (K : PySem.W.Frag) : R2 := fun x y H Q => ∃ d ds, Dp K H x d ∧ Dp K H y (.tuple ds) ∧ SeqAt.shaped d = true ∧ SeqAt.shaped (.tuple ds) = true ∧ Q (.bl (!ds.any fun z => PyData.eqv z d)) H
theorem op_inDT (hu : X.A.units + 65 < cLine) : OpR X (compareOp .In) (rInDT X.K) := by
  intro pins s σ H x y v u Q I rx ry h
  obtain ⟨d, ds, hd, he, sd, se, q⟩ := h
  obtain ⟨as, r1⟩ := Dp.reads I d x v hd rx
  obtain ⟨bs, r2⟩ := Dp.reads I (.tuple ds) y u he ry
  exact SeqAt.in_tuple_reads r2 r1 (SeqAt.canLay_of_shaped se) (SeqAt.canLay_of_shaped sd) (room_in_shaped sd hu) ⟨.bl _, H, I, rfl, q⟩
theorem op_notInDT (hu : X.A.units + 65 < cLine) : OpR X (compareOp .NotIn) (rNotInDT X.K) := by
  intro pins s σ H x y v u Q I rx ry h
  obtain ⟨d, ds, hd, he, sd, se, q⟩ := h
  obtain ⟨as, r1⟩ := Dp.reads I d x v hd rx
  obtain ⟨bs, r2⟩ := Dp.reads I (.tuple ds) y u he ry
  exact SeqAt.notIn_tuple_reads r2 r1 (SeqAt.canLay_of_shaped se) (SeqAt.canLay_of_shaped sd) (room_in_shaped sd hu) ⟨.bl _, H, I, rfl, q⟩
end
section
variable {X : Cx}
/-- t[lo:hi] of a tuple, whether or not it is the same object -/
def rSlU (K : PySem.W.Frag) : V → Option Int → Option Int → Hp → VK → Prop := fun x lo hi H Q => ∃ a xs, x = .ref a ∧ SqT K H a xs ∧ ∀ c H', Same H H' → SqT K H' c (cutV xs lo hi) → Q (.ref c) H'
theorem cut_all {xs : List V} {lo hi : Option Int} (h : HT.sIx xs.length 0 lo = 0 ∧ HT.sIx xs.length xs.length hi = xs.length) : cutV xs lo hi = xs := by
  unfold cutV
  rw [h.1, h.2, List.drop_zero, Nat.sub_zero, List.take_length]
theorem sl_tupU : SlR X (rSlU X.K) := by
  intro pins s σ H x v vl vu lo hi sl Q I rx hsl pl pu q
  obtain ⟨a, xs, e, hs, k⟩ := q
  exact sl_tupA pins s σ H x v vl vu lo hi sl Q I rx hsl pl pu ⟨a, xs, e, hs, fun c => k a H (Same.refl H) (by rw [cut_all c]; exact hs), fun _ p np => k p _ (same_upd np) (.of upd_same)⟩
/-- t + u of tuples, whether or not it is one of them -/
def rCatU (K : PySem.W.Frag) : R2 := fun x y H Q => ∃ a b xs ys, x = .ref a ∧ y = .ref b ∧ SqT K H a xs ∧ SqT K H b ys ∧ xs.length + ys.length ≤ sizeLine ∧ ∀ c H', Same H H' → SqT K H' c (xs ++ ys) → Q (.ref c) H'
theorem op_catU : OpR X (binaryOp .Add) (rCatU X.K) := by
  intro pins s σ H x y v u Q I rx ry q
  obtain ⟨a, b, xs, ys, e1, e2, h1, h2, hl, k⟩ := q
  refine op_catA pins s σ H x y v u Q I rx ry ⟨a, b, xs, ys, e1, e2, h1, h2, hl, fun e => k b H (Same.refl H) (by rw [e]; exact h2), fun _ e => k a H (Same.refl H) (by rw [e, List.append_nil]; exact h1), fun _ _ p np => k p _ (same_upd np) (.of upd_same)⟩
end
theorem sc__law_word : FnScope ["e", "flags", "words", "flag"] ["e"] (defScope s__law_word) := ⟨rfl, rfl, rfl, by decide +kernel, rfl, by decide +kernel, by decide +kernel⟩
section
variable {K : PySem.W.Frag} {mg : Str → Option Value}
theorem b__law_word (T : Txt K mg) : Binds K (fdOf K ("_law_word", none)) ["e"] [] := T._law_word.bindsN fun _ _ _ _ _ _ us hl => match us, hl with | [_], _ => rfl
end
abbrev exFl (n : Str) : List Bool := exNames.map fun m => decide (n = m)
theorem exIx : ∀ n ∈ exNames, ∃ j, j < 9 ∧ exNames[j]? = some n ∧ (∀ m, m < j → exNames[m]? ≠ some n) ∧ (exNames.map fun m => if decide (n = m) = true then (1 : Int) else 0).sum = 1 := by
  decide +kernel
theorem dpa_bls {K : PySem.W.Frag} {H : Hp} : ∀ bs : List Bool, DpAll K H (bs.map V.bl) (bs.map PyData.bool)
  | [] => .nil
  | b :: bs => .cons (.bl b) (dpa_bls bs)
theorem word_run {P : Program} {w : World} {K : PySem.W.Frag} {mg : Str → Option Value} {base : Heap} (T : Txt K mg) {n : Str} {a : Addr} {d : Option Addr} {ps : List (Addr × Obj)} {A : Around} {outer : List Env} {s : Shared} {H : Hp} {Q : VK} {E : XK}
    (hn : n ∈ exNames) (hr : L2H.RoomH 2 A) (hot0 : HotIn A ps) (st : Stand ps base) (hx0 : ExAt K base n a d) (e0 : Env0 P w K mg base A outer s H) (hd : ∀ dd, d = some dd → ∃ fs, H dd = some (.xd fs)) (hnf : a ∉ frs outer)
    (z : ∀ v H', Same H H' → Dp K H' v (.tuple [.str "refused", .str n]) → Q v H') : codeAny (model P w) A (.call (.ref (He.fAd K ("_law_word", none))) ⟨[.ref a], []⟩) (CR CX0 outer P w H s Q E) s := by
  have KX : K.In s.heap := e0.mod.kin.keeps fun b o e => (e0.bs b o e).1
  obtain ⟨oe, vs0, ho, hc1, hc2, hc3⟩ := id hx0.ob
  have hb := (b__law_word T) s [.ref a] KX rfl
  rw [List.append_nil] at hb
  refine run_hot (k := 1) (vs := [.ref a]) T._law_word sc__law_word hr e0 hb (.cons rfl .nil) rfl (a, oe) ⟨(e0.bs _ _ ho).1, (e0.bs _ _ ho).2, hnf, fun v zz => by rw [hc3] at zz; cases zz⟩ fun cdv hr => ?_
  generalize hX : (L2H.cxH CX0 P w K mg base ["e", "flags", "words", "flag"] "_law_word" (defScope s__law_word) (He.fAd K ("_law_word", none)) cdv A outer s H E (a, oe)) = X0
  have hot : HotX1 X0 ps := by subst hX; exact ⟨hot0, st⟩
  have hx : ExAt X0.K X0.base n a d := by subst hX; exact hx0
  subst hX
  obtain ⟨j, hj9, hj, hjm, hsum⟩ := exIx n hn
  have kit : ∀ m ∈ exNames, PySem.W.kitOne K (.ref (He.ga K n)) (.ref (He.ga K m)) = some (decide (n = m)) := hx0.k.kit
  have hu : (A.deeper (envOfC "_law_word" (defScope s__law_word) s.heap.objs.size (He.fAd K ("_law_word", none)) cdv)).units + 65 < cLine := by
    have := hr.un
    omega
  refine ⟨_, (pss_cons (ps_set (i := 1) sc__law_word.nd rfl (by first | exact Or.inl rfl | exact Or.inr rfl) (pe_lst (pa_cons (pe_callB (call_isX T.k_get T.k_takes hx) (by rfl) T.b_isinstance (by decide +kernel) (pa_cons (pv 0) (pa_cons (pe_glob (v := .ref (He.ga K "BadBar")) (by rfl) T.g_BadBar rfl) pa_nil))) (pa_cons (pe_callB (call_isX T.k_get T.k_takes hx) (by rfl) T.b_isinstance (by decide +kernel) (pa_cons (pv 0) (pa_cons (pe_glob (v := .ref (He.ga K "BadPlace")) (by rfl) T.g_BadPlace rfl) pa_nil))) (pa_cons (pe_callB (call_isX T.k_get T.k_takes hx) (by rfl) T.b_isinstance (by decide +kernel) (pa_cons (pv 0) (pa_cons (pe_glob (v := .ref (He.ga K "BadDesk")) (by rfl) T.g_BadDesk rfl) pa_nil))) (pa_cons (pe_callB (call_isX T.k_get T.k_takes hx) (by rfl) T.b_isinstance (by decide +kernel) (pa_cons (pv 0) (pa_cons (pe_glob (v := .ref (He.ga K "BadLayout")) (by rfl) T.g_BadLayout rfl) pa_nil))) pa_nil))))))
      (pss_cons (ps_set (i := 1) sc__law_word.nd rfl (by first | exact Or.inl rfl | exact Or.inr rfl) (pe_op op_cat (pv 1) (pe_lst (pa_cons (pe_callB (call_isX T.k_get T.k_takes hx) (by rfl) T.b_isinstance (by decide +kernel) (pa_cons (pv 0) (pa_cons (pe_glob (v := .ref (He.ga K "BadRepeats")) (by rfl) T.g_BadRepeats rfl) pa_nil))) (pa_cons (pe_callB (call_isX T.k_get T.k_takes hx) (by rfl) T.b_isinstance (by decide +kernel) (pa_cons (pv 0) (pa_cons (pe_glob (v := .ref (He.ga K "Unlike")) (by rfl) T.g_Unlike rfl) pa_nil))) (pa_cons (pe_callB (call_isX T.k_get T.k_takes hx) (by rfl) T.b_isinstance (by decide +kernel) (pa_cons (pv 0) (pa_cons (pe_glob (v := .ref (He.ga K "Full")) (by rfl) T.g_Full rfl) pa_nil))) (pa_cons (pe_callB (call_isX T.k_get T.k_takes hx) (by rfl) T.b_isinstance (by decide +kernel) (pa_cons (pv 0) (pa_cons (pe_glob (v := .ref (He.ga K "Nothing")) (by rfl) T.g_Nothing rfl) pa_nil))) pa_nil)))))))
      (pss_cons (ps_expr (pe_bm PySem.F.plainAttrs_list PySem.F.slot_list_append PySem.F.type_list_append mt_append (pv 1) (pa_cons (pe_callB (call_isX T.k_get T.k_takes hx) (by rfl) T.b_isinstance (by decide +kernel) (pa_cons (pv 0) (pa_cons (pe_glob (v := .ref (He.ga K "BadText")) (by rfl) T.g_BadText rfl) pa_nil))) pa_nil)))
      (pss_cons (ps_set (i := 2) sc__law_word.nd rfl (by first | exact Or.inl rfl | exact Or.inr rfl) (pe_lst (pa_cons pe_str (pa_cons pe_str (pa_cons pe_str (pa_cons pe_str (pa_cons pe_str (pa_cons pe_str (pa_cons pe_str (pa_cons pe_str (pa_cons pe_str pa_nil)))))))))))
      (pss_cons (ps_if (PW.pt (pw_or (pt_cmpR op_ne (pe_callB (cr_sumH hot) (by rfl) T.b_sum (by decide +kernel) (pa_cons (pe_ints hot (pv 1) T.b_int (by decide +kernel) (by decide +kernel) (by decide +kernel) (by decide +kernel) (by decide +kernel) (fun _ => by rfl) (by decide) (by decide)) pa_nil)) pe_int (nomark _)) (pw_or1 (pt_not (pt_val (pe_callB (call_isX T.k_get T.k_takes hx) (by rfl) T.b_isinstance (by decide +kernel) (pa_cons (pv 0) (pa_cons (pe_bltn (v := .ty "ValueError") (by rfl) T.b_ValueError (by decide +kernel) rfl) pa_nil)))))))) (pss_one (ps_ret (pe_tup (pa_cons pe_str (pa_cons pe_str pa_nil))))) pss_nil)
      (pss_one (ps_ret (pe_tup (pa_cons pe_str (pa_cons (pe_ix ix_list (pv 2) (pe_bm PySem.F.plainAttrs_list PySem.F.slot_list_index PySem.F.type_list_index (mt_indexD hu) (pv 1) (pa_cons pe_bl pa_nil)) (fun _ _ => rfl)) pa_nil)))))))))), ?_⟩
  refine ⟨_, rfl, _, _, _, rfl, .own _, hd, kit "BadBar" (by decide +kernel), _, rfl, _, _, _, rfl, .own _, hd, kit "BadPlace" (by decide +kernel), _, rfl, _, _, _, rfl, .own _, hd, kit "BadDesk" (by decide +kernel), _, rfl, _, _, _, rfl, .own _, hd, kit "BadLayout" (by decide +kernel), by show (4 : Nat) ≤ sizeLine; decide, fun l1 nl1 => ?_⟩
  have s1 := same_upd (o := .lst [.bl (decide (n = "BadBar")), .bl (decide (n = "BadPlace")), .bl (decide (n = "BadDesk")), .bl (decide (n = "BadLayout"))]) nl1
  have hd1 : ∀ dd, d = some dd → ∃ fs, (upd H l1 (.lst [.bl (decide (n = "BadBar")), .bl (decide (n = "BadPlace")), .bl (decide (n = "BadDesk")), .bl (decide (n = "BadLayout"))])) dd = some (.xd fs) := fun dd e => by
    obtain ⟨fs, hf⟩ := hd dd e
    exact ⟨fs, s1 _ _ hf⟩
  refine ⟨_, rfl, _, rfl, _, _, _, rfl, .own _, hd1, kit "BadRepeats" (by decide +kernel), _, rfl, _, _, _, rfl, .own _, hd1, kit "Unlike" (by decide +kernel), _, rfl, _, _, _, rfl, .own _, hd1, kit "Full" (by decide +kernel), _, rfl, _, _, _, rfl, .own _, hd1, kit "Nothing" (by decide +kernel), by show (4 : Nat) ≤ sizeLine; decide, fun l2 nl2 => ?_⟩
  have s2 := same_upd (o := .lst [.bl (decide (n = "BadRepeats")), .bl (decide (n = "Unlike")), .bl (decide (n = "Full")), .bl (decide (n = "Nothing"))]) nl2
  refine ⟨l1, l2, _, _, rfl, rfl, s2 _ _ upd_same, upd_same, by show (8 : Nat) ≤ sizeLine; decide, fun l3 nl3 => ?_⟩
  have s3 := same_upd (o := .lst ([.bl (decide (n = "BadBar")), .bl (decide (n = "BadPlace")), .bl (decide (n = "BadDesk")), .bl (decide (n = "BadLayout"))] ++ [.bl (decide (n = "BadRepeats")), .bl (decide (n = "Unlike")), .bl (decide (n = "Full")), .bl (decide (n = "Nothing"))])) nl3
  have s13 := (s1.trans s2).trans s3
  have n3 : H l3 = none := by
    cases e : H l3 with
    | none => rfl
    | some o => rw [s2 _ _ (s1 _ _ e)] at nl3; cases nl3
  have e3 : (upd (upd (upd H l1 (.lst [.bl (decide (n = "BadBar")), .bl (decide (n = "BadPlace")), .bl (decide (n = "BadDesk")), .bl (decide (n = "BadLayout"))])) l2 (.lst [.bl (decide (n = "BadRepeats")), .bl (decide (n = "Unlike")), .bl (decide (n = "Full")), .bl (decide (n = "Nothing"))])) l3 (.lst ([.bl (decide (n = "BadBar")), .bl (decide (n = "BadPlace")), .bl (decide (n = "BadDesk")), .bl (decide (n = "BadLayout"))] ++ [.bl (decide (n = "BadRepeats")), .bl (decide (n = "Unlike")), .bl (decide (n = "Full")), .bl (decide (n = "Nothing"))]))) l3 = some (.lst [.bl (decide (n = "BadBar")), .bl (decide (n = "BadPlace")), .bl (decide (n = "BadDesk")), .bl (decide (n = "BadLayout")), .bl (decide (n = "BadRepeats")), .bl (decide (n = "Unlike")), .bl (decide (n = "Full")), .bl (decide (n = "Nothing"))]) := upd_same
  generalize hH3 : (upd (upd (upd H l1 (.lst [.bl (decide (n = "BadBar")), .bl (decide (n = "BadPlace")), .bl (decide (n = "BadDesk")), .bl (decide (n = "BadLayout"))])) l2 (.lst [.bl (decide (n = "BadRepeats")), .bl (decide (n = "Unlike")), .bl (decide (n = "Full")), .bl (decide (n = "Nothing"))])) l3 (.lst ([.bl (decide (n = "BadBar")), .bl (decide (n = "BadPlace")), .bl (decide (n = "BadDesk")), .bl (decide (n = "BadLayout"))] ++ [.bl (decide (n = "BadRepeats")), .bl (decide (n = "Unlike")), .bl (decide (n = "Full")), .bl (decide (n = "Nothing"))]))) = H3 at s13 e3 ⊢
  have hd3 : ∀ dd, d = some dd → ∃ fs, H3 dd = some (.xd fs) := fun dd e => by
    obtain ⟨fs, hf⟩ := hd dd e
    exact ⟨fs, s13 _ _ hf⟩
  clear hH3 s1 s2 s3 hd1 nl1 nl2 nl3
  refine ⟨_, rfl, .inl ⟨rfl, _, .of e3⟩, _, rfl, _, _, _, rfl, .own _, hd3, kit "BadText" (by decide +kernel), l3, _, _, rfl, rfl, e3, by show (8 : Nat) < sizeLine; decide, ?_⟩
  have s4 : Same H (upd H3 l3 (.lst ((exFl n).map V.bl))) := same_updR s13 n3
  have e4 : (upd H3 l3 (.lst ((exFl n).map V.bl))) l3 = some (.lst ((exFl n).map V.bl)) := upd_same
  show tSeq _ _ _ _ (upd H3 l3 (.lst ((exFl n).map V.bl)))
  generalize (upd H3 l3 (.lst ((exFl n).map V.bl))) = H4 at s4 e4
  refine ⟨by show (9 : Nat) ≤ sizeLine; decide, fun lw nlw => ?_⟩
  have s5 := same_upd (o := .lst (exNames.map V.str)) nlw
  show tSeq _ _ _ _ (upd H4 lw (.lst (exNames.map V.str)))
  have e5 := s5 _ _ e4
  have w5 : (upd H4 lw (.lst (exNames.map V.str))) lw = some (.lst (exNames.map V.str)) := upd_same
  generalize (upd H4 lw (.lst (exNames.map V.str))) = H5 at s5 e5 w5
  have hd5 : ∀ dd, d = some dd → ∃ fs, H5 dd = some (.xd fs) := fun dd e => by
    obtain ⟨fs, hf⟩ := hd dd e
    exact ⟨fs, s5 _ _ (s4 _ _ hf)⟩
  refine ⟨_, rfl, l3, exFl n, rfl, .of e5, fun D nD => ?_⟩
  have s6 := same_upd (o := .lst ((exFl n).map fun b => V.int (if b then 1 else 0))) nD
  have e6 : (upd H5 D (.lst ((exFl n).map fun b => V.int (if b then 1 else 0)))) D = some (.lst (((exFl n).map fun b => (if b then 1 else 0 : Int)).map V.int)) := by
    rw [List.map_map]
    exact upd_same
  have s06 := (s4.trans s5).trans s6
  have hd6 : ∀ dd, d = some dd → ∃ fs, (upd H5 D (.lst ((exFl n).map fun b => V.int (if b then 1 else 0)))) dd = some (.xd fs) := fun dd e => by
    obtain ⟨fs, hf⟩ := hd5 dd e
    exact ⟨fs, s6 _ _ hf⟩
  refine ⟨D, _, rfl, .of e6, rfl, _, rfl, ?_⟩
  have hs : ((exFl n).map fun b => (if b then 1 else 0 : Int)).sum = 1 := by
    rw [List.map_map]
    exact hsum
  refine iteNNQ hs ⟨_, rfl, _, _, _, rfl, .ty _, hd6, hx0.k.val, _, rfl, iteF ?_⟩
  have e7 := s6 _ _ e5
  have w7 := s6 _ _ w5
  have hz : ((exFl n).map PyData.bool)[j]? = some (.bool true) := by
    rw [List.getElem?_map, List.getElem?_map, hj]
    simp
  have hzm : ∀ (m : Nat) (z' : PyData), m < j → ((exFl n).map PyData.bool)[m]? = some z' → PyData.eqv z' (.bool true) = false := fun m z' hm e => by
    rw [List.getElem?_map, List.getElem?_map] at e
    cases q : exNames[m]? with
    | none => rw [q] at e; simp at e
    | some x =>
      have nx : n ≠ x := fun z => hjm m hm (by rw [q, z])
      rw [q] at e
      simp [nx] at e
      rw [← e]
      rfl
  have hw : atI (exNames.map V.str) (j : Nat) = some (V.str n) := atI_nat (by rw [List.getElem?_map, hj]; rfl)
  refine ⟨_, rfl, _, rfl, .inl ⟨rfl, _, .of e7⟩, l3, _, .bool true, (exFl n).map PyData.bool, j, _, rfl, rfl, .lst (.of e7) (dpa_bls _), .bl true, by rfl, rfl, hz, rfl, hzm, lw, _, _, _, rfl, rfl, .of w7, hw, by show (2 : Nat) ≤ sizeLine; decide, fun t nt => ?_⟩
  exact z _ _ (s06.trans (same_upd nt)) (.tup (.of upd_same) (.cons (.str _) (.cons (.str _) .nil)))
/-! ### try: body, several clauses 'except x as n' -/
def endsA (D : Ends) (i : Nat) : Ends := { nx := fun σ H => D.nx (σ.set i none) H, rt := D.rt, bk := fun σ H => D.bk (σ.set i none) H, ct := fun σ H => D.ct (σ.set i none) H }
/-- what the clauses wish -/
def wManyA (K : PySem.W.Frag) (m : Nat) (Wout : WX) (D : Ends) (i : Nat) : List (Value × (Addr → Value → Option Addr → TS)) → WX
  | [] => Wout
  | (c, ts) :: r => fun cls d σ H => ∃ b, PySem.W.exmOne K cls c = some b ∧ (b = true → ∀ a, H a = none → σ.length = m → ts a cls d (endsA D i) (σ.set i (some (.ref a))) H) ∧ (b = false → wManyA K m Wout D i r cls d σ H)
inductive HdsA (X : Cx) (n : Str) : List ExceptHandler → List (Value × (Addr → Value → Option Addr → TS)) → Prop
  | nil : HdsA X n [] []
  | cons {x : Str} {c : Value} {ts : Addr → Value → Option Addr → TS} {b₀ : Stmt} {suite : List Stmt} {np pos' : Pos} {hds : List ExceptHandler} {l : List (Value × (Addr → Value → Option Addr → TS))} (hc : Names X x c)
      (hsu : ∀ (a : Addr) (oe : Obj) (cls : Value) (d : Option Addr) (pn : List (Addr × Obj)), L2N.Zn cls d oe → (∃ vs, oe.data = .fields vs) → PSs (X.suite a ((a, oe) :: pn)) (b₀ :: suite) (ts a cls d)) (r : HdsA X n hds l) :
      HdsA X n (.ExceptHandler (some (.Name x np)) (some n) (b₀ :: suite) pos' :: hds) ((c, ts) :: l)
section
variable {X : Cx} {n : Str} {i : Nat} {body : List Stmt} {h₀ : ExceptHandler} {hds : List ExceptHandler} {l : List (Value × (Addr → Value → Option Addr → TS))} {pos : Pos} {tb : WX → TS} {Wout : WX}
theorem try_clauses {pins : List (Addr × Obj)} {D : Ends} {a : Addr} {B : Heap} {sI s' : Shared} {σ' : L2.St} {H' : Hp} {cls : Value} {d : Option Addr} {h3 : Heap} (hs : X.stack = X.env :: X.outer) (hf : X.env.frame = some X.env.locals) (hN : X.N.Nodup) (hi : X.N[i]? = some n) (hln : X.env.kindOf n = some .local)
    (tk : L2N.Takes X Wout) (J : Inv X pins σ' H' sI) (nb : ∀ b o, sI.heap.get? b = some o → b ∉ frs X.stack → B.get? b = some o) (up : sI.heap.UpToSlots h3) (fl : HandSPX.FlyingZ B (X.env :: X.outer) a (L2N.Zn cls d) h3) (na : H' a = none) (os : s'.os = sI.os) (ag : AllBare s'.gens) :
    ∀ {hds : List ExceptHandler} {l : List (Value × (Addr → Value → Option Addr → TS))}, HdsA X n hds l → wManyA X.K X.N.length Wout D i l cls d σ' H' → wpAny (model X.prog X.w) X.A (handleBy (.ref a) X.env hds) (SP X pins D) X.xe { s' with heap := h3 } := by
  have ok := J.ok
  have nofr : ∀ {h : Heap}, HandSPX.FlyingZ B (X.env :: X.outer) a (L2N.Zn cls d) h → a ≠ X.env.locals ∧ a ∉ X.fs := fun {h} f => by
    obtain ⟨oe, vs, he, _, hd⟩ := f.there
    have no : a ∉ frs (X.env :: X.outer) := fun hm => by
      obtain ⟨_, o', e', hnf⟩ := f.2.2.1.mem hm
      rw [he] at e'
      cases e'
      exact hnf _ hd
    exact ⟨fun z => no (List.mem_filterMap.mpr ⟨X.env, List.mem_cons_self, by rw [hf, z]⟩), fun hm => no (by
      obtain ⟨e, he', q⟩ := List.mem_filterMap.mp hm
      exact List.mem_filterMap.mpr ⟨e, List.mem_cons_of_mem _ he', q⟩)⟩
  have J3 : Inv X pins σ' H' { s' with heap := h3 } := J.landed nb fl.1 up os ag
  obtain ⟨oe3, vs3, he3, hz3, hd3⟩ := id fl.there
  have S3 := J3.suite he3 hd3 na (nofr fl).1 (nofr fl).2
  intro hds l hk
  induction hk with
  | nil =>
    intro w
    refine wpAny_handleBy_nil ?_
    obtain ⟨_, _, _, oe, vs, T, oT, ts', he, _, hd, h1, _⟩ := id fl
    unfold PySem.passOn
    refine wpAny_bind (wpAny_field he hd h1 ?_)
    rw [if_neg (show ¬ ((Value.ref T == Value.none) = true) from by simp)]
    have fin : wpAny (model X.prog X.w) X.A (setFlight (.ref a) X.env.frame) (fun _ s4 => wpAny (model X.prog X.w) X.A (throw (.ref a) : Sem Flow) (SP X pins D) X.xe s4) X.xe { s' with heap := h3 } := by
      rw [hf]
      exact HandSPX.setFlight_upZ fl fun h4 hh4 up4 => wpAny_throw (tk _ _ ⟨a, B, sI, pins, σ', H', cls, d, rfl, J, nb, up.trans up4, .inr (.inr (by rw [hs]; exact hh4)), na, os, ag, w⟩)
    first
      | exact wpAny_bind (wpAny_pure (wpAny_bind fin))
      | exact wpAny_bind fin
  | @cons x c ts b₀ suite np pos' hds2 l2 hc hsu r ih =>
    intro ⟨b, hb1, hyes, hno⟩
    refine wpAny_handleBy_cons (codeAny_handlers_test ?_) (by intro q; cases q)
    have LT : PySem.W.Looks (model X.prog X.w) h3 (typeOf (.ref a)) cls := fun A Q E s k q => wpAny_typeOf_ref (k _ _ he3) (by rw [hz3.1]; exact q)
    have LM := PySem.W.exm_one (M := model X.prog X.w) J3.kIn LT hb1
    have test : ∀ {Q : Value → Shared → Prop} {E : Value → Shared → Prop}, Q c { s' with heap := h3 } → wpAny (model X.prog X.w) (X.A.mark (some (.ref a))) (eval (.Name x np) X.env) Q E { s' with heap := h3 } := fun {Q E} q => by
      obtain ⟨hg, hdbg, hm | ⟨hm, hv, hnn⟩⟩ := hc
      · exact ld_glob (X := X.suite a ((a, oe3) :: (X.pn ++ pins))) S3 hg hm q hdbg
      · exact ld_blt (X := X.suite a ((a, oe3) :: (X.pn ++ pins))) S3 hg hm hv q hnn hdbg
    refine test (LM.here ?_)
    cases b with
    | false => exact ih (hno rfl)
    | true =>
      refine codeAny_handlers_suite_as (HandSPX.lands_againZ fl fun h4 fl4 up4 => ?_)
      have J4 : Inv X pins σ' H' { s' with heap := h4 } := J.landed nb fl4.1 (up.trans up4) os ag
      obtain ⟨oe4, vs4, he4, hz4, hd4⟩ := id fl4.there
      have S4 := J4.suite he4 hd4 na (nofr fl4).1 (nofr fl4).2
      refine store_ok (X := X.suite a ((a, oe4) :: (X.pn ++ pins))) (v := .ref a) S4 hN hi (.inl hln) rfl (fun s5 S5 => ?_) (.inr hln)
      refine wpAny_mono ((hsu a oe4 cls d (X.pn ++ pins) hz4 ⟨_, hd4⟩).run [] s5 _ H' _ S5 (hyes rfl a na J.len)) (fun f s6 hsp => ?_) (fun _ _ z => z.elim)
      have back : ∀ {σ6 : L2.St} {H6 : Hp} {Q : Shared → Prop}, Inv (X.suite a ((a, oe4) :: (X.pn ++ pins))) [] σ6 H6 s6 → (∀ s7, Inv X pins (σ6.set i none) H6 s7 → Q s7) →
          wpAny (model X.prog X.w) X.A (do bindName X.env n .none; unbindBehindTheSuite X.env n pos') (fun _ s7 => Q s7) X.xe s6 := fun S6 hq => gone_ok (S6.unsuite ok) hN hi hln hq
      cases f with
      | next => obtain ⟨σ6, H6, S6, q6⟩ := hsp; exact back S6 fun s7 J7 => ⟨_, _, J7, q6⟩
      | brk => obtain ⟨σ6, H6, S6, q6⟩ := hsp; exact back S6 fun s7 J7 => ⟨_, _, J7, q6⟩
      | cont => obtain ⟨σ6, H6, S6, q6⟩ := hsp; exact back S6 fun s7 J7 => ⟨_, _, J7, q6⟩
      | ret u => obtain ⟨v6, σ6, H6, S6, r6, q6⟩ := hsp; exact back S6 fun s7 J7 => ⟨_, _, _, J7, r6, q6⟩
theorem ps_try_asA (hs : X.stack = X.env :: X.outer) (hf : X.env.frame = some X.env.locals) (hN : X.N.Nodup) (hi : X.N[i]? = some n) (hln : X.env.kindOf n = some .local) (tk : L2N.Takes X Wout)
    (hb : ∀ (W : WX) (pn : List (Addr × Obj)) (xe : Value → Shared → Prop), L2N.Takes (X.tr pn xe) W → PassesOwn (model X.prog X.w) X.A X.env xe → PSs (X.tr pn xe) body (tb W))
    (hh : HdsA X n (h₀ :: hds) l) : PS X (.Try body (h₀ :: hds) [] [] pos) (fun D σ H => tb (wManyA X.K X.N.length Wout D i l) D σ H) := by
  refine ⟨fun pins s σ H D I h => ?_⟩
  have ok := I.ok
  refine wpAny_Try_except (wpAny_mono ((hb (wManyA X.K X.N.length Wout D i l) (X.pn ++ pins) (fun e s₁ => wpAny (model X.prog X.w) X.A (noteFrame e X.env) (fun _ s₂ => wpAny (model X.prog X.w) X.A (setFlight e none) (fun _ s₃ =>
    wpAny (model X.prog X.w) X.A (handleBy e X.env (h₀ :: hds)) (SP X pins D) X.xe s₃) X.xe s₂) X.xe s₁) (fun u s' xx => ?_) PassesOwn.looking).run [] s σ H D (I.toTry _) h) (fun f s1 hsp => ?_) (fun e s1 he => he))
  · obtain ⟨a, B, sI, pins', σ', H', cls, d, rfl, J', nb, up, sky, na, os, ag, w⟩ := xx
    show wpAny (model X.prog X.w) X.A (noteFrame (.ref a) X.env) _ _ _
    refine L2N.Sky.land L2N.Zn.steady (by rw [ok.frames, hs]) hf (by rw [← hs]; exact sky) fun h3 fl3 up3 => ?_
    exact try_clauses hs hf hN hi hln tk (J'.ofTry ok) nb (up.trans up3) fl3 na os ag hh w
  · cases f with
    | next => obtain ⟨σ', H', J', q⟩ := hsp; exact wpAny_execs_nil ⟨σ', H', J'.ofTry ok, q⟩
    | brk => obtain ⟨σ', H', J', q⟩ := hsp; exact ⟨σ', H', J'.ofTry ok, q⟩
    | cont => obtain ⟨σ', H', J', q⟩ := hsp; exact ⟨σ', H', J'.ofTry ok, q⟩
    | ret u => obtain ⟨v, σ', H', J', r, q⟩ := hsp; exact ⟨v, σ', H', J'.ofTry ok, r, q⟩
end
/-! ### a lambda without parameters that may raise where nothing is handled -/
/-- its context -/
def lamCxN (X : Cx) (A : Around) (outer : List Env) (s : Shared) (H : Hp) (E : XK) (scope : Scope) (f c' : Addr) : Cx :=
  (LamX.lamCx X A outer s H E scope f c').wish fun e s' => wpAny (model X.prog X.w) (A.deeper (LamX.lamEnv X scope s.heap.objs.size f c')) (leaving (LamX.lamEnv X scope s.heap.objs.size f c') e) (fun _ s2 => L2N.CX X.prog X.w outer H s E e s2) (fun e' s2 => L2N.CX X.prog X.w outer H s E e' s2) s'
section
variable {X : Cx} {pins : List (Addr × Obj)} {σ : L2.St} {H : Hp} {s : Shared}
/-- a(), where the slot i holds the lambda -/
theorem pe_actN {CXg : CXT} {Eg : XK} {Ng : List Str} {qg : Str} {sg : Scope} {g f c' : Addr} {cdg pm ctv : Value} {params : Arguments} {body : Expr} {scope : Scope} {k i : Nat} {a : Str} {pn : List (Addr × Obj)} {xe : Value → Shared → Prop} {W : WX} {E : XK} {tb : TE} {p1 p2 : Pos}
    (I : Inv X pins σ H s) (L : LamX.LamS X.env.scope scope) (hf : s.heap.get? f = some (PySem.W.kla_obj "<lambda>" (X.env.qual ++ "<lambda>") params body scope (cloFrom X.env.cells scope.names []) pm c' ctv)) (hfn : H f = none) (hfr : f ∉ frs X.stack)
    (hbind : bindArgs (PySem.W.kla_fn "<lambda>" (X.env.qual ++ "<lambda>") params body scope (cloFrom X.env.cells scope.names []) pm (.ref c') ctv) ⟨[], []⟩ = pure [])
    (tk : L2N.Takes ((cxOf CXg X.prog X.w X.K X.mg X.base Ng qg sg g cdg X.A X.stack s H Eg).tr pn xe) W) (hW : ∀ cls d σ' H', E cls d H' → W cls d σ' H') (hr : Room (k + 1) (X.A.deeper (envOfC qg sg s.heap.objs.size g cdg)))
    (hbody : ∀ (A : Around) (outer : List Env) (s : Shared) (H : Hp), Room k (A.deeper (LamX.lamEnv X scope s.heap.objs.size f c')) → PE (lamCxN X A outer s H E scope f c') body tb)
    (hN : Ng[i]? = some a) (hv : Vis sg a) (hd : (a == ("__debug__" : Str)) = false := by decide) (hcd : (a == ("__classdict__" : Str)) = false := by decide) :
    PE ((cxOf CXg X.prog X.w X.K X.mg X.base Ng qg sg g cdg X.A X.stack s H Eg).tr pn xe) (.Call (.Name a p1) [] [] p2)
      (fun σZ HZ Q => σZ[i]? = some (some (.ref f)) ∧ HZ c' = some (LamX.CodeO c' (X.env.qual ++ "<lambda>")) ∧ tb σ HZ Q) := by
  refine ⟨fun pinsZ sZ σZ HZ Q IZ ⟨hs, hc, ht⟩ => ?_⟩
  refine wpAny_Call_Name_kw (thn ((pe_var (pos := p1) (i := i) hN hv hd hcd).run pinsZ sZ σZ HZ (fun v H1 => v = .ref f ∧ H1 = HZ) IZ ⟨.ref f, hs, rfl, rfl⟩) fun u s1 ⟨v, H1, I1, r1, ev, eH⟩ => ?_)
  subst ev eH
  obtain rfl : u = Value.ref f := r1
  have of1 := I1.base.keep f _ hf hfn hfr (fun z => nomatch (show f ∈ ([] : List Addr) from z))
  refine PySem.W.callWith_F0 ⟨_, _, _, _, of1⟩ ?_
  obtain ⟨⟨oc, vs, t, hoc, hdc, hvc⟩, _, _⟩ := I1.hok c' _ hc
  have go : codeAny (model X.prog X.w) (X.A.deeper (envOfC qg sg s.heap.objs.size g cdg)) (.call (.ref f) ⟨[], []⟩) (CR (L2N.CX X.prog X.w) (envOfC qg sg s.heap.objs.size g cdg :: X.stack) X.prog X.w H1 s1 Q E) s1 := by
    refine PySem.W.kla_callFunE hr.depth of1 rfl L.co L.gen rfl ⟨c', oc, vs, t, rfl, hoc, hdc, hvc⟩ ?_
    rw [hbind]
    refine wpAny_pure (wpAny_newFunctionEnv (fun y hy => (L.own y hy).2) (fun y hy => absurd hy (by simp)) (fun h₁ hns hsb => ⟨I1.nolimit.fresh _ hsb, ?_⟩) L.kind)
    have J := LamX.lam_start2 (A := X.A.deeper (envOfC qg sg s.heap.objs.size g cdg)) (outer := envOfC qg sg s.heap.objs.size g cdg :: X.stack) (E := E) (f := f) (c' := c') (tk := s1.toks + ([] : List (Str × Value)).length) I L I1.env0 hr.hd I1.base hns (fun b o e => hsb.extBut b o (Nat.ne_of_lt (Heap.lt_size e)) (Heap.get?_push_of_some _ e))
    refine PySem.W.kla_codeExpr (wpAny_mono ((hbody _ _ s1 H1 (hr.deeper _)).run [] _ _ H1 Q (J.wish _) ht) (fun v s' hq => ?_) fun e s' hq => hq)
    obtain ⟨w', H', J', rv, q⟩ := hq
    exact ⟨w', H', J'.os, J'.bare, J'.base, J'.hok, rv, q⟩
  refine wpAny_call (codeAny_mono go fun r s' hq => ?_)
  cases r with
  | error e => exact L2N.passes_call tk hW pinsZ σZ H1 s1 e s' I1 hq
  | ok fl =>
    cases fl with
    | ret u => exact I1.after hq
    | next => exact hq.elim
    | brk => exact hq.elim
    | cont => exact hq.elim
end
/-- the def that calls what it got, at the level k -/
def GivesN (X : Cx) (k : Nat) (Ng : List Str) (x : Str) (sg : Scope) (g : Addr) (cdg : Value) (bg : List Stmt) (a : Str) (q : Str) (TT : (XK → Hp → VK → Prop) → Hp → VK → Prop) : Prop :=
  ∀ (f c' : Addr) (s : Shared) (H : Hp) (Q : VK) (tl : XK → Hp → VK → Prop), Room (k + 1) (X.A.deeper (envOfC x sg s.heap.objs.size g cdg)) →
    (∀ (W : WX) (pn : List (Addr × Obj)) (xe : Value → Shared → Prop) (E : XK) (p1 p2 : Pos), L2N.Takes ((cxOf CX0 X.prog X.w X.K X.mg X.base Ng x sg g cdg X.A X.stack s H E0).tr pn xe) W → (∀ cls d σ' H', E cls d H' → W cls d σ' H') →
      PE ((cxOf CX0 X.prog X.w X.K X.mg X.base Ng x sg g cdg X.A X.stack s H E0).tr pn xe) (.Call (.Name a p1) [] [] p2) (fun σZ HZ Q => σZ[0]? = some (some (.ref f)) ∧ HZ c' = some (LamX.CodeO c' q) ∧ tl E HZ Q)) →
    H c' = some (LamX.CodeO c' q) → TT tl H Q →
    ∃ t, PSs (cxOf CX0 X.prog X.w X.K X.mg X.base Ng x sg g cdg X.A X.stack s H E0).nox bg t ∧ t { nx := fun _ H' => Q .non H', rt := Q } (L2.start Ng [.ref f]) H
/-- x(lambda: body), x such a def of the text -/
theorem pe_lamcallN {X : Cx} {T : List (Addr × Str)} {TT : (XK → Hp → VK → Prop) → Hp → VK → Prop} {x a : Str} {g c P : Addr} {k : Nat} {pg : Arguments} {bg : List Stmt} {sg : Scope} {fd : FuncData} {Ng : List Str}
    {params : Arguments} {body : Expr} {scope : Scope} {t : XK → TE} {p lpos pos : Pos} (F : FunD X.K x x pg bg sg [] [] g fd) (hg : Gl X x) (hm : X.mg x = some (.ref g)) (hb : L2.Binds X.K fd [a] []) (Sg : FnScope Ng [a] sg) (hNg : Ng[0]? = some a) (hva : Vis sg a)
    (hG : ∀ cdg, GivesN X k Ng x sg g cdg bg a (X.env.qual ++ "<lambda>") TT)
    (TB : LamX.TabB X.base X.mg c P) (hcode : X.env.code = .ref c) (hmT : (P, X.env.qual ++ "<lambda>") ∈ T) (hu : ∀ p ∈ T, p.1 = P → p.2 = X.env.qual ++ "<lambda>") (hr : Room (k + 2) X.A) (L : LamX.LamS X.env.scope scope) (hdef : defaultsOf params X.env = ([], []))
    (hbind : ∀ (q : Str) (cl : List (Str × Addr)) (pm cv ctv : Value), bindArgs (PySem.W.kla_fn "<lambda>" q params body scope cl pm cv ctv) ⟨[], []⟩ = pure [])
    (hbody : ∀ (A : Around) (outer : List Env) (s : Shared) (H : Hp) (E : XK) (f c' : Addr), Room k (A.deeper (LamX.lamEnv X scope s.heap.objs.size f c')) → PE (lamCxN X A outer s H E scope f c') body (t E))
    (hdb : (x == ("__debug__" : Str)) = false := by decide) (hd : (a == ("__debug__" : Str)) = false := by decide) (hcd : (a == ("__classdict__" : Str)) = false := by decide) :
    PE X (.Call (.Name x p) [.Lambda params body scope lpos] [] pos) (LamX.tLam T TT t) := by
  refine ⟨fun pins s σ H Q I ⟨hT, h⟩ => ?_⟩
  refine wpAny_Call_Name_kw (ld_glob I hg hm ?_ hdb)
  refine PySem.W.callWith_K (h₀ := X.base) I.ok.mod.kin F.kp ?_ (by rfl) (by rfl)
  show wpAny _ _ (spliced ((false, eval (.Lambda params body scope lpos) X.env) :: backTo pos (starEach [] X.env))) _ _ s
  refine Calls.spliced_cons (LamX.lam_make2 I TB hcode hmT hu hT hdef (L.has I.ok) fun f c' pm' ctv H1 s' I1 eN T1 hf hfn hfr hco => Calls.spliced_nil ⟨I1.kIn, ?_⟩)
  obtain ⟨oc, od, dV, kV, doc, pm, an, cdv, ct, osl, rfl, lk, hcg, _⟩ := F.ex
  have rc : codeAny (model X.prog X.w) X.A (.call (.ref g) ⟨[.ref f], []⟩) (CR CX0 X.stack X.prog X.w H1 s' Q E0) s' := by
    refine LamX.run_ofS (N := Ng) (ps := [a]) (us := [.ref f]) (vs := [.ref f]) lk hcg Sg hr I1.env0 (hb s' [.ref f] I1.kIn rfl) (.cons rfl .nil) rfl fun hr' => ?_
    obtain ⟨t', ht', hq'⟩ := hG cdv f c' s' H1 Q (fun E H' Q' => t E σ H' Q') hr' (fun W pn xe E p1 p2 tk hW => pe_actN (i := 0) I1 L hf hfn hfr (hbind _ _ _ _ _) tk hW hr' (fun A outer s H hr2 => hbody A outer s H E f c' hr2) hNg hva hd hcd) hco (h H1 eN T1)
    exact ⟨t', ht'.nox, hq'⟩
  refine wpAny_call (codeAny_mono rc fun r s2 hq => ?_)
  cases r with
  | error e => exact (show False from hq).elim
  | ok fl =>
    cases fl with
    | ret u => exact I1.after hq
    | next => exact hq.elim
    | brk => exact hq.elim
    | cont => exact hq.elim
theorem sc__law_told : FnScope ["deed", "e"] ["deed"] (defScope s__law_told) := ⟨rfl, rfl, rfl, by decide +kernel, rfl, by decide +kernel, by decide +kernel⟩
section
variable {K : PySem.W.Frag} {mg : Str → Option Value}
theorem b__law_told (T : Txt K mg) : Binds K (fdOf K ("_law_told", none)) ["deed"] [] := T._law_told.bindsN fun _ _ _ _ _ _ us hl => match us, hl with | [_], _ => rfl
end
/-- what _law_told makes of a refusal -/
def ToldX (K : PySem.W.Frag) (cls : Value) (d : Option Addr) (H : Hp) (Q : VK) : Prop :=
  (∃ n ∈ exPlain, cls = .ref (He.ga K n) ∧ d = none ∧ ∀ v H', Same H H' → Dp K H' v (.tuple [.str "refused", .str n]) → Q v H') ∨
  ∃ n f, (n, f) ∈ [(("BadLayout" : Str), ("page" : Str)), ("Unlike", "bar")] ∧ ∃ (dd : Addr) (x : V), cls = .ref (He.ga K n) ∧ d = some dd ∧ H dd = some (.xd [(f, x)]) ∧ ∀ t H', Same H H' → SqT K H' t [.str "refused", .str n, x] → Q (.ref t) H'
def TTold (K : PySem.W.Frag) : (XK → Hp → VK → Prop) → Hp → VK → Prop := fun tl H Q => tl (fun cls d H' => ToldX K cls d H' Q) H Q
def tWord (K : PySem.W.Frag) (a : Addr) (cls : Value) (d : Option Addr) (te : TE) : TE := fun σ H Q => te σ H fun x H1 => x = .ref a ∧ ∃ n ∈ exNames, cls = .ref (He.ga K n) ∧ (∀ dd, d = some dd → ∃ fs, H1 dd = some (.xd fs)) ∧ ∀ v H', Same H1 H' → Dp K H' v (.tuple [.str "refused", .str n]) → Q v H'
theorem pe_word {X : Cx} (T : Txt X.K X.mg) {a : Addr} {oe : Obj} {cls : Value} {d : Option Addr} {pn : List (Addr × Obj)} {e : Expr} {te : TE} {p pos : Pos} (hz : L2N.Zn cls d oe) (hf : ∃ vs, oe.data = .fields vs) (hr : L2H.RoomH 2 (X.suite a ((a, oe) :: pn)).A) (hg : Gl (X.suite a ((a, oe) :: pn)) "_law_word")
    (he : PE (X.suite a ((a, oe) :: pn)) e te) (hst : starEach [e] X.env = (false, eval e X.env) :: starEach [] X.env := by rfl) : PE (X.suite a ((a, oe) :: pn)) (.Call (.Name "_law_word" p) [e] [] pos) (tWord X.K a cls d te) := by
  refine ⟨fun pins s σ H Q I h => ?_⟩
  refine wpAny_Call_Name_kw (ld_glob I hg T.g__law_word ?_ (by decide))
  refine PySem.W.callWith_K (h₀ := X.base) I.ok.mod.kin T._law_word.kp ?_ hst rfl
  rw [hst]
  show wpAny _ _ (spliced ((false, eval e X.env) :: backTo pos (starEach [] X.env))) _ _ s
  refine Calls.spliced_cons (thn (he.run pins s σ H _ I h) fun u s1 ⟨v, H1, I1, r1, ev, n, hn, ec, hd, q⟩ => Calls.spliced_nil ⟨I1.kIn, ?_⟩)
  subst ev
  obtain rfl : u = Value.ref a := r1
  obtain ⟨vs, hv⟩ := hf
  obtain ⟨g1, g2, g3, g4, _⟩ := I1.pin (a, oe) (List.mem_append_left _ List.mem_cons_self)
  have nofr : a ∉ frs X.stack := fun hm => (List.mem_cons.mp (I1.stkSub a hm)).elim g3 g4
  obtain ⟨base, bb, st, e0⟩ := base_more I1 [(a, oe)] (fun p hp => by cases List.mem_singleton.mp hp; exact g1) (fun p hp => by cases List.mem_singleton.mp hp; exact ⟨g2, nofr⟩)
  have hot : HotIn (X.suite a ((a, oe) :: pn)).A [(a, oe)] := ⟨a, oe, vs, rfl, List.mem_singleton.mpr rfl, hv, .inl (hz.2.2 vs hv)⟩
  have hx : ExAt X.K base n a d := ⟨exAll_ok T.k_exc n hn, oe, vs, st (a, oe) (List.mem_singleton.mpr rfl), by rw [hz.1, ec], hz.2.1, hv⟩
  refine wpAny_call (codeAny_mono (word_run T (E := E0) hn hr hot st hx e0 hd nofr q) fun r s2 hq => ?_)
  cases r with
  | error e => exact (show False from hq).elim
  | ok fl =>
    cases fl with
    | ret u => exact I1.after hq
    | next => exact hq.elim
    | brk => exact hq.elim
    | cont => exact hq.elim
theorem xf_of {K : PySem.W.Frag} {n : Str} (h : ExF K (He.ga K n)) : XfC K (He.ga K n) := ⟨h.ga, h.gg, h.sub, h.hd⟩
theorem exPl : ∀ n ∈ exPlain, n ∈ exNames ∧ n ≠ "BadLayout" ∧ n ≠ "Unlike" := by decide +kernel
theorem told_gives {X : Cx} (T : Txt X.K X.mg) {k : Nat} {q : Str} (hk : 2 ≤ k + 1) (cdg : Value) : GivesN X k ["deed", "e"] "_law_told" (defScope s__law_told) (He.fAd X.K ("_law_told", none)) cdg (defBody s__law_told) "deed" q (TTold X.K) := by
  intro f c' s H Q tl hr act hc h
  have hrH : ∀ a, L2H.RoomH 2 ((X.A.deeper (envOfC "_law_told" (defScope s__law_told) s.heap.objs.size (He.fAd X.K ("_law_told", none)) cdg)).mark (some (.ref a))) := fun a => L2H.roomH_mark (hr.mono hk) _
  have exs := exAll_ok T.k_exc
  have L : ExK X.K "BadLayout" := exs _ (by decide +kernel)
  have U : ExK X.K "Unlike" := exs _ (by decide +kernel)
  refine ⟨_, pss_one (ps_try_asA (i := 1) (X := (cxOf CX0 X.prog X.w X.K X.mg X.base ["deed", "e"] "_law_told" (defScope s__law_told) (He.fAd X.K ("_law_told", none)) cdg X.A X.stack s H E0).nox)
      (tb := fun W D σ H => ∃ Ech : XK, (∀ cls d σ' H', Ech cls d H' → W cls d σ' H') ∧ σ[0]? = some (some (.ref f)) ∧ H c' = some (LamX.CodeO c' q) ∧ tl Ech H D.rt)
      rfl rfl sc__law_told.nd rfl rfl (Wout := fun _ _ _ _ => False) (fun _ _ x => by obtain ⟨_, _, _, _, _, _, _, _, _, _, _, _, _, _, _, _, z⟩ := x; exact z.elim) (fun W pn xe tk _ => ?_)
      (.cons ⟨rfl, by decide, .inl T.g_BadLayout⟩ (fun a oe cls d pn hz hf => pss_one (ps_ret (pe_op (r := rCatU X.K) op_catU (pe_word (X := (cxOf CX0 X.prog X.w X.K X.mg X.base ["deed", "e"] "_law_told" (defScope s__law_told) (He.fAd X.K ("_law_told", none)) cdg X.A X.stack s H E0).nox) T hz hf (hrH a) rfl (pv 1)) (pe_tup (pa_cons (pe_xf (xf_of L.f) (exO2_ok T.k_BadLayout).no hz.zc hf (pv 1)) pa_nil)))))
        (.cons ⟨rfl, by decide, .inl T.g_Unlike⟩ (fun a oe cls d pn hz hf => pss_one (ps_ret (pe_op (r := rCatU X.K) op_catU (pe_word (X := (cxOf CX0 X.prog X.w X.K X.mg X.base ["deed", "e"] "_law_told" (defScope s__law_told) (He.fAd X.K ("_law_told", none)) cdg X.A X.stack s H E0).nox) T hz hf (hrH a) rfl (pv 1)) (pe_tup (pa_cons (pe_xf (xf_of U.f) (exO2_ok T.k_Unlike).no hz.zc hf (pv 1)) pa_nil)))))
          (.cons ⟨rfl, by decide, .inl T.g_LeafError⟩ (fun a oe cls d pn hz hf => pss_one (ps_ret (pe_word (X := (cxOf CX0 X.prog X.w X.K X.mg X.base ["deed", "e"] "_law_told" (defScope s__law_told) (He.fAd X.K ("_law_told", none)) cdg X.A X.stack s H E0).nox) T hz hf (hrH a) rfl (pv 1)))) .nil)))), ?_⟩
  · refine ⟨fun pins s' σ H' D I ⟨Ech, hW, h1, h2, h3⟩ => ?_⟩
    exact (pss_one (ps_ret (act W pn xe Ech _ _ tk hW))).run pins s' σ H' D I ⟨h1, h2, h3⟩
  · refine ⟨fun cls d H' => ToldX X.K cls d H' Q, fun cls d σ' H' hE => ?_, rfl, hc, h⟩
    have two : ∀ {m : Nat}, σ'.length = m → m = 2 → ∀ a : Addr, (σ'.set 1 (some (V.ref a)))[1]? = some (some (.ref a)) := fun h1 h2 a => List.getElem?_set_self (by rw [h1, h2]; decide)
    rcases hE with ⟨n, hn, ec, ed, z⟩ | ⟨n, fl, hn, dd, x, ec, ed, hx, z⟩
    · subst ec ed
      have hn2 := exPl n hn
      have e1 := (exs n hn2.1).exm "BadLayout" (by decide)
      have e2 := (exs n hn2.1).exm "Unlike" (by decide)
      rw [decide_eq_false hn2.2.1] at e1
      rw [decide_eq_false hn2.2.2] at e2
      refine ⟨false, e1, fun q => Bool.noConfusion q, fun _ => ⟨false, e2, fun q => Bool.noConfusion q, fun _ => ⟨true, (exs n hn2.1).leaf, fun _ a na hl => ?_, fun q => Bool.noConfusion q⟩⟩⟩
      exact ⟨_, two hl rfl a, rfl, n, hn2.1, rfl, (fun dd q => by cases q), fun v H2 s2 dv => z v H2 s2 dv⟩
    · subst ec ed
      rcases List.mem_cons.mp hn with e | hn
      · cases e
        refine ⟨true, L.exm "BadLayout" (by decide), fun _ a na hl => ?_, fun q => Bool.noConfusion q⟩
        refine ⟨_, two hl rfl a, rfl, "BadLayout", by decide +kernel, rfl, (fun d' q => by cases q; exact ⟨_, hx⟩), fun v H1 s1 dv => ?_⟩
        cases dv with
        | tup st da =>
          obtain ⟨v0, v1, rfl, d0, d1⟩ := dpa2 da
          cases d0
          cases d1
          refine ⟨_, two hl rfl a, rfl, rfl, dd, _, x, rfl, s1 _ _ hx, rfl, by show (1 : Nat) ≤ sizeLine; decide, fun t nt => ?_⟩
          have st2 := same_upd (o := .tup [x]) nt
          exact ⟨_, t, _, _, rfl, rfl, same_sqt st2 st, .of upd_same, by show (3 : Nat) ≤ sizeLine; decide, fun c H3 s3 sq => z c H3 ((s1.trans st2).trans s3) sq⟩
      · cases List.mem_singleton.mp hn
        refine ⟨false, U.exm "BadLayout" (by decide), fun q => Bool.noConfusion q, fun _ => ⟨true, U.exm "Unlike" (by decide), fun _ a na hl => ?_, fun q => Bool.noConfusion q⟩⟩
        refine ⟨_, two hl rfl a, rfl, "Unlike", by decide +kernel, rfl, (fun d' q => by cases q; exact ⟨_, hx⟩), fun v H1 s1 dv => ?_⟩
        cases dv with
        | tup st da =>
          obtain ⟨v0, v1, rfl, d0, d1⟩ := dpa2 da
          cases d0
          cases d1
          refine ⟨_, two hl rfl a, rfl, rfl, dd, _, x, rfl, s1 _ _ hx, rfl, by show (1 : Nat) ≤ sizeLine; decide, fun t nt => ?_⟩
          have st2 := same_upd (o := .tup [x]) nt
          exact ⟨_, t, _, _, rfl, rfl, same_sqt st2 st, .of upd_same, by show (3 : Nat) ≤ sizeLine; decide, fun c H3 s3 sq => z c H3 ((s1.trans st2).trans s3) sq⟩
section
variable {P : Program} {w : World} {K : PySem.W.Frag} {mg : Str → Option Value} {base : Heap} {f : Addr} {fd : FuncData} {ps : List Str} {k : Nat} {sp sp2 : Sp}
theorem okLift {CX : CXT} (F : FnOk P w K mg base CX0 k f fd ps sp) : FnOk P w K mg base CX k f fd ps sp :=
  ⟨F.len, fun A outer s H args us vs Q E hr e0 hb r h => codeAny_mono (F.run A outer s H args us vs Q E hr e0 hb r h) fun r s' hq => by
    cases r with
    | error e => exact (show False from hq).elim
    | ok fl => cases fl <;> exact hq⟩
theorem okOr {CX : CXT} (F : FnOk P w K mg base CX k f fd ps sp) (G : FnOk P w K mg base CX k f fd ps sp2) : FnOk P w K mg base CX k f fd ps (fun vs H Q E => sp vs H Q E ∨ sp2 vs H Q E) :=
  ⟨fun vs H Q E h => h.elim (F.len vs H Q E) (G.len vs H Q E), fun A outer s H args us vs Q E hr e0 hb r h => h.elim (F.run A outer s H args us vs Q E hr e0 hb r) (G.run A outer s H args us vs Q E hr e0 hb r)⟩
end
/-- what a callee lets out goes out -/
theorem passN {X : Cx} {E : XK} (hs : X.stack = X.env :: X.outer) (hf : X.env.frame = some X.env.locals) (hex : X.ex = []) {E₁ : Value → Shared → Prop}
    (hx : X.xe = fun e s' => wpAny (model X.prog X.w) X.A (leaving X.env e) (fun _ s'' => L2N.CX X.prog X.w X.outer X.H_0 X.s_0 E e s'') E₁ s') : Passes (L2N.CX X.prog X.w) X E := L2N.passes_call (L2N.takes_of hs hf hex hx) fun _ _ _ _ h => h
/-- raise x('..') -/
theorem ps_rais {X : Cx} (T : Txt X.K X.mg) {W : WX} {n m : Str} {j : Nat} {p p2 p3 pos : Pos} (hn : n ∈ exPlain) (gn : X.mg n = some (.ref (He.ga X.K n))) (hg : Gl X n) (tk : L2N.Takes X W) (hc : X.calm = true) (hdb : (n == ("__debug__" : Str)) = false := by decide) :
    PS X (.Raise (some (.Call (.Name n p) [.Constant (.str m) j p2] [] p3)) none pos) (fun _ σ H => W (.ref (He.ga X.K n)) none σ H) := by
  have e := (exAll_ok T.k_exc n (exPl n hn).1).f
  exact L2N.ps_raise hc tk (L2N.pmk_own PySem.F.excBase_ValueError (exPlain_ok T.k_plain n hn) gn e.kp (raises_own e.sub e.ty) hg hdb)
/-- _law_told(lambda: body) -/
theorem pe_told {X : Cx} (T : Txt X.K X.mg) {c P : Addr} {k : Nat} {params : Arguments} {body : Expr} {scope : Scope} {t : XK → TE} {p lpos pos : Pos} (TB : LamX.TabB X.base X.mg c P) (hcode : X.env.code = .ref c) (hr : Room (k + 2) X.A) (hk : 2 ≤ k + 1) (hg : Gl X "_law_told")
    (L : LamX.LamS X.env.scope scope) (hdef : defaultsOf params X.env = ([], [])) (hbind : ∀ (q : Str) (cl : List (Str × Addr)) (pm cv ctv : Value), bindArgs (PySem.W.kla_fn "<lambda>" q params body scope cl pm cv ctv) ⟨[], []⟩ = pure [])
    (hbody : ∀ (A : Around) (outer : List Env) (s : Shared) (H : Hp) (E : XK) (f c' : Addr), Room k (A.deeper (LamX.lamEnv X scope s.heap.objs.size f c')) → PE (lamCxN X A outer s H E scope f c') body (t E)) :
    PE X (.Call (.Name "_law_told" p) [.Lambda params body scope lpos] [] pos) (LamX.tLam [(P, X.env.qual ++ "<lambda>")] (TTold X.K) t) :=
  pe_lamcallN T._law_told hg T.g__law_told (b__law_told T) sc__law_told rfl (by first | exact Or.inl rfl | exact Or.inr (Or.inl rfl)) (fun cdg => told_gives T hk cdg) TB hcode (List.mem_singleton.mpr rfl) (fun p hp _ => by cases List.mem_singleton.mp hp; rfl) hr L hdef hbind hbody
/-! ### tables stay -/
abbrev TabL (K : PySem.W.Frag) (x : Str) : List (Addr × Str) := [((He.cT K (x, none)).2, x ++ ".<locals>." ++ "<lambda>")]
theorem Tabs.same {Tb : List (Addr × Str)} {H H' : Hp} (t : LamX.Tabs Tb H) (s : Same H H') : LamX.Tabs Tb H' := t.ext s
theorem Tabs.fr {Tb : List (Addr × Str)} {H H' : Hp} {ds : List Addr} (t : LamX.Tabs Tb H) (f : Fr ds H H') (hd : ∀ d ∈ ds, ∃ o, H d = some o ∧ (∀ ps, o ≠ .tbl ps) ∧ ∀ φ, o ≠ .ext φ) : LamX.Tabs Tb H' := fun p hp => by
  obtain ⟨ps, h1, h2, h3⟩ := t p hp
  have nd : ∀ b o, H b = some o → ((∃ ps, o = .tbl ps) ∨ ∃ φ, o = .ext φ) → b ∉ ds := fun b o e z hb => by
    obtain ⟨o', e', z1, z2⟩ := hd b hb
    rw [e] at e'
    cases e'
    rcases z with ⟨ps, z⟩ | ⟨φ, z⟩
    · exact z1 ps z
    · exact z2 φ z
  refine ⟨ps, f.keep _ _ (nd _ _ h1 (.inl ⟨_, rfl⟩)) h1, h2, fun pos cv hc => ?_⟩
  obtain ⟨c, e1, e2⟩ := h3 pos cv hc
  exact ⟨c, e1, f.keep _ _ (nd _ _ e2 (.inr ⟨_, rfl⟩)) e2⟩
theorem ext_sqt {K : PySem.W.Frag} {H H' : Hp} {a : Addr} {xs : List V} (e : LamX.ExtN H H') (h : SqT K H a xs) : SqT K H' a xs := by
  rcases h with (h | ⟨o, h⟩) | h
  · exact .inl (.inl (e _ _ h fun ps z => by cases z))
  · exact .inl (.inr ⟨o, e _ _ h fun ps z => by cases z⟩)
  · exact .inr h
theorem ext_sql {K : PySem.W.Frag} {H H' : Hp} {a : Addr} {xs : List V} (e : LamX.ExtN H H') (h : SqL K H a xs) : SqL K H' a xs := by
  rcases h with (h | ⟨o, h⟩) | h
  · exact .inl (.inl (e _ _ h fun ps z => by cases z))
  · exact .inl (.inr ⟨o, e _ _ h fun ps z => by cases z⟩)
  · exact .inr h
section
variable {K : PySem.W.Frag} {H H' : Hp}
mutual
theorem dp_ext (e : LamX.ExtN H H') : ∀ {v : V} {d : PyData}, Dp K H v d → Dp K H' v d
  | _, _, .non => .non
  | _, _, .bl b => .bl b
  | _, _, .int i => .int i
  | _, _, .str x => .str x
  | _, _, .lst s a => .lst (ext_sql e s) (dpa_ext e a)
  | _, _, .tup s a => .tup (ext_sqt e s) (dpa_ext e a)
theorem dpa_ext (e : LamX.ExtN H H') : ∀ {vs : List V} {ds : List PyData}, DpAll K H vs ds → DpAll K H' vs ds
  | _, _, .nil => .nil
  | _, _, .cons d r => .cons (dp_ext e d) (dpa_ext e r)
end
end
/-- a def whose lambdas are made: its code object is the one of the table -/
theorem okC {P : Program} {w : World} {K : PySem.W.Frag} {mg : Str → Option Value} {base : Heap} {p : Str × Option Str} {x q : Str} {st : Stmt} {dv : List V} {N ps : List Str} {k : Nat} {sp : Sp} (F : Df K p x q st dv) (S : FnScope N ps (defScope st)) (len : ∀ vs H Q E, sp vs H Q E → vs.length = ps.length)
    (hbody : ∀ (A : Around) (outer : List Env) (s : Shared) (H : Hp) (vs : List V) (Q : VK) (E : XK), Room k (A.deeper (envOfC q (defScope st) s.heap.objs.size (He.fAd K p) (.ref (He.cT K p).1))) → sp vs H Q E →
      ∃ t, PSs (cxOf CX0 P w K mg base N q (defScope st) (He.fAd K p) (.ref (He.cT K p).1) A outer s H E).nox (defBody st) t ∧ t { nx := fun _ H' => Q .non H', rt := Q } (start N vs) H) : OkF P w K mg base CX0 (k + 1) p ps sp := by
  obtain ⟨oc, od, dV, kV, doc, pm, an, cdv, ct, osl, e, lk, hcd, _⟩ := id F.ex
  rw [e] at lk
  obtain ⟨c, rfl⟩ := He.codeIn_ref hcd
  have ec : He.codeOf K p = c := He.codeOf_eq lk rfl
  have ec2 : (He.cT K p).1 = c := ec
  unfold OkF
  rw [e]
  refine fn_of lk hcd S len fun A outer s H vs Q E hr hsp => ?_
  rw [← ec2] at hr ⊢
  obtain ⟨t, h, q⟩ := hbody A outer s H vs Q E hr hsp
  exact ⟨t, h.nox, q⟩
def sp_lawT (K : PySem.W.Frag) (x : Str) : Sp := fun vs H Q _ => ∃ (a : Addr) (ns : List Int), vs = [.ref a] ∧ SqL K H a (ns.map V.int) ∧ ns.length ≤ 63 ∧ LamX.Tabs (TabL K x) H ∧ ∀ H', Q (.bl true) H'
section
variable {K : PySem.W.Frag} {H H' : Hp}
theorem Dice.ext {d : Addr} (h : Dice H d) (e : LamX.ExtN H H') : Dice H' d := by
  obtain ⟨i, j, q⟩ := h
  exact ⟨i, j, e _ _ q fun ps z => by cases z⟩
theorem Rnd.ext {R : Addr} {ds : List Addr} (h : Rnd H R ds) (e : LamX.ExtN H H') : Rnd H' R ds := ⟨e _ _ h.1 (fun ps z => by cases z), fun d hd => ⟨(h.2 d hd).1.ext e, (h.2 d hd).2⟩⟩
theorem RowAt.ext {r : Addr} {bs : List Bar} (h : RowAt K H r bs) (e : LamX.ExtN H H') : RowAt K H' r bs := by
  obtain ⟨vs, q, da⟩ := h
  exact ⟨vs, e _ _ q (fun ps z => by cases z), dpa_ext e da⟩
theorem PartX.ext {p q : Addr} {bs : List Bar} {past : List (List Bar)} (h : PartX K H p q bs past) (e : LamX.ExtN H H') : PartX K H' p q bs past := by
  obtain ⟨dx, r, ws, h1, n, h2, h3, h4⟩ := h
  exact ⟨dx, r, ws, e _ _ h1 (fun ps z => by cases z), n, h2.ext e, e _ _ h3 (fun ps z => by cases z), h4.imp fun r bs _ z => z.ext e⟩
theorem Tabs.dice {Tb : List (Addr × Str)} {d : Addr} (t : LamX.Tabs Tb H) (f : Fr [d] H H') (hd : Dice H d) : LamX.Tabs Tb H' := Tabs.fr t f fun x hx => by
  cases List.mem_singleton.mp hx
  obtain ⟨i, j, q⟩ := hd
  exact ⟨_, q, (fun ps z => by cases z), (fun φ z => by cases z)⟩
end
/-! ### lists of things of a kind -/
def AllD (K : PySem.W.Frag) (G : Hp) (P : PyData → Prop) (vs : List V) : Prop := ∃ ds, DpAll K G vs ds ∧ ∀ d ∈ ds, P d
section
variable {K : PySem.W.Frag} {G G' : Hp} {P : PyData → Prop}
theorem AllD.nil : AllD K G P [] := ⟨[], .nil, by simp⟩
theorem AllD.cons {v : V} {d : PyData} {vs : List V} (h : Dp K G v d) (p : P d) (r : AllD K G P vs) : AllD K G P (v :: vs) := by
  obtain ⟨ds, h1, h2⟩ := r
  exact ⟨d :: ds, .cons h h1, by simpa using ⟨p, h2⟩⟩
theorem AllD.app {vs ws : List V} (a : AllD K G P vs) (b : AllD K G P ws) : AllD K G P (vs ++ ws) := by
  obtain ⟨ds, h1, h2⟩ := a
  obtain ⟨es, g1, g2⟩ := b
  exact ⟨ds ++ es, dpa_app h1 g1, fun d hd => (List.mem_append.mp hd).elim (h2 d) (g2 d)⟩
theorem AllD.same {vs : List V} (a : AllD K G P vs) (s : Same G G') : AllD K G' P vs := by
  obtain ⟨ds, h1, h2⟩ := a
  exact ⟨ds, dpa_same s h1, h2⟩
theorem AllD.ext {vs : List V} (a : AllD K G P vs) (s : LamX.ExtN G G') : AllD K G' P vs := by
  obtain ⟨ds, h1, h2⟩ := a
  exact ⟨ds, dpa_ext s h1, h2⟩
theorem AllD.at {vs : List V} (a : AllD K G P vs) {i : Nat} {v : V} (e : vs[i]? = some v) : ∃ d, Dp K G v d ∧ P d := by
  obtain ⟨ds, h1, h2⟩ := a
  obtain ⟨d, h3, h4⟩ := dpa_at h1 e
  exact ⟨d, h4, h2 d (List.mem_of_getElem? h3)⟩
theorem dpa_rep {v : V} {d : PyData} : ∀ n, Dp K G v d → DpAll K G (List.replicate n v) (List.replicate n d)
  | 0, _ => .nil
  | n + 1, h => .cons h (dpa_rep n h)
/-- such a list at b -/
def BL (K : PySem.W.Frag) (G : Hp) (P : PyData → Prop) (b : Addr) (n : Nat) : Prop := ∃ vs, G b = some (.lst vs) ∧ vs.length = n ∧ AllD K G P vs
end
abbrev refD2 (n : Str) : PyData := .tuple [.str "refused", .str n]
abbrev refD3 (n : Str) (d : PyData) : PyData := .tuple [.str "refused", .str n, d]
/-- nothing but a table, perhaps, stands at l -/
def NewX (H : Hp) (l : Addr) : Prop := ∀ o, H l = some o → ¬ ∀ ps, o ≠ .tbl ps
theorem newX {H G : Hp} {l : Addr} (e : LamX.ExtN H G) (n : G l = none) : NewX H l := fun o q no => by
  rw [e _ _ q no] at n
  cases n
/-- a list that is made of data, tables beside -/
structure DoorX (K : PySem.W.Frag) (H : Hp) (Tb : List (Addr × Str)) (G : Hp) (l : Addr) (rs : List PyData) : Prop where
  ext : LamX.ExtN H G
  tabs : LamX.Tabs Tb G
  lst : ∃ vs, G l = some (.lst vs) ∧ vs.length = rs.length ∧ DpAll K G vs rs
theorem isTs_app : ∀ {a b : List PyData}, isTs a = true → isTs b = true → isTs (a ++ b) = true
  | [], _, _, h => h
  | x :: a, b, h1, h2 => by
    obtain ⟨g1, g2⟩ := Bool.and_eq_true_iff.mp (show (isT x && isTs a) = true from h1)
    show (isT x && isTs (a ++ b)) = true
    rw [g1, isTs_app g2 h2]
    rfl
theorem DoorX.step {K : PySem.W.Frag} {H : Hp} {Tb : List (Addr × Str)} {G G1 G2 : Hp} {l : Addr} {rs : List PyData} {v : V} {r : PyData} (S : DoorX K H Tb G l rs) (hl : NewX H l) (e : LamX.ExtN G G1) (t : LamX.Tabs Tb G1) (s : Same G1 G2) (dv : Dp K G2 v r) (h1t : isTs rs = true) (h2t : isT r = true) :
    ∃ vs, G2 l = some (.lst vs) ∧ vs.length = rs.length ∧ DoorX K H Tb (upd G2 l (.lst (vs ++ [v]))) l (rs ++ [r]) := by
  obtain ⟨vs, h1, h2, h3⟩ := S.lst
  have e2 : LamX.ExtN G G2 := e.trans (.of s)
  have hG2 := e2 _ _ h1 fun ps z => by cases z
  have f : Fr [l] G2 (upd G2 l (.lst (vs ++ [v]))) := Fr.upd hG2 True.intro (by simp)
  refine ⟨vs, hG2, h2, ⟨fun b o hb no => ?_, Tabs.fr (Tabs.same t s) f (fun d hd => ?_), vs ++ [v], upd_same, by simp [h2], ?_⟩⟩
  · rw [upd_ne (show b ≠ l from fun z => hl o (by rw [← z]; exact hb) no)]
    exact e2 _ _ (S.ext _ _ hb no) no
  · cases List.mem_singleton.mp hd
    exact ⟨_, hG2, (fun ps z => by cases z), (fun φ z => by cases z)⟩
  · exact dpa_app (f.dpa (dpa_ext e2 h3) h1t) (.cons (f.dp dv h2t) .nil)
theorem door_first {K : PySem.W.Frag} {H G1 G2 : Hp} {Tb : List (Addr × Str)} {l : Addr} {v : V} {r : PyData} (e : LamX.ExtN H G1) (t : LamX.Tabs Tb G1) (s : Same G1 G2) (dv : Dp K G2 v r) (nl : G2 l = none) : NewX H l ∧ DoorX K H Tb (upd G2 l (.lst [v])) l [r] := by
  have sl := same_upd (o := .lst [v]) nl
  exact ⟨newX (e.trans (.of s)) nl, (e.trans (.of s)).trans (.of sl), Tabs.same (Tabs.same t s) sl, [v], upd_same, rfl, .cons (dp_same sl dv) .nil⟩
theorem dp_ref3 {K : PySem.W.Frag} {H : Hp} {t : Addr} {n : Str} {x : V} {d : PyData} (h : SqT K H t [.str "refused", .str n, x]) (hx : Dp K H x d) : Dp K H (.ref t) (refD3 n d) := .tup h (.cons (.str _) (.cons (.str _) (.cons hx .nil)))
/-! ### bars as texts -/
theorem str_len (a b : Str) : (a ++ b).length = a.length + b.length := by
  show (a.cps ++ b.cps).size = a.cps.size + b.cps.size
  exact Array.size_append
def numS (i : Int) : Str := Str.ofString (toString i)
def barS (x : Bar) : Str := Str.empty ++ numS x.w ++ Str.ofString "x" ++ numS x.b ++ (if x.r = true then Str.ofString "r" else Str.ofString "")
theorem num_len41 : ∀ n : _root_.Fin 41, (numS ((n : Nat) : Int)).length ≤ 2 := by decide +kernel
theorem num_len {i : Int} (h0 : 0 ≤ i) (h1 : i ≤ 40) : (numS i).length ≤ 2 := by
  have h := num_len41 ⟨i.toNat, by omega⟩
  have e : (((⟨i.toNat, by omega⟩ : _root_.Fin 41) : Nat) : Int) = i := Int.toNat_of_nonneg h0
  rw [e] at h
  exact h
theorem num_log {i : Int} (h0 : 0 ≤ i) (h1 : i ≤ 40) : i.natAbs.log2 < 1920 := by
  have h : i.natAbs < 2 ^ 6 := by omega
  exact Nat.lt_of_lt_of_le (PySem.Flt.log2_lt_of (by decide) h) (by decide)
theorem bar_len {x : Bar} (h : BarOk x) : (barS x).length ≤ 6 := by
  obtain ⟨h1, h2, h3, h4⟩ := h
  unfold barS
  rw [str_len, str_len, str_len, str_len]
  have a := num_len (i := x.w) (by omega) h2
  have b := num_len (i := x.b) (by omega) (by omega)
  have c : Str.empty.length = 0 := rfl
  have d : (Str.ofString "x").length = 1 := by decide
  have e : (if x.r = true then Str.ofString "r" else Str.ofString "").length ≤ 1 := by
    split <;> decide
  omega
theorem bars_lens : ∀ {bs : List Bar}, (∀ b ∈ bs, BarOk b) → ((bs.map barS).map (·.length)).sum ≤ 6 * bs.length
  | [], _ => by simp
  | x :: r, h => by
    have h1 := bar_len (h x List.mem_cons_self)
    have h2 := bars_lens (bs := r) fun b hb => h b (List.mem_cons_of_mem _ hb)
    simp only [List.map_cons, List.sum_cons, List.length_cons]
    omega
def barsS (bs : List Bar) : Str := Txt.join (Str.ofString " ") (bs.map barS)
/-! ### parts as texts -/
def tailS (b : Int) (r : Bool) : Str := numS b ++ (if r = true then Str.ofString "r" else Str.ofString "")
def saveS (bs : List Bar) : Str := barsS bs ++ Str.ofString "."
theorem str_assoc (a b c : Str) : a ++ b ++ c = a ++ (b ++ c) := by
  refine ext_tl ?_
  rw [tl_append, tl_append, tl_append, tl_append, List.append_assoc]
theorem str_nil (a : Str) : Str.empty ++ a = a := by
  refine ext_tl ?_
  rw [tl_append]
  rfl
theorem barS_eq (x : Bar) : barS x = numS x.w ++ Str.ofString "x" ++ tailS x.b x.r := by
  unfold barS tailS
  rw [str_nil, str_assoc (numS x.w ++ Str.ofString "x")]
/-- signs of a number up to forty -/
def figOk (z : Str) : Bool := decide (0 < z.length) && decide (z.length < 5) && z.cps.toList.all (fun c => decide (c ∈ (Str.ofString "0123456789").cps.toList))
theorem fig41 : ∀ n : _root_.Fin 41, figOk (numS ((n : Nat) : Int)) = true ∧ intText? (numS ((n : Nat) : Int)) = some ((n : Nat) : Int) := by decide +kernel
theorem fin41 {i : Int} (h0 : 0 ≤ i) (h1 : i ≤ 40) : ∃ n : _root_.Fin 41, ((n : Nat) : Int) = i := ⟨⟨i.toNat, by omega⟩, Int.toNat_of_nonneg h0⟩
theorem num_fig {i : Int} (h0 : 0 ≤ i) (h1 : i ≤ 40) : figOk (numS i) = true ∧ intText? (numS i) = some i := by
  obtain ⟨n, rfl⟩ := fin41 h0 h1
  exact fig41 n
theorem fig_sign {z : Str} (h : figOk z = true) {c : Nat} (hc : c ∈ z.cps.toList) : c ∈ (Str.ofString "0123456789").cps.toList := by
  unfold figOk at h
  rw [Bool.and_eq_true, Bool.and_eq_true] at h
  exact of_decide_eq_true (List.all_eq_true.mp h.2 c hc)
theorem fig_len {z : Str} (h : figOk z = true) : 0 < z.length ∧ z.length < 5 := by
  unfold figOk at h
  rw [Bool.and_eq_true, Bool.and_eq_true] at h
  exact ⟨of_decide_eq_true h.1.1, of_decide_eq_true h.1.2⟩
theorem digits_free : ∀ c ∈ (Str.ofString "0123456789").cps.toList, 48 ≤ c ∧ c ≤ 57 := by decide +kernel
theorem num_free {i : Int} (h0 : 0 ≤ i) (h1 : i ≤ 40) {c : Nat} (h : c ∈ tl (numS i)) : 48 ≤ c ∧ c ≤ 57 := digits_free c (fig_sign (num_fig h0 h1).1 h)
theorem tail17 : ∀ (n : _root_.Fin 41) (r : Bool), Txt.rstripChars (tailS ((n : Nat) : Int) r) (Str.ofString "r") = numS ((n : Nat) : Int) ∧ decide (cutS (tailS ((n : Nat) : Int) r) (some (-1)) none = Str.ofString "r") = r := by decide +kernel
theorem tail_ok {b : Int} (h0 : 0 ≤ b) (h1 : b ≤ 40) (r : Bool) : Txt.rstripChars (tailS b r) (Str.ofString "r") = numS b ∧ decide (cutS (tailS b r) (some (-1)) none = Str.ofString "r") = r := by
  obtain ⟨n, rfl⟩ := fin41 h0 h1
  exact tail17 n r
theorem tl_r (r : Bool) : ∀ c ∈ tl (if r = true then Str.ofString "r" else Str.ofString ""), c = 114 := by
  cases r <;> decide +kernel
theorem tl_x : tl (Str.ofString "x") = [120] := by decide +kernel
theorem tl_dot : tl (Str.ofString ".") = [46] := by decide +kernel
theorem tl_blank : tl (Str.ofString " ") = [32] := by decide +kernel
theorem part_bar {x : Bar} (h : BarOk x) : Txt.partition (barS x) (Str.ofString "x") = (numS x.w, Str.ofString "x", tailS x.b x.r) := by
  obtain ⟨h1, h2, h3, h4⟩ := h
  rw [barS_eq]
  exact partition_app tl_x fun hc => by
    have := num_free (by omega) h2 hc
    omega
theorem bar_signs {x : Bar} (h : BarOk x) {c : Nat} (hc : c ∈ tl (barS x)) : 48 ≤ c := by
  obtain ⟨h1, h2, h3, h4⟩ := h
  rw [barS_eq, tl_append, tl_append, tl_x] at hc
  unfold tailS at hc
  rw [tl_append] at hc
  rcases List.mem_append.mp hc with hc | hc
  · rcases List.mem_append.mp hc with hc | hc
    · exact (num_free (by omega) h2 hc).1
    · have := List.mem_singleton.mp hc
      omega
  · rcases List.mem_append.mp hc with hc | hc
    · exact (num_free (by omega) (by omega) hc).1
    · have := tl_r x.r c hc
      omega
theorem split_bars {bs : List Bar} (hne : bs ≠ []) (ok : ∀ b ∈ bs, BarOk b) : Txt.split (barsS bs) (Str.ofString " ") = bs.map barS := by
  unfold barsS
  refine split_join tl_blank (by decide +kernel) (fun e => hne (List.map_eq_nil_iff.mp e)) fun p hp hc => ?_
  obtain ⟨b, hb, rfl⟩ := List.mem_map.mp hp
  have := bar_signs (ok b hb) hc
  omega
theorem joinL_signs {S : List Nat} : ∀ {ps : List (List Nat)} {c : Nat}, c ∈ joinL S ps → c ∈ S ∨ ∃ p ∈ ps, c ∈ p
  | [], _, h => by cases h
  | [p], _, h => .inr ⟨p, List.mem_singleton.mpr rfl, h⟩
  | p :: q :: r, c, h => by
    have h' : c ∈ p ++ (S ++ joinL S (q :: r)) := h
    rcases List.mem_append.mp h' with h | h
    · exact .inr ⟨p, List.mem_cons_self, h⟩
    · rcases List.mem_append.mp h with h | h
      · exact .inl h
      · rcases joinL_signs h with h | ⟨p', h1, h2⟩
        · exact .inl h
        · exact .inr ⟨p', List.mem_cons_of_mem _ h1, h2⟩
theorem bars_nodot {bs : List Bar} (ok : ∀ b ∈ bs, BarOk b) : (46 : Nat) ∉ tl (barsS bs) := fun h => by
  unfold barsS at h
  rw [join_eq, tl_join, tl_blank] at h
  rcases joinL_signs h with h | ⟨p, h1, h2⟩
  · have := List.mem_singleton.mp h
    omega
  · obtain ⟨z, hz, rfl⟩ := List.mem_map.mp h1
    obtain ⟨b, hb, rfl⟩ := List.mem_map.mp hz
    have := bar_signs (ok b hb) h2
    omega
theorem save_len (bs : List Bar) : (saveS bs).length = (barsS bs).length + 1 := by
  unfold saveS
  rw [str_len]
  rfl
theorem sIx_neg1 (n d : Nat) : HT.sIx (n + 1) d (some (-1)) = n := by
  show (if (-1 : Int) < 0 then ((-1 : Int) + ((n + 1 : Nat) : Int)).toNat else min (-1 : Int).toNat (n + 1)) = n
  rw [if_pos (by decide)]
  omega
theorem cut_last (bs : List Bar) : cutS (saveS bs) (some (-1)) none = Str.ofString "." := by
  refine ext_tl ?_
  show ((tl (saveS bs)).drop (HT.sIx (saveS bs).length 0 (some (-1)))).take (HT.sIx (saveS bs).length (saveS bs).length none - HT.sIx (saveS bs).length 0 (some (-1))) = _
  rw [save_len, sIx_neg1, HT.sIx_none, tl_dot]
  unfold saveS
  rw [tl_append, tl_dot, len_tl, List.drop_append_of_le_length (Nat.le_refl _), List.drop_length]
  simp
theorem cut_front (bs : List Bar) : cutS (saveS bs) none (some (-1)) = barsS bs := by
  refine ext_tl ?_
  show ((tl (saveS bs)).drop (HT.sIx (saveS bs).length 0 none)).take (HT.sIx (saveS bs).length (saveS bs).length (some (-1)) - HT.sIx (saveS bs).length 0 none) = _
  rw [save_len, sIx_neg1, HT.sIx_none]
  unfold saveS
  rw [tl_append, len_tl]
  simp
theorem save_dot {bs : List Bar} (ok : ∀ b ∈ bs, BarOk b) : saveS bs = Str.ofString "." ↔ bs = [] := by
  refine ⟨fun h => ?_, fun h => by rw [h]; decide +kernel⟩
  have h1 := congrArg tl h
  unfold saveS at h1
  rw [tl_append, tl_dot] at h1
  have h2 : tl (barsS bs) = [] := by
    have := congrArg List.length h1
    rw [List.length_append] at this
    exact List.eq_nil_of_length_eq_zero (by simpa using this)
  cases bs with
  | nil => rfl
  | cons x r =>
    exfalso
    have hx := ok x List.mem_cons_self
    have hn : tl (barS x) = [] := by
      unfold barsS at h2
      rw [join_eq, tl_join] at h2
      cases r with
      | nil => exact h2
      | cons y r => exact (List.append_eq_nil_iff.mp h2).1
    rw [barS_eq, tl_append, tl_append, tl_x] at hn
    have := congrArg List.length hn
    rw [List.length_append, List.length_append] at this
    simp at this
theorem bars_len6 {bs : List Bar} (ok : ∀ b ∈ bs, BarOk b) (h : bs.length ≤ 1000) : (barsS bs).length ≤ 7 * bs.length := by
  have e : ∀ {l : List Bar}, (∀ b ∈ l, BarOk b) → (joinL [32] ((l.map barS).map tl)).length ≤ 7 * l.length := by
    intro l
    induction l with
    | nil => intro _; exact Nat.le_refl _
    | cons x r ih =>
      intro hl
      have h1 := bar_len (hl x List.mem_cons_self)
      have h2 := ih fun b hb => hl b (List.mem_cons_of_mem _ hb)
      rw [len_tl] at h1
      cases r with
      | nil =>
        show (tl (barS x)).length ≤ 7 * 1
        omega
      | cons y r =>
        show (tl (barS x) ++ ([32] ++ joinL [32] (((y :: r).map barS).map tl))).length ≤ 7 * ((y :: r).length + 1)
        rw [List.length_append, List.length_append]
        have h3 : ([32] : List Nat).length = 1 := rfl
        omega
  rw [len_tl]
  unfold barsS
  rw [join_eq, tl_join, tl_blank]
  exact e ok
section
variable {X : Cx}
/-- a def run within, around A' -/
theorem run_at {n : Nat} {f : Addr} {fd : FuncData} {ps : List Str} {sp : Sp} {pins : List (Addr × Obj)} {σ : L2.St} {H : Hp} {s : Shared} {A' : Around} {vs : List V} {us : List Value} {Q : VK} {E : XK} {E' : Value → Shared → Prop}
    (F : FnOk X.prog X.w X.K X.mg X.base CX0 n f fd ps sp) (hb : Binds X.K fd ps []) (I : Inv X pins σ H s) (hr : Room n A') (hf : A'.frames = X.A.frames) (rv : Vals vs us) (hsp : sp vs H Q E) :
    wpAny (model X.prog X.w) A' (call (.ref f) us) (EP X pins σ Q) E' s := by
  have e0 : Env0 X.prog X.w X.K X.mg X.base A' X.stack s H := by
    have e := I.env0
    exact ⟨by rw [hf]; exact e.frames, e.mod, e.bs, e.bsz, e.funs, e.frf, e.hok, e.bare⟩
  have hl := F.len _ _ _ _ hsp
  have hl2 := rv.length
  refine wpAny_call (codeAny_mono (F.run A' X.stack s H ⟨us, []⟩ us vs Q E hr e0 (by
    have := hb s us I.kIn (by simp; omega)
    simpa using this) rv hsp) fun r s' hq => ?_)
  cases r with
  | error e => exact hq.elim
  | ok fl =>
    cases fl with
    | ret w => exact I.after hq
    | next => exact False.elim hq
    | brk => exact False.elim hq
    | cont => exact False.elim hq
end
section
open PySem.W
variable {prog : Program} {w : World} {A : Around} {E : Value → Shared → Prop} {s : Shared} {K : Frag} {x C f : Addr} {ox : Obj} {od : Option Obj} {b tb : Value}
/-- a built-in slot of an object of a class of K, by its name, bound -/
theorem slot_bound {M : Model} {self : Value} {name : PySem.Str} {id : String} {args : List Value} {Q : Option Value → Shared → Prop} (sp : Looks M s.heap (specialOf self name) (some (.builtin id))) (hb : bindSpecial (.builtin id) self = pure (.builtin id, [self]))
    (hc : wpAny M A (call (.builtin id) ([self] ++ args)) (fun v => Q (some v)) E s) : wpAny M A (callSpecialIfBound? self name args) Q E s := by
  simp only [callSpecialIfBound?, bindSpecialIfBound?]
  refine wpAny_holding (wpAny_bind (wpAny_bind (sp.here ?_)))
  refine wpAny_bind (wpAny_askSetting (wpAny_ite ?_))
  have fin : wpAny M A (call (.builtin id) ([self] ++ args) >>= fun v => pure (some v)) Q E s := wpAny_bind (wpAny_mono hc (fun v s' h' => wpAny_pure h') fun _ _ h' => h')
  split
  · exact wpAny_bind (wpAny_of_eq hb (wpAny_pure (by exact fin)))
  · exact wpAny_tryCatch (wpAny_bind (wpAny_of_eq hb (wpAny_pure (by exact fin))))
/-- x != b where only == is one's own -/
theorem ne_K {Q : Value → Shared → Prop} (hu : A.units + 1 < cLine) (X : K.In s.heap) (I : InstAt s.heap x ox C od) (hb : Looks (model prog w) s.heap (typeOf b) tb) (hn : notFirst K C tb = true)
    (hs : findIn K (.ref C) "__ne__" = some (some (.builtin "object.__ne__"))) (hm : mroIn K C (.type "object") = some true) (he : findIn K (.ref C) "__eq__" = some (some (.ref f))) (hf : isFn K (.ref f) = true)
    (h : wpAny (model prog w) A.in1 (call (.ref f) [.ref x, b]) (fun v s' => ∃ k, v = .bool k ∧ Q (.bool (!k)) s') E s) : wpAny (model prog w) A (richCompare .NotEq (.ref x) b) Q E s := by
  have body : wpAny (model prog w) A.in1 (Builtin.«object.__ne__» ⟨[.ref x, b], []⟩) (fun fin s' => ∃ v, fin = .done (.ret v) ∧ v ≠ .notImplemented ∧ Q v s') E s := by
    unfold Builtin.«object.__ne__»
    repeat (first
      | with_reducible refine wpAny_cRoomFor hu ?_
      | (refine wpAny_bind (m := callSpecialIfBound? (.ref x) (Str.ofString "__eq__") [b])
          (ifBound_K X I he hf (wpAny_mono h (fun r s' hr => by
            obtain ⟨k, rfl, hq⟩ := hr
            repeat (first | exact ⟨_, rfl, by simp, hq⟩ | exact wpAny_pure ⟨_, rfl, by simp, hq⟩ | exact wpAny_truthy_bool ⟨_, rfl, by simp, hq⟩ | (refine wpAny_bind (m := truthy (.bool _)) (wpAny_truthy_bool ?_)) | wp_step)) fun _ _ e => e)))
      | wp_step)
  have one : wpAny (model prog w) A (tryCompare (.ref x) "__ne__" b) (fun r s' => ∃ v, r = some v ∧ Q v s') E s := by
    unfold tryCompare
    refine wpAny_bind (slot_bound (I.type.andThen (looks_findIn X hs)) (PySem.F.cmp_object.ne.bind _) (wpAny_call (codeAny_call_builtin PySem.F.cmp_object.ne.plain PySem.F.cmpEntry_ne
      (check_slot (i := "object.__ne__") (owner := "object") (n := "__ne__") PySem.F.cmpKind_ne PySem.F.cmpSplit_ne (I.type.andThen (looks_mroIn X hm)) (PySem.F.cmpArgs_ne _ _) (wpAny_mono body (fun fin s' z => ?_) fun _ _ e => e)))))
    obtain ⟨v, rfl, nv, hq⟩ := z
    cases v <;> first | exact absurd rfl nv | exact wpAny_pure ⟨_, rfl, hq⟩
  unfold richCompare
  simp only [oneThing_ref]
  refine wpAny_holding (wpAny_bind (wpAny_cRoomFor (by omega) ?_))
  refine wpAny_bind (I.type.here (wpAny_bind (hb.here ?_)))
  split
  · rename_i q
    have e : subIn K tb (.ref C) = some false := by
      rcases Bool.or_eq_true_iff.mp hn with e | e
      · rw [beq_iff_eq.mp e] at q; simp at q
      · exact beq_iff_eq.mp e
    refine wpAny_bind ((looks_subIn X e).here ?_)
    simp only [Bool.false_eq_true, if_false]
    refine wpAny_bind (wpAny_mono one (fun r s' z => ?_) fun _ _ e => e)
    obtain ⟨v, rfl, hq⟩ := z
    exact wpAny_pure hq
  · refine wpAny_bind (wpAny_pure ?_)
    simp only [Bool.false_eq_true, if_false]
    refine wpAny_bind (wpAny_mono one (fun r s' z => ?_) fun _ _ e => e)
    obtain ⟨v, rfl, hq⟩ := z
    exact wpAny_pure hq
end
theorem sc_Part_str : FnScope ["self", "width", "beats", "rests"] ["self"] (defScope s_Part_str) := ⟨rfl, rfl, rfl, by decide +kernel, rfl, by decide +kernel, by decide +kernel⟩
section
variable {K : PySem.W.Frag} {mg : Str → Option Value}
theorem b_Part_str (T : Txt K mg) : Binds K (fdOf K ("Part", some "__str__")) ["self"] [] := T.Part_str.bindsN fun _ _ _ _ _ _ us hl => match us, hl with | [_], _ => rfl
end
def sp_Part_str (K : PySem.W.Frag) : Sp := fun vs H Q _ => ∃ (p q : Addr) (bs : List Bar) (past : List (List Bar)), vs = [.ref p] ∧ PartX K H p q bs past ∧ (∀ b ∈ bs, BarOk b) ∧ bs.length ≤ 1000 ∧ ∀ H', Same H H' → Q (.str (barsS bs)) H'
theorem ok_Part_str {P : Program} {w : World} {K : PySem.W.Frag} {mg : Str → Option Value} {base : Heap} (T : Txt K mg) : OkF P w K mg base CX0 1 ("Part", some "__str__") ["self"] (sp_Part_str K) := by
  refine okN T.Part_str sc_Part_str (fun vs H Q E h => ?_) (fun cdv A outer s H vs Q E hr h => ?_)
  · obtain ⟨p, q, bs, past, rfl, _⟩ := h
    rfl
  · obtain ⟨p, q, bs, past, rfl, hp, ok, hl, k⟩ := h
    obtain ⟨dx, r, ws, h1, n, ⟨vs, h2, h3⟩, _⟩ := hp
    refine ⟨_, (pss_one (ps_ret (pe_join pe_str (pe_lc (own := [("width", 1), ("beats", 2), ("rests", 3)]) (g := (gTup K 3 (gCons (gName 1) (gCons (gName 2) (gCons (gName 3) gNil))))) (tt := tYes)  (by rfl) sc_Part_str.nd (pi_list (pe_fld (pv 0) rfl)) (blkOk_by (own := [("width", 1), ("beats", 2), ("rests", 3)]) (N := ["self", "width", "beats", "rests"]) (sc := defScope s_Part_str) (by decide +kernel)) (fun _ _ _ _ _ => (pg_tup rfl (pgs_cons (pg_name (i := 1) sc_Part_str.nd rfl (by first | exact Or.inl rfl | exact Or.inr rfl)) (pgs_cons (pg_name (i := 2) sc_Part_str.nd rfl (by first | exact Or.inl rfl | exact Or.inr rfl)) (pgs_cons (pg_name (i := 3) sc_Part_str.nd rfl (by first | exact Or.inl rfl | exact Or.inr rfl)) pgs_nil))))) (fun _ _ _ _ _ => pts_nil) (fun _ _ _ _ _ => (pe_op op_add_str (pe_joined (PJ.cons (pe_fmt (pv 1)) (PJ.cons pe_str (PJ.cons (pe_fmt (pv 2)) PJ.nil)))) (pe_ifExp (pt_val (pv 3)) pe_str pe_str))))))), ?_⟩
    refine ⟨⟨_, rfl⟩, _, rfl, p, _, dx, _, _, rfl, h1, T.cl_Part, T.n_row, pf_row, r, rfl, ⟨_, .of h2⟩, fun D hD => lc_list (K := K) (a := r) (xs := vs) (fun i H' => Same H H' ∧ H' D = some (.lst (((bs.take i).map barS).map V.str))) ⟨same_upd hD, ?_⟩ ?_ ?_ ?_⟩
    · rw [upd_same]
      rfl
    · rintro i H' _ ⟨s, _⟩
      exact .of (s _ _ h2)
    · rintro i v H' hv ⟨s, e⟩
      obtain ⟨b, t, hb, rfl, ht⟩ := bar_at h3 hv
      have okb := ok b (List.mem_of_getElem? hb)
      obtain ⟨o1, o2, o3, o4⟩ := id okb
      have lw := num_len (i := b.w) (by omega) o2
      have lb := num_len (i := b.b) (by omega) (by omega)
      have le : Str.empty.length = 0 := rfl
      have lx : (Str.ofString "x").length = 1 := by decide
      have hsz : 1000 < sizeLine := by decide
      refine ⟨t, _, rfl, same_sqt s ht, rfl, _, _, rfl, _, _, rfl, _, _, rfl, rfl, rfl, ?_⟩
      refine ⟨_, rfl, .inr ⟨_, rfl, num_log (by omega) o2, _, rfl, ?_, _, rfl, ?_, _, rfl, .inr ⟨_, rfl, num_log (by omega) (by omega), _, rfl, ?_, ?_⟩⟩⟩
      · show (Str.empty ++ numS b.w).length ≤ sizeLine
        rw [str_len]
        omega
      · show (Str.empty ++ numS b.w ++ Str.ofString "x").length ≤ sizeLine
        rw [str_len, str_len]
        omega
      · show (Str.empty ++ numS b.w ++ Str.ofString "x" ++ numS b.b).length ≤ sizeLine
        rw [str_len, str_len, str_len]
        omega
      · refine ⟨_, rfl, _, rfl, ?_⟩
        have hlen : ((bs.take i).map barS).length ≤ 1000 := by
          rw [List.length_map, List.length_take]
          omega
        have fin : ∀ y : Str, (if b.r = true then Str.ofString "r" else Str.ofString "") = y → Same H (upd H' D (.lst (((bs.take i).map barS).map V.str ++ [V.str (Str.empty ++ numS b.w ++ Str.ofString "x" ++ numS b.b ++ y)]))) ∧
            (upd H' D (.lst (((bs.take i).map barS).map V.str ++ [V.str (Str.empty ++ numS b.w ++ Str.ofString "x" ++ numS b.b ++ y)]))) D = some (.lst (((bs.take (i + 1)).map barS).map V.str)) := by
          intro y hy
          refine ⟨same_updR s hD, ?_⟩
          rw [upd_same, take_at hb, List.map_append, List.map_append, ← hy]
          rfl
        have lr : (Str.ofString "r").length = 1 := by decide
        have l0 : (Str.ofString "").length = 0 := by decide
        cases hr : b.r with
        | true =>
          refine iteT ⟨_, _, rfl, rfl, ?_, _, e, ?_, fin (Str.ofString "r") (by rw [hr]; rfl)⟩
          · show (Str.empty ++ numS b.w ++ Str.ofString "x" ++ numS b.b).length + (Str.ofString "r").length ≤ sizeLine
            rw [str_len, str_len, str_len]
            omega
          · rw [List.length_map]
            exact small1000 hlen
        | false =>
          refine iteF ⟨_, _, rfl, rfl, ?_, _, e, ?_, fin (Str.ofString "") (by rw [hr]; rfl)⟩
          · show (Str.empty ++ numS b.w ++ Str.ofString "x" ++ numS b.b).length + (Str.ofString "").length ≤ sizeLine
            rw [str_len, str_len, str_len]
            omega
          · rw [List.length_map]
            exact small1000 hlen
    · rintro H1 ⟨s1, e1⟩
      rw [bars_len h3, List.take_length] at e1
      refine ⟨_, D, bs.map barS, rfl, rfl, .inl (.of e1), ?_, k _ s1⟩
      have h := bars_lens ok
      rw [List.length_map]
      have lx : (Str.ofString " ").length = 1 := by decide
      rw [lx]
      omega
section
variable {X : Cx}
def rStrP (K : PySem.W.Frag) (sp : Sp) : List V → Hp → VK → Prop := fun xs H Q => ∃ p dx fs, xs = [.ref p] ∧ H p = some (.ins (pC K) dx fs) ∧ sp [.ref p] H (fun v H' => ∃ z, v = .str z ∧ Q (.str z) H') E0
theorem call_strP {n : Nat} {sp : Sp} (T : Txt X.K X.mg) (F : FnOk X.prog X.w X.K X.mg X.base CX0 n (He.fAd X.K ("Part", some "__str__")) (fdOf X.K ("Part", some "__str__")) ["self"] sp) (hr : Room (n + 2) X.A) : CallR X (.type "str") (rStrP X.K sp) := by
  intro pins s σ H xs us Q I r h
  obtain ⟨p, dx, fs, rfl, hp, hs⟩ := h
  obtain ⟨u, rfl, e⟩ := vals1 r
  cases e
  obtain ⟨mA, J, _⟩ := ins_get I.hok hp
  obtain ⟨od, J, _⟩ := J.look
  refine PySem.W.kso_call hr.in1.in1.units0 I.kIn J T.m_Part_str.at_ T.m_Part_str.fn ?_
  refine wpAny_mono (run_at (vs := [.ref p]) (Q := fun v H' => ∃ z, v = .str z ∧ Q (.str z) H') (E := E0) F (b_Part_str T) I hr.in1.in1 rfl (.cons rfl .nil) hs) (fun r s' z => ?_) fun _ _ z => z
  obtain ⟨v', H', I', r', b, rfl, q⟩ := z
  obtain ⟨t, rfl⟩ := r'
  exact ⟨.str b, H', I', ⟨t, rfl⟩, q⟩
end
theorem sc_saved : FnScope ["part"] ["part"] (defScope s_saved) := ⟨rfl, rfl, rfl, by decide +kernel, rfl, by decide +kernel, by decide +kernel⟩
section
variable {K : PySem.W.Frag} {mg : Str → Option Value}
theorem b_saved (T : Txt K mg) : Binds K (fdOf K ("saved", none)) ["part"] [] := T.saved.bindsN fun _ _ _ _ _ _ us hl => match us, hl with | [_], _ => rfl
end
def sp_saved (K : PySem.W.Frag) : Sp := fun vs H Q _ => ∃ (p q : Addr) (bs : List Bar) (past : List (List Bar)), vs = [.ref p] ∧ PartX K H p q bs past ∧ (∀ b ∈ bs, BarOk b) ∧ bs.length ≤ 1000 ∧ ∀ H', Same H H' → Q (.str (saveS bs)) H'
theorem ok_saved {P : Program} {w : World} {K : PySem.W.Frag} {mg : Str → Option Value} {base : Heap} (T : Txt K mg) : OkF P w K mg base CX0 4 ("saved", none) ["part"] (sp_saved K) := by
  refine okN T.saved sc_saved (fun vs H Q E h => ?_) (fun cdv A outer s H vs Q E hr h => ?_)
  · obtain ⟨p, q, bs, past, rfl, _⟩ := h
    rfl
  · obtain ⟨p, q, bs, past, rfl, hp, ok, hl, z⟩ := h
    refine ⟨_, (pss_one (ps_ret (pe_op op_add_str (pe_callTy (call_strP T (ok_Part_str T) (hr.mono (by decide))) (by rfl) T.b_str (by decide +kernel) (pa_cons (pv 0) pa_nil)) (pe_glob (v := .str ".") (by rfl) T.c_END.choose_spec ⟨_, rfl⟩)))), ?_⟩
    obtain ⟨dx, r, ws, h1, _⟩ := id hp
    refine ⟨_, rfl, p, dx, _, rfl, h1, p, q, bs, past, rfl, hp, ok, hl, fun H' s' => ⟨_, rfl, _, _, rfl, rfl, ?_, z _ s'⟩⟩
    have h6 := bars_len6 ok hl
    have hd : (Str.ofString ".").length = 1 := by decide
    rw [hd]
    exact Nat.le_trans (show _ ≤ 7001 by omega) (by decide)
theorem sc_need : FnScope ["good"] ["good"] (defScope s_need) := ⟨rfl, rfl, rfl, by decide +kernel, rfl, by decide +kernel, by decide +kernel⟩
section
variable {K : PySem.W.Frag} {mg : Str → Option Value}
theorem b_need (T : Txt K mg) : Binds K (fdOf K ("need", none)) ["good"] [] := T.need.bindsN fun _ _ _ _ _ _ us hl => match us, hl with | [_], _ => rfl
end
def sp_need : Sp := fun vs H Q _ => vs = [.bl true] ∧ Q .non H
theorem ok_need {P : Program} {w : World} {K : PySem.W.Frag} {mg : Str → Option Value} {base : Heap} (T : Txt K mg) : OkF P w K mg base CX0 1 ("need", none) ["good"] sp_need := by
  refine okN T.need sc_need (fun vs H Q E h => ?_) (fun cdv A outer s H vs Q E hr h => ?_)
  · obtain ⟨rfl, _⟩ := h
    rfl
  · obtain ⟨rfl, z⟩ := h
    refine ⟨_, (pss_one (ps_if (pt_not (pt_val (pv 0))) pss_never pss_nil)), ?_⟩
    exact ⟨_, rfl, _, rfl, iteF z⟩
theorem sc_figure : FnScope ["word", "sign"] ["word"] (defScope s_figure) := ⟨rfl, rfl, rfl, by decide +kernel, rfl, by decide +kernel, by decide +kernel⟩
section
variable {K : PySem.W.Frag} {mg : Str → Option Value}
theorem b_figure (T : Txt K mg) : Binds K (fdOf K ("figure", none)) ["word"] [] := T.figure.bindsN fun _ _ _ _ _ _ us hl => match us, hl with | [_], _ => rfl
end
def sp_figure : Sp := fun vs H Q _ => ∃ i : Int, vs = [.str (numS i)] ∧ 0 ≤ i ∧ i ≤ 40 ∧ ∀ H', Same H H' → Q (.int i) H'
theorem reps_all (n : Nat) : (List.replicate n true).all id = true := by
  induction n with
  | zero => rfl
  | succ n ih => rw [List.replicate_succ]; exact ih
theorem ok_figure {P : Program} {w : World} {K : PySem.W.Frag} {mg : Str → Option Value} {base : Heap} (T : Txt K mg) : OkF P w K mg base CX0 2 ("figure", none) ["word"] sp_figure := by
  refine okN T.figure sc_figure (fun vs H Q E h => ?_) (fun cdv A outer s H vs Q E hr h => ?_)
  · obtain ⟨i, rfl, _⟩ := h
    rfl
  · obtain ⟨i, rfl, h0, h1, z⟩ := h
    obtain ⟨hf, hi⟩ := num_fig h0 h1
    obtain ⟨l0, l1⟩ := fig_len hf
    have hsz : sizeLine = 16777216 := sizeLine_eq
    refine ⟨_, (pss_cons (ps_expr (pe_call (ok_need T) (hr.mono (by decide)) (by rfl) T.g_need T.need.kp (b_need T) .nil pass0 (pa_cons (pe_and (pe_chain op_lt op_lt pe_int (pe_callB call_len (by rfl) T.b_len PySem.boot_len (pa_cons (pv 0) pa_nil)) pe_int) (pe_one (pe_callB (cr_all rfl) (by rfl) T.b_all (by decide +kernel) (pa_cons (pe_lc (own := [("sign", 1)]) (g := (gName 1)) (tt := tYes)  (by rfl) sc_figure.nd (pi_str (pv 0)) (blkOk_by (own := [("sign", 1)]) (N := ["word", "sign"]) (sc := defScope s_figure) (by decide +kernel)) (fun _ _ _ _ _ => (pg_name (i := 1) sc_figure.nd rfl (by first | exact Or.inl rfl | exact Or.inr rfl))) (fun _ _ _ _ _ => pts_nil) (fun _ _ _ _ _ => (pe_cmpR op_inS (pv 1) (pe_glob (v := .str "0123456789") (by rfl) T.c_FIGURES.choose_spec ⟨_, rfl⟩) (by rfl)))) pa_nil)))) pa_nil)))
      (pss_one (ps_ret (pe_callTy call_int_str (by rfl) T.b_int (by decide +kernel) (pa_cons (pv 0) pa_nil))))), ?_⟩
    refine ⟨_, rfl, _, _, rfl, ⟨by omega, rfl⟩, _, _, rfl, rfl, _, rfl, iteP (by omega) ⟨_, _, rfl, rfl, _, rfl, iteP (by omega) ?_⟩⟩
    refine ⟨_, rfl, _, rfl, fun D nD => lc_it (walk_str (z := numS i)) (fun j H' => Same H H' ∧ H' D = some (.lst ((List.replicate j true).map V.bl))) ⟨same_upd nD, upd_same⟩ (fun _ _ _ _ => trivial) ?_ ?_⟩
    · rintro j v H1 H2 hj ⟨s1, e1⟩ ⟨rfl, c, hc, rfl⟩
      have hm : c ∈ (numS i).cps.toList := by
        rw [← Array.getElem?_toList] at hc
        exact List.mem_of_getElem? hc
      refine ⟨rfl, _, rfl, c, _, rfl, rfl, ?_⟩
      rw [decide_eq_true (fig_sign hf hm)]
      refine ⟨_, e1, ?_, same_updR s1 nD, ?_⟩
      · rw [List.length_map, List.length_replicate]
        have : (numS i).cps.size = (numS i).length := rfl
        omega
      · rw [upd_same, List.replicate_succ', List.map_append]
        rfl
    · rintro H1 ⟨s1, e1⟩
      refine ⟨D, _, rfl, .of e1, ?_⟩
      rw [reps_all]
      exact ⟨rfl, _, rfl, _, i, rfl, hi, by omega, z _ s1⟩
theorem sc_bar_of : FnScope ["word", "width", "sign", "tail"] ["word"] (defScope s_bar_of) := ⟨rfl, rfl, rfl, by decide +kernel, rfl, by decide +kernel, by decide +kernel⟩
section
variable {K : PySem.W.Frag} {mg : Str → Option Value}
theorem b_bar_of (T : Txt K mg) : Binds K (fdOf K ("bar_of", none)) ["word"] [] := T.bar_of.bindsN fun _ _ _ _ _ _ us hl => match us, hl with | [_], _ => rfl
end
def sp_bar_of : Sp := fun vs H Q _ => ∃ x : Bar, vs = [.str (barS x)] ∧ BarOk x ∧ ∀ H' c, Same H H' → H c = none → H' c = some (.tup (barV x)) → Q (.ref c) H'
theorem ok_bar_of {P : Program} {w : World} {K : PySem.W.Frag} {mg : Str → Option Value} {base : Heap} (T : Txt K mg) : OkF P w K mg base CX0 3 ("bar_of", none) ["word"] sp_bar_of := by
  refine okN T.bar_of sc_bar_of (fun vs H Q E h => ?_) (fun cdv A outer s H vs Q E hr h => ?_)
  · obtain ⟨x, rfl, _⟩ := h
    rfl
  · obtain ⟨x, rfl, ok, z⟩ := h
    have hsz : sizeLine = 16777216 := sizeLine_eq
    have hl := bar_len ok
    have hp := part_bar ok
    obtain ⟨h1, h2, h3, h4⟩ := id ok
    obtain ⟨t1, t2⟩ := tail_ok (b := x.b) (by omega) (by omega) x.r
    have tl7 : (tailS x.b x.r).length ≤ 6 := by
      rw [barS_eq, str_len] at hl
      omega
    refine ⟨_, (pss_cons (ps_asg (pe_partition (pv 0) pe_str) (pg_tup rfl (pgs_cons (pg_name (i := 1) sc_bar_of.nd rfl (by first | exact Or.inl rfl | exact Or.inr rfl)) (pgs_cons (pg_name (i := 2) sc_bar_of.nd rfl (by first | exact Or.inl rfl | exact Or.inr rfl)) (pgs_cons (pg_name (i := 3) sc_bar_of.nd rfl (by first | exact Or.inl rfl | exact Or.inr rfl)) pgs_nil)))))
      (pss_one (ps_ret (pe_tup (pa_cons (pe_call (ok_figure T) (hr.mono (by decide)) (by rfl) T.g_figure T.figure.kp (b_figure T) .nil pass0 (pa_cons (pv 1) pa_nil)) (pa_cons (pe_call (ok_figure T) (hr.mono (by decide)) (by rfl) T.g_figure T.figure.kp (b_figure T) .nil pass0 (pa_cons (pe_bm PySem.F.plainAttrs_str PySem.F.slot_str_rstrip PySem.F.type_str_rstrip mt_rstripChars (pv 3) (pa_cons pe_str pa_nil)) pa_nil)) (pa_cons (pe_cmpR op_eq (pe_slice sl_str (pv 3) (po_some (pe_un un_neg pe_int)) po_none) pe_str (nomark _)) pa_nil))))))), ?_⟩
    refine ⟨_, rfl, ⟨_, rfl⟩, _, _, rfl, rfl, by decide +kernel, by omega, fun p np => ?_⟩
    rw [show (Txt.partition (barS x) (Str.ofString "x")).1 = numS x.w by rw [hp], show (Txt.partition (barS x) (Str.ofString "x")).2.1 = Str.ofString "x" by rw [hp], show (Txt.partition (barS x) (Str.ofString "x")).2.2 = tailS x.b x.r by rw [hp]]
    have sp := same_upd (o := .tup [.str (numS x.w), .str (Str.ofString "x"), .str (tailS x.b x.r)]) np
    refine ⟨p, _, rfl, .of upd_same, rfl, _, _, rfl, _, _, rfl, _, _, rfl, rfl, ?_⟩
    refine ⟨_, rfl, x.w, rfl, by omega, h2, fun H1 s1 => ?_⟩
    refine ⟨_, rfl, rfl, _, _, rfl, rfl, by omega, ?_⟩
    rw [t1]
    refine ⟨x.b, rfl, by omega, by omega, fun H2 s2 => ?_⟩
    refine ⟨_, rfl, _, rfl, _, rfl, _, rfl, by omega, rfl, by show (3 : Nat) ≤ sizeLine; decide, fun c nc => ?_⟩
    have e : (decide (V.str (cutS (tailS x.b x.r) (some (-1)) none) = V.str (Str.ofString "r"))) = x.r := (decide_eq_decide.mpr ⟨fun h => V.str.inj h, fun h => congrArg V.str h⟩).trans t2
    have s03 := (sp.trans s1).trans s2
    refine z _ c (s03.trans (same_upd nc)) (s03.free nc) ?_
    rw [upd_same, e]
    rfl
theorem sc_woken : FnScope ["text", "words", "found", "word"] ["text"] (defScope s_woken) := ⟨rfl, rfl, rfl, by decide +kernel, rfl, by decide +kernel, by decide +kernel⟩
section
variable {K : PySem.W.Frag} {mg : Str → Option Value}
theorem b_woken (T : Txt K mg) : Binds K (fdOf K ("woken", none)) ["text"] [] := T.woken.bindsN fun _ _ _ _ _ _ us hl => match us, hl with | [_], _ => rfl
end
def sp_woken (K : PySem.W.Frag) : Sp := fun vs H Q _ => ∃ (bs : List Bar), vs = [.str (saveS bs)] ∧ (∀ b ∈ bs, BarOk b) ∧ bs.length ≤ 40 ∧ ∀ H' p q, Same H H' → H p = none → H q = none → p ≠ q → PartX K H' p q bs [] → Q (.ref p) H'
theorem ok_woken {P : Program} {w : World} {K : PySem.W.Frag} {mg : Str → Option Value} {base : Heap} (T : Txt K mg) : OkF P w K mg base CX0 6 ("woken", none) ["text"] (sp_woken K) := by
  refine okN T.woken sc_woken (fun vs H Q E h => ?_) (fun cdv A outer s H vs Q E hr h => ?_)
  · obtain ⟨bs, rfl, _⟩ := h
    rfl
  · obtain ⟨bs, rfl, ok, hl, z⟩ := h
    have hsz : sizeLine = 16777216 := sizeLine_eq
    have h6 := bars_len6 ok (by omega)
    have h7 := save_len bs
    refine ⟨_, (pss_cons (ps_expr (pe_call (ok_need T) (hr.mono (by decide)) (by rfl) T.g_need T.need.kp (b_need T) .nil pass0 (pa_cons (pe_and (pe_callB call_isi (by rfl) T.b_isinstance (by decide +kernel) (pa_cons (pv 0) (pa_cons (pe_bltn (v := .ty "str") (by rfl) T.b_str (by decide +kernel) rfl) pa_nil))) (pe_one (pe_cmpR op_eq (pe_slice sl_str (pv 0) (po_some (pe_un un_neg pe_int)) po_none) (pe_glob (v := .str ".") (by rfl) T.c_END.choose_spec ⟨_, rfl⟩) (nomark _)))) pa_nil)))
      (pss_cons (ps_set (i := 1) sc_woken.nd rfl (by first | exact Or.inl rfl | exact Or.inr rfl) (pe_ifExp (pt_cmpR op_ne (pv 0) (pe_glob (v := .str ".") (by rfl) T.c_END.choose_spec ⟨_, rfl⟩) (nomark _)) (pe_split (pe_slice sl_str (pv 0) po_none (po_some (pe_un un_neg pe_int))) pe_str) (pe_lst pa_nil)))
      (pss_cons (ps_try_only rfl rfl ⟨rfl, by decide, .inl T.g_LeafError⟩ takes0 (fun W pn xe tk _ => (pss_one (ps_set (i := 2) sc_woken.nd rfl (by first | exact Or.inl rfl | exact Or.inr rfl) (pe_make T.mk_Part (ok_Part_init T) (hr.mono (by decide)) (by rfl) T.g_Part (b1_Part T) .nil pass0 (pa_cons (pe_lc (own := [("word", 3)]) (g := (gName 3)) (tt := tYes) (wi := iList K (tVar 1)) (by rfl) sc_woken.nd (pi_list (pv 1)) (blkOk_by (own := [("word", 3)]) (N := ["text", "words", "found", "word"]) (sc := defScope s_woken) (by decide +kernel)) (fun _ _ _ _ _ => (pg_name (i := 3) sc_woken.nd rfl (by first | exact Or.inl rfl | exact Or.inr rfl))) (fun _ _ _ _ _ => pts_nil) (fun _ _ _ _ _ => (pe_call (ok_bar_of T) (hr.mono (by decide)) (by rfl) T.g_bar_of T.bar_of.kp (b_bar_of T) .nil pass0 (pa_cons (pv 3) pa_nil)))) pa_nil))))) (fun a oe cls d pn _ _ => pss_never))
      (pss_cons (ps_expr (pe_call (ok_need T) (hr.mono (by decide)) (by rfl) T.g_need T.need.kp (b_need T) .nil pass0 (pa_cons (pe_cmpR op_eq (pe_call (ok_saved T) (hr.mono (by decide)) (by rfl) T.g_saved T.saved.kp (b_saved T) .nil pass0 (pa_cons (pv 2) pa_nil)) (pv 0) (nomark _)) pa_nil)))
      (pss_one (ps_ret (pv 2))))))), ?_⟩
    -- need
    with_reducible refine seq_cont (fun σ' G => σ' = [some (.str (saveS bs)), none, none, none] ∧ H = G) (fun cont => ?_) ?_
    · refine ⟨_, rfl, _, _, _, _, _, rfl, .ty _, dp_ty (.str _), kit_str (.str _), _, rfl, iteT ⟨_, rfl, _, rfl, _, rfl, _, rfl, by omega, rfl, ?_, cont _ _ ⟨rfl, rfl⟩⟩⟩
      rw [cut_last, decide_eq_true rfl]
      rfl
    rintro σ' _ ⟨rfl, rfl⟩
    -- words
    with_reducible refine seq_cont (fun σ' G => ∃ L, σ' = [some (.str (saveS bs)), some (.ref L), none, none] ∧ Same H G ∧ G L = some (.lst ((bs.map barS).map V.str))) (fun cont => ?_) ?_
    · refine ⟨_, rfl, rfl, _, rfl, ?_⟩
      by_cases hb : bs = []
      · rw [decide_eq_true (congrArg V.str ((save_dot ok).mpr hb))]
        refine iteF ⟨by show (0 : Nat) ≤ sizeLine; decide, fun L nL => cont _ _ ⟨L, rfl, same_upd nL, ?_⟩⟩
        rw [upd_same, hb]
        rfl
      · rw [decide_eq_false (fun e => hb ((save_dot ok).mp (V.str.inj e)))]
        refine iteT ⟨_, rfl, _, rfl, _, rfl, _, rfl, by omega, ⟨_, rfl⟩, _, _, rfl, rfl, by decide +kernel, ?_, fun L nL => cont _ _ ⟨L, rfl, same_upd nL, ?_⟩⟩
        · rw [cut_front]
          omega
        · rw [upd_same, cut_front, split_bars hb ok]
    rintro σ' H1 ⟨L, rfl, s1, hL⟩
    -- found
    with_reducible refine seq_cont (fun σ' G => ∃ p q y, σ' = [some (.str (saveS bs)), some (.ref L), some (.ref p), y] ∧ Same H1 G ∧ PartX K G p q bs [] ∧ H1 p = none ∧ H1 q = none ∧ p ≠ q) (fun cont => ?_) ?_
    · refine ⟨_, rfl, L, rfl, ⟨_, .of hL⟩, fun D nD => lc_list (K := K) (a := L) (xs := (bs.map barS).map V.str) (fun i H' => Same H1 H' ∧ RowAt K H' D (bs.take i)) ⟨same_upd nD, [], upd_same, .nil⟩ ?_ ?_ ?_⟩
      · rintro i H' _ ⟨s', _⟩
        exact .of (s' _ _ hL)
      · rintro i v H' hv ⟨s', ws, e, hws⟩
        rw [List.getElem?_map, List.getElem?_map] at hv
        cases hx : bs[i]? with
        | none =>
          rw [hx] at hv
          cases hv
        | some x =>
          rw [hx] at hv
          obtain rfl : V.str (barS x) = v := Option.some.inj hv
          refine ⟨rfl, _, rfl, x, rfl, ok x (List.mem_of_getElem? hx), fun H2 c s2 nc hc => ?_⟩
          have hD' := s2 _ _ e
          obtain ⟨row6, f6⟩ := row_app (b := x) hD' (dpa_same s2 hws) (dp_bar_of (.of hc))
          refine ⟨ws, hD', ?_, same_updR (s'.trans s2) nD, ?_⟩
          · rw [bars_len hws, List.length_take]
            omega
          · rw [take_at hx]
            exact row6
      · rintro H2 ⟨s2, row2⟩
        rw [List.length_map, List.length_map, List.take_length] at row2
        exact make_part (.inr ⟨D, rfl, row2.dp⟩) ok hl fun H3 p q s3 np nq npq hp3 => cont _ _ ⟨p, q, _, rfl, s2.trans s3, hp3, s2.free np, s2.free nq, npq⟩
    rintro σ' H3 ⟨p, q, y, rfl, s13, hp3, np, nq, npq⟩
    -- need
    with_reducible refine seq_cont (fun σ' G => σ' = [some (.str (saveS bs)), some (.ref L), some (.ref p), y] ∧ Same H3 G) (fun cont => ?_) ?_
    · exact ⟨_, rfl, p, q, bs, [], rfl, hp3, ok, by omega, fun H4 s4 => ⟨_, rfl, rfl, by rw [decide_eq_true rfl]; rfl, cont _ _ ⟨rfl, s4⟩⟩⟩
    rintro σ' H4 ⟨rfl, s34⟩
    exact ⟨_, rfl, z H4 p q ((s1.trans s13).trans s34) (s1.free np) (s1.free nq) npq (hp3.same s34)⟩
theorem eqv_bar (a b : Bar) : PyData.eqv (barD a) (barD b) = true ↔ a = b := by
  obtain ⟨w, x, r⟩ := a
  obtain ⟨w', x', r'⟩ := b
  simp [barD, PyData.eqv, PyData.eqvAll]
theorem eqv_bars (xs ys : List Bar) : PyData.eqv (.list (barsD xs)) (.list (barsD ys)) = decide (xs = ys) := by
  rw [Bool.eq_iff_iff, decide_eq_true_iff]
  exact eqv_listM eqv_bar xs ys
theorem shp_bar (b : Bar) : Shp 1 (barD b) := shp_tup (shpA_cons (shp_int _) (shpA_cons (shp_int _) (shpA_cons (shp_bool _) shpA_nil)))
theorem shp_bars (bs : List Bar) : Shp 2 (.list (barsD bs)) := shp_list (shpA_all fun d hd => by
  obtain ⟨b, _, rfl⟩ := List.mem_map.mp hd
  exact shp_bar b)
theorem sc_Part_eq : FnScope ["self", "other"] ["self", "other"] (defScope s_Part_eq) := ⟨rfl, rfl, rfl, by decide +kernel, rfl, by decide +kernel, by decide +kernel⟩
section
variable {K : PySem.W.Frag} {mg : Str → Option Value}
theorem b_Part_eq (T : Txt K mg) : Binds K (fdOf K ("Part", some "__eq__")) ["self", "other"] [] := T.Part_eq.bindsN fun _ _ _ _ _ _ us hl => match us, hl with | [_, _], _ => rfl
end
def sp_Part_eq (K : PySem.W.Frag) : Sp := fun vs H Q _ => ∃ (p q : Addr) (bs : List Bar) (past : List (List Bar)) (y : V), vs = [.ref p, y] ∧ PartX K H p q bs past ∧
  ((∃ (p' q' : Addr) (bs' : List Bar) (past' : List (List Bar)), y = .ref p' ∧ PartX K H p' q' bs' past' ∧ Q (.bl (decide (bs = bs'))) H) ∨ ∃ d, Dp K H y d ∧ Q (.bl false) H)
theorem part_ty {K : PySem.W.Frag} {mg : Str → Option Value} (T : Txt K mg) {H : Hp} {p dx : Addr} {fs : List (Str × V)} (h : H p = some (.ins (pC K) dx fs)) : TyX K H (.ref p) (.ref (pC K)) := .base (.ins h T.cl_Part T.k_class T.k_get T.k_takes T.k_mro)
theorem kit_part {K : PySem.W.Frag} {mg : Str → Option Value} (T : Txt K mg) {H : Hp} {v : V} {d : PyData} (h : Dp K H v d) : PySem.W.kitOne K (.type (tyD d)) (.ref (pC K)) = some false := by
  cases h with
  | non => exact T.k_NoneType
  | bl b => exact T.k_bool
  | int i => exact T.k_int
  | str x => exact T.k_str
  | lst _ _ => exact T.k_list
  | tup _ _ => exact T.k_tuple
theorem first_part {K : PySem.W.Frag} {mg : Str → Option Value} (T : Txt K mg) {H : Hp} {v : V} {d : PyData} (h : Dp K H v d) : PySem.W.notFirst K (pC K) (.type (tyD d)) = true := by
  cases h with
  | non => exact T.k_first_NoneType
  | bl b => exact T.k_first_bool
  | int i => exact T.k_first_int
  | str x => exact T.k_first_str
  | lst _ _ => exact T.k_first_list
  | tup _ _ => exact T.k_first_tuple
theorem ok_Part_eq {P : Program} {w : World} {K : PySem.W.Frag} {mg : Str → Option Value} {base : Heap} (T : Txt K mg) : OkF P w K mg base CX0 1 ("Part", some "__eq__") ["self", "other"] (sp_Part_eq K) := by
  refine okN T.Part_eq sc_Part_eq (fun vs H Q E h => ?_) (fun cdv A outer s H vs Q E hr h => ?_)
  · obtain ⟨p, q, bs, past, y, rfl, _⟩ := h
    rfl
  · obtain ⟨p, q, bs, past, y, rfl, hp, hy⟩ := h
    obtain ⟨dx, r, ws, h1, n, h2, _⟩ := hp
    refine ⟨_, (pss_one (ps_ret (pe_and (pe_callB call_isi (by rfl) T.b_isinstance (by decide +kernel) (pa_cons (pv 1) (pa_cons (pe_glob (v := .ref (He.ga K "Part")) (by rfl) T.g_Part rfl) pa_nil))) (pe_one (pe_cmpR (op_eqD hr.units) (pe_fld (pv 0) rfl) (pe_fld (pv 1) rfl) (nomark _)))))), ?_⟩
    rcases hy with ⟨p', q', bs', past', rfl, hp', k⟩ | ⟨d, hd, k⟩
    · obtain ⟨dx', r', ws', h1', n', h2', _⟩ := hp'
      refine ⟨_, rfl, _, _, _, _, _, rfl, .own _, part_ty T h1', T.k_self, _, rfl, ?_⟩
      refine iteT ⟨_, rfl, p, _, dx, _, _, rfl, h1, T.cl_Part, T.n_row, pf_row, _, rfl, p', _, dx', _, _, rfl, h1', T.cl_Part, T.n_row, pf_row, _, _, h2.dp, h2'.dp, (shp_bars bs).ok (by decide), (shp_bars bs').ok (by decide), ?_⟩
      rw [eqv_bars]
      exact k
    · refine ⟨_, rfl, _, _, _, _, _, rfl, .own _, dp_ty hd, kit_part T hd, _, rfl, iteF k⟩
section
variable {X : Cx}
/-- what == asks of the other one -/
def OthP (K : PySem.W.Frag) (H : Hp) (y : V) : Prop := (∃ b dy gs, y = .ref b ∧ H b = some (.ins (pC K) dy gs)) ∨ ∃ d, Dp K H y d
theorem oth_ty (T : Txt X.K X.mg) {pins : List (Addr × Obj)} {σ : L2.St} {H : Hp} {s : Shared} {y : V} {u : Value} (I : Inv X pins σ H s) (r : RelV y u) (h : OthP X.K H y) : ∃ tb, PySem.W.Looks (model X.prog X.w) s.heap (typeOf u) tb ∧ PySem.W.notFirst X.K (pC X.K) tb = true := by
  rcases h with ⟨b, dy, gs, rfl, hb⟩ | ⟨d, hd⟩
  · obtain ⟨P, Z, p, _⟩ := kit_of I r (part_ty T hb)
    exact ⟨_, Z.ty _ _ I.kIn p, by simp [PySem.W.notFirst]⟩
  · obtain ⟨P, Z, p, _⟩ := kit_of I r (dp_ty hd)
    exact ⟨_, Z.ty _ _ I.kIn p, first_part T hd⟩
def rEqP (K : PySem.W.Frag) (sp : Sp) : R2 := fun x y H Q => ∃ p dx fs, x = .ref p ∧ H p = some (.ins (pC K) dx fs) ∧ OthP K H y ∧ sp [x, y] H (fun v H' => ∃ b, v = .bl b ∧ Q (.bl b) H') E0
def rNeP (K : PySem.W.Frag) (sp : Sp) : R2 := fun x y H Q => ∃ p dx fs, x = .ref p ∧ H p = some (.ins (pC K) dx fs) ∧ OthP K H y ∧ sp [x, y] H (fun v H' => ∃ b, v = .bl b ∧ Q (.bl (!b)) H') E0
theorem b_eq2 (T : Txt X.K X.mg) : Binds X.K (fdOf X.K ("Part", some "__eq__")) ["self", "other"] [] := b_Part_eq T
theorem op_eqP {n : Nat} {sp : Sp} (T : Txt X.K X.mg) (F : FnOk X.prog X.w X.K X.mg X.base CX0 n (He.fAd X.K ("Part", some "__eq__")) (fdOf X.K ("Part", some "__eq__")) ["self", "other"] sp) (hr : Room n X.A) : OpR X (compareOp .Eq) (rEqP X.K sp) := by
  intro pins s σ H x y v u Q I rx ry h
  obtain ⟨p, dx, fs, rfl, hp, ho, hs⟩ := h
  cases rx
  obtain ⟨mA, J, _⟩ := ins_get I.hok hp
  obtain ⟨od, J, _⟩ := J.look
  obtain ⟨tb, hb, hn⟩ := oth_ty T I ry ho
  obtain ⟨m, hF⟩ := I.fr
  show wpAny (model X.prog X.w) X.A (richCompare .Eq (.ref p) u) (EP X pins σ Q) X.xe s
  refine PySem.W.cmp_K (op := .Eq) hr.units0 hF I.ok.mod.kin J hb hn T.m_Part_eq.at_ T.m_Part_eq.fn ?_
  refine wpAny_mono (run_at (vs := [.ref p, y]) (Q := fun v H' => ∃ b, v = .bl b ∧ Q (.bl b) H') (E := E0) F (b_eq2 T) I hr rfl (.cons rfl (.cons ry .nil)) hs) (fun r s' z => ?_) fun _ _ z => z
  obtain ⟨v', H', I', r', b, rfl, q⟩ := z
  cases r'
  exact ⟨.bl b, H', I', rfl, q⟩
theorem op_neP {n : Nat} {sp : Sp} (T : Txt X.K X.mg) (F : FnOk X.prog X.w X.K X.mg X.base CX0 n (He.fAd X.K ("Part", some "__eq__")) (fdOf X.K ("Part", some "__eq__")) ["self", "other"] sp) (hr : Room (n + 1) X.A) : OpR X (compareOp .NotEq) (rNeP X.K sp) := by
  intro pins s σ H x y v u Q I rx ry h
  obtain ⟨p, dx, fs, rfl, hp, ho, hs⟩ := h
  cases rx
  obtain ⟨mA, J, _⟩ := ins_get I.hok hp
  obtain ⟨od, J, _⟩ := J.look
  obtain ⟨tb, hb, hn⟩ := oth_ty T I ry ho
  show wpAny (model X.prog X.w) X.A (richCompare .NotEq (.ref p) u) (EP X pins σ Q) X.xe s
  refine ne_K (hu_of hr) I.kIn J hb hn T.k_ne T.k_mro T.m_Part_eq.at_ T.m_Part_eq.fn ?_
  refine wpAny_mono (run_at (vs := [.ref p, y]) (Q := fun v H' => ∃ b, v = .bl b ∧ Q (.bl (!b)) H') (E := E0) F (b_eq2 T) I hr.in1 rfl (.cons rfl (.cons ry .nil)) hs) (fun r s' z => ?_) fun _ _ z => z
  obtain ⟨v', H', I', r', b, rfl, q⟩ := z
  cases r'
  exact ⟨b, rfl, .bl (!b), H', I', rfl, q⟩
end
theorem sc_Part_becomes : FnScope ["self", "row"] ["self", "row"] (defScope s_Part_becomes) := ⟨rfl, rfl, rfl, by decide +kernel, rfl, by decide +kernel, by decide +kernel⟩
section
variable {K : PySem.W.Frag} {mg : Str → Option Value}
theorem b_Part_becomes (T : Txt K mg) : Binds K (fdOf K ("Part", some "becomes")) ["self", "row"] [] := T.Part_becomes.bindsN fun _ _ _ _ _ _ us hl => match us, hl with | [_, _], _ => rfl
end
def sp_Part_becomes (K : PySem.W.Frag) : Sp := fun vs H Q _ => ∃ (p q r' : Addr) (bs bs' : List Bar) (past : List (List Bar)), vs = [.ref p, .ref r'] ∧ PartX K H p q bs past ∧ r' ≠ q ∧ RowAt K H r' bs' ∧ past.length < 1000 ∧
  ∀ H', Fr [p, q] H H' → PartX K H' p q bs' (past ++ [bs]) → Q .non H'
theorem ok_Part_becomes {P : Program} {w : World} {K : PySem.W.Frag} {mg : Str → Option Value} {base : Heap} (T : Txt K mg) : OkF P w K mg base CX0 1 ("Part", some "becomes") ["self", "row"] (sp_Part_becomes K) := by
  refine okN T.Part_becomes sc_Part_becomes (fun vs H Q E h => ?_) (fun cdv A outer s H vs Q E hr h => ?_)
  · obtain ⟨p, q, r', bs, bs', past, rfl, _⟩ := h
    rfl
  · obtain ⟨p, q, r', bs, bs', past, rfl, hp, nr, hr', hl, k⟩ := h
    obtain ⟨dx, r, ws, h1, n, h2, h3, h4⟩ := hp
    refine ⟨_, (pss_cons (ps_expr (pe_bm PySem.F.plainAttrs_list PySem.F.slot_list_append PySem.F.type_list_append mt_append (pe_fld (pv 0) rfl) (pa_cons (pe_fld (pv 0) rfl) pa_nil)))
      (pss_one (ps_fld (pv 0) (pv 1) rfl))), ?_⟩
    have npq : p ≠ q := ne_of h1 h3 (by intro z; cases z)
    have f1 : Fr [p, q] H (upd H q (.lst (ws ++ [.ref r]))) := Fr.upd h3 trivial (by simp)
    have h1' : (upd H q (.lst (ws ++ [.ref r]))) p = some (.ins (pC K) dx (pf r q)) := by
      rw [upd_ne npq]
      exact h1
    refine ⟨_, rfl, p, _, dx, _, _, rfl, h1, T.cl_Part, T.n_past, pf_past, .inl ⟨rfl, _, .of h3⟩, _, rfl, p, _, dx, _, _, rfl, h1, T.cl_Part, T.n_row, pf_row, q, ws, _, rfl, rfl, h3, ?_, ?_⟩
    · rw [h4.len]
      exact small1000 (by omega)
    · refine ⟨_, rfl, _, rfl, p, _, dx, _, rfl, h1', T.cl_Part, T.n_row, pf_len, ?_⟩
      have f2 : Fr [p, q] (upd H q (.lst (ws ++ [.ref r]))) (upd (upd H q (.lst (ws ++ [.ref r]))) p (.ins (pC K) dx (pf r' q))) := Fr.upd h1' trivial (by simp)
      have np : ∀ r bs, RowAt K H r bs → r ≠ p := fun r bs ⟨vs, z, _⟩ => ne_of z h1 (by intro z; cases z)
      have f := f1.trans f2
      refine k _ f ⟨dx, r', ws ++ [.ref r], upd_same, nr, hr'.fr f ?_, ?_, ?_⟩
      · simp [nr, np _ _ hr']
      · rw [upd_ne npq.symm, upd_same]
      · refine Rows.imp (h4.snoc n h2) fun r bs nq z => z.fr f ?_
        simp [nq, np _ _ z]
theorem sc_beats_of : FnScope ["row", "found", "width", "beats", "rests"] ["row"] (defScope s_beats_of) := ⟨rfl, rfl, rfl, by decide +kernel, rfl, by decide +kernel, by decide +kernel⟩
section
variable {K : PySem.W.Frag} {mg : Str → Option Value}
theorem b_beats_of (T : Txt K mg) : Binds K (fdOf K ("beats_of", none)) ["row"] [] := T.beats_of.bindsN fun _ _ _ _ _ _ us hl => match us, hl with | [_], _ => rfl
end
def sp_beats_of (K : PySem.W.Frag) : Sp := fun vs H Q _ => ∃ (a : Addr) (bs : List Bar), vs = [.ref a] ∧ Dp K H (.ref a) (.list (barsD bs)) ∧ Q (.int (beatsOf bs)) H
theorem ok_beats_of {P : Program} {w : World} {K : PySem.W.Frag} {mg : Str → Option Value} {base : Heap} (T : Txt K mg) : OkF P w K mg base CX0 1 ("beats_of", none) ["row"] (sp_beats_of K) := by
  refine okN T.beats_of sc_beats_of (fun vs H Q E h => ?_) (fun cdv A outer s H vs Q E hr h => ?_)
  · obtain ⟨a, bs, rfl, _⟩ := h
    rfl
  · obtain ⟨a, bs, rfl, hd, q⟩ := h
    obtain ⟨xs, hs, ha⟩ := lst_bars hd
    refine ⟨_, (pss_cons (ps_set (i := 1) sc_beats_of.nd rfl (by first | exact Or.inl rfl | exact Or.inr rfl) pe_int)
      (pss_cons (ps_for PassesOwn.never rfl (pi_list (pv 0)) (pg_tup rfl (pgs_cons (pg_name (i := 2) sc_beats_of.nd rfl (by first | exact Or.inl rfl | exact Or.inr rfl)) (pgs_cons (pg_name (i := 3) sc_beats_of.nd rfl (by first | exact Or.inl rfl | exact Or.inr rfl)) (pgs_cons (pg_name (i := 4) sc_beats_of.nd rfl (by first | exact Or.inl rfl | exact Or.inr rfl)) pgs_nil))))
      (pss_cons (ps_if (pt_not (pt_val (pv 4))) (pss_one (ps_ret (pv 1))) pss_nil)
      (pss_one (ps_set (i := 1) sc_beats_of.nd rfl (by first | exact Or.inl rfl | exact Or.inr rfl) (pe_op op_add (pv 1) (pv 3))))))
      (pss_one (ps_ret (pv 1))))), ?_⟩
    refine ⟨_, rfl, a, rfl, ⟨_, hs⟩, for_list (xs := xs) (fun i σ H' => H' = H ∧ ∃ f y2 y3 y4, σ = [some (.ref a), some (.int f), y2, y3, y4] ∧ f + beatsOf (bs.drop i) = beatsOf bs) ⟨rfl, 0, none, none, none, rfl, ?_⟩ ?_ ?_ ?_⟩
    · show 0 + beatsOf bs = beatsOf bs
      omega
    · rintro i σ H' _ ⟨rfl, _⟩
      exact hs
    · rintro i x σ H' hx ⟨rfl, f, y2, y3, y4, rfl, e⟩
      obtain ⟨b, p, hb, rfl, hp⟩ := bar_at ha hx
      refine ⟨p, _, rfl, hp, rfl, _, _, rfl, _, _, rfl, _, _, rfl, rfl, ?_⟩
      rw [drop_at hb] at e
      refine ⟨_, rfl, _, rfl, ?_⟩
      replace e : f + (if b.r = true then b.b + beatsOf (bs.drop (i + 1)) else 0) = beatsOf bs := e
      cases hr : b.r with
      | true =>
        rw [hr, if_pos rfl] at e
        refine iteF ⟨_, rfl, _, rfl, _, _, rfl, rfl, rfl, _, _, _, _, rfl, ?_⟩
        omega
      | false =>
        rw [hr, if_neg Bool.false_ne_true] at e
        refine iteT ⟨_, rfl, ?_⟩
        rw [show f = beatsOf bs by omega]
        exact q
    · rintro σ H' ⟨rfl, f, y2, y3, y4, rfl, e⟩
      rw [bars_len ha, List.drop_length] at e
      refine ⟨_, rfl, ?_⟩
      rw [show f = beatsOf bs by
        have e2 : f + 0 = beatsOf bs := e
        omega]
      exact q
theorem sc_Part_ahead : FnScope ["self", "at"] ["self", "at"] (defScope s_Part_ahead) := ⟨rfl, rfl, rfl, by decide +kernel, rfl, by decide +kernel, by decide +kernel⟩
section
variable {K : PySem.W.Frag} {mg : Str → Option Value}
theorem b_Part_ahead (T : Txt K mg) : Binds K (fdOf K ("Part", some "ahead")) ["self", "at"] [] := T.Part_ahead.bindsN fun _ _ _ _ _ _ us hl => match us, hl with | [_, _], _ => rfl
end
def sp_Part_ahead (K : PySem.W.Frag) : Sp := fun vs H Q _ => ∃ (p q : Addr) (k : Nat) (bs : List Bar) (past : List (List Bar)), vs = [.ref p, .int (k : Int)] ∧ PartX K H p q bs past ∧ ∀ H', Same H H' → Q (.int (beatsOf (bs.take k).reverse)) H'
theorem ok_Part_ahead {P : Program} {w : World} {K : PySem.W.Frag} {mg : Str → Option Value} {base : Heap} (T : Txt K mg) : OkF P w K mg base CX0 2 ("Part", some "ahead") ["self", "at"] (sp_Part_ahead K) := by
  refine okN T.Part_ahead sc_Part_ahead (fun vs H Q E h => ?_) (fun cdv A outer s H vs Q E hr h => ?_)
  · obtain ⟨p, q, k, bs, past, rfl, _⟩ := h
    rfl
  · obtain ⟨p, q, k, bs, past, rfl, hp, z⟩ := h
    obtain ⟨dx, r, ws, h1, n, ⟨vs, h2, h3⟩, _⟩ := hp
    refine ⟨_, (pss_one (ps_ret (pe_call (ok_beats_of T) (hr.mono (by decide)) (by rfl) T.g_beats_of T.beats_of.kp (b_beats_of T) .nil pass0 (pa_cons (pe_revL (pe_slice sl_list (pe_fld (pv 0) rfl) po_none (po_some (pv 1)))) pa_nil)))), ?_⟩
    refine ⟨_, rfl, p, _, dx, _, _, rfl, h1, T.cl_Part, T.n_row, pf_row, _, rfl, _, rfl, r, vs, rfl, .of h2, fun c nc => ?_⟩
    rw [cut_take]
    have s1 : Same H (upd H c (.lst (vs.take k))) := same_upd nc
    refine ⟨c, _, rfl, .of upd_same, fun e ne => ?_⟩
    have s2 := s1.trans (same_upd (o := .lst (vs.take k).reverse) ne)
    refine ⟨e, (bs.take k).reverse, rfl, .lst (.of upd_same) ?_, z _ s2⟩
    show DpAll K _ _ (((bs.take k).reverse).map barD)
    rw [List.map_reverse, List.map_take]
    exact dpa_rev (dpa_take k (dpa_same s2 h3))
theorem sc_Part_behind : FnScope ["self", "at"] ["self", "at"] (defScope s_Part_behind) := ⟨rfl, rfl, rfl, by decide +kernel, rfl, by decide +kernel, by decide +kernel⟩
section
variable {K : PySem.W.Frag} {mg : Str → Option Value}
theorem b_Part_behind (T : Txt K mg) : Binds K (fdOf K ("Part", some "behind")) ["self", "at"] [] := T.Part_behind.bindsN fun _ _ _ _ _ _ us hl => match us, hl with | [_, _], _ => rfl
end
def sp_Part_behind (K : PySem.W.Frag) : Sp := fun vs H Q _ => ∃ (p q : Addr) (k : Nat) (bs : List Bar) (past : List (List Bar)), vs = [.ref p, .int (k : Int)] ∧ PartX K H p q bs past ∧ ∀ H', Same H H' → Q (.int (beatsOf (bs.drop k))) H'
theorem ok_Part_behind {P : Program} {w : World} {K : PySem.W.Frag} {mg : Str → Option Value} {base : Heap} (T : Txt K mg) : OkF P w K mg base CX0 2 ("Part", some "behind") ["self", "at"] (sp_Part_behind K) := by
  refine okN T.Part_behind sc_Part_behind (fun vs H Q E h => ?_) (fun cdv A outer s H vs Q E hr h => ?_)
  · obtain ⟨p, q, k, bs, past, rfl, _⟩ := h
    rfl
  · obtain ⟨p, q, k, bs, past, rfl, hp, z⟩ := h
    obtain ⟨dx, r, ws, h1, n, ⟨vs, h2, h3⟩, _⟩ := hp
    refine ⟨_, (pss_one (ps_ret (pe_call (ok_beats_of T) (hr.mono (by decide)) (by rfl) T.g_beats_of T.beats_of.kp (b_beats_of T) .nil pass0 (pa_cons (pe_slice sl_list (pe_fld (pv 0) rfl) (po_some (pv 1)) po_none) pa_nil)))), ?_⟩
    refine ⟨_, rfl, p, _, dx, _, _, rfl, h1, T.cl_Part, T.n_row, pf_row, _, rfl, _, rfl, r, vs, rfl, .of h2, fun c nc => ?_⟩
    rw [cut_drop]
    have s1 : Same H (upd H c (.lst (vs.drop k))) := same_upd nc
    refine ⟨c, bs.drop k, rfl, .lst (.of upd_same) ?_, z _ s1⟩
    show DpAll K _ _ ((bs.drop k).map barD)
    rw [List.map_drop]
    exact dpa_drop k (dpa_same s1 h3)
theorem sc_Part_rest : FnScope ["self", "at"] ["self", "at"] (defScope s_Part_rest) := ⟨rfl, rfl, rfl, by decide +kernel, rfl, by decide +kernel, by decide +kernel⟩
section
variable {K : PySem.W.Frag} {mg : Str → Option Value}
theorem b_Part_rest (T : Txt K mg) : Binds K (fdOf K ("Part", some "rest")) ["self", "at"] [] := T.Part_rest.bindsN fun _ _ _ _ _ _ us hl => match us, hl with | [_, _], _ => rfl
end
def sp_Part_rest (K : PySem.W.Frag) : Sp := fun vs H Q _ => ∃ (p q : Addr) (k : Nat) (bs : List Bar) (past : List (List Bar)), vs = [.ref p, .int (k : Int)] ∧ PartX K H p q bs past ∧ k ≤ bs.length ∧ ∀ H', Same H H' → Q (.int (restOf bs k)) H'
theorem isNum_nat {k n : Nat} (h : k ≤ n) : isNum (.int (k : Int)) 0 (n : Int) = true := by
  show (decide ((0 : Int) ≤ (k : Int)) && decide ((k : Int) ≤ (n : Int))) = true
  rw [decide_eq_true (by omega), decide_eq_true (by omega)]
  rfl
theorem ok_Part_rest {P : Program} {w : World} {K : PySem.W.Frag} {mg : Str → Option Value} {base : Heap} (T : Txt K mg) : OkF P w K mg base CX0 3 ("Part", some "rest") ["self", "at"] (sp_Part_rest K) := by
  refine okN T.Part_rest sc_Part_rest (fun vs H Q E h => ?_) (fun cdv A outer s H vs Q E hr h => ?_)
  · obtain ⟨p, q, k, bs, past, rfl, _⟩ := h
    rfl
  · obtain ⟨p, q, k, bs, past, rfl, hp, hk, z⟩ := h
    obtain ⟨dx, r, ws, h1, n, ⟨vs, h2, h3⟩, _⟩ := id hp
    refine ⟨_, (pss_cons (ps_if (pt_not (pt_val (pe_call (ok_is_number T) (hr.mono (by decide)) (by rfl) T.g_is_number T.is_number.kp (b_is_number T) .nil pass0 (pa_cons (pv 1) (pa_cons pe_int (pa_cons (pe_callB call_len (by rfl) T.b_len PySem.boot_len (pa_cons (pe_fld (pv 0) rfl) pa_nil)) pa_nil)))))) pss_never pss_nil)
      (pss_one (ps_ret (pe_op op_add (pe_meth (pv 0) T.cl_Part T.m_Part_ahead (ok_Part_ahead T) (hr.mono (by decide)) (b_Part_ahead T) .nil pass0 (pa_cons (pv 1) pa_nil)) (pe_meth (pv 0) T.cl_Part T.m_Part_behind (ok_Part_behind T) (hr.mono (by decide)) (b_Part_behind T) .nil pass0 (pa_cons (pv 1) pa_nil)))))), ?_⟩
    refine ⟨_, rfl, _, rfl, p, _, dx, _, _, rfl, h1, T.cl_Part, T.n_row, pf_row, _, _, rfl, .inl ⟨_, .of h2, rfl⟩, _, .int (k : Int), _, _, rfl, .int _, _, rfl, ?_⟩
    rw [bars_len h3, isNum_nat hk]
    refine iteF ⟨_, rfl, p, dx, _, rfl, h1, pf_no (by decide +kernel) (by decide +kernel), _, rfl, p, q, k, bs, past, rfl, hp, fun H1 s1 => ?_⟩
    refine ⟨_, rfl, p, dx, _, rfl, s1 _ _ h1, pf_no (by decide +kernel) (by decide +kernel), _, rfl, p, q, k, bs, past, rfl, hp.same s1, fun H2 s2 => ?_⟩
    exact ⟨_, _, rfl, rfl, z _ (s1.trans s2)⟩
theorem sc_Part_put : FnScope ["self", "at", "bar"] ["self", "at", "bar"] (defScope s_Part_put) := ⟨rfl, rfl, rfl, by decide +kernel, rfl, by decide +kernel, by decide +kernel⟩
section
variable {K : PySem.W.Frag} {mg : Str → Option Value}
theorem b_Part_put (T : Txt K mg) : Binds K (fdOf K ("Part", some "put")) ["self", "at", "bar"] [] := T.Part_put.bindsN fun _ _ _ _ _ _ us hl => match us, hl with | [_, _, _], _ => rfl
end
def sp_Part_put (K : PySem.W.Frag) : Sp := fun vs H Q _ => ∃ (p q : Addr) (k : Nat) (v : V) (b : Bar) (bs : List Bar) (past : List (List Bar)), vs = [.ref p, .int (k : Int), v] ∧ PartX K H p q bs past ∧ k ≤ bs.length ∧ Dp K H v (barD b) ∧ BarOk b ∧ bs.length < 40 ∧ past.length < 1000 ∧
  ∀ H', Fr [p, q] H H' → PartX K H' p q (bs.take k ++ [b] ++ bs.drop k) (past ++ [bs]) → Q .non H'
theorem ok_Part_put {P : Program} {w : World} {K : PySem.W.Frag} {mg : Str → Option Value} {base : Heap} (T : Txt K mg) : OkF P w K mg base CX0 3 ("Part", some "put") ["self", "at", "bar"] (sp_Part_put K) := by
  refine okN T.Part_put sc_Part_put (fun vs H Q E h => ?_) (fun cdv A outer s H vs Q E hr h => ?_)
  · obtain ⟨p, q, k, v, b, bs, past, rfl, _⟩ := h
    rfl
  · obtain ⟨p, q, k, v, b, bs, past, rfl, hp, hk, hb, ok, hl, hpl, z⟩ := h
    obtain ⟨dx, r, ws, h1, n, ⟨vs, h2, h3⟩, h4, h5⟩ := id hp
    have hlv := bars_len h3
    refine ⟨_, (pss_cons (ps_if (pt_not (pt_val (pe_call (ok_is_number T) (hr.mono (by decide)) (by rfl) T.g_is_number T.is_number.kp (b_is_number T) .nil pass0 (pa_cons (pv 1) (pa_cons pe_int (pa_cons (pe_callB call_len (by rfl) T.b_len PySem.boot_len (pa_cons (pe_fld (pv 0) rfl) pa_nil)) pa_nil)))))) pss_never pss_nil)
      (pss_cons (ps_if (pt_not (pt_val (pe_call (ok_is_bar T) (hr.mono (by decide)) (by rfl) T.g_is_bar T.is_bar.kp (b_is_bar T) .nil pass0 (pa_cons (pv 2) pa_nil)))) pss_never pss_nil)
      (pss_cons (ps_if (pt_cmpR op_eq (pe_callB call_len (by rfl) T.b_len PySem.boot_len (pa_cons (pe_fld (pv 0) rfl) pa_nil)) (pe_glob (v := .int 40) (by rfl) T.c_MOST.choose_spec ⟨_, rfl⟩) (nomark _)) pss_never pss_nil)
      (pss_one (ps_expr (pe_meth (pv 0) T.cl_Part T.m_Part_becomes (ok_Part_becomes T) (hr.mono (by decide)) (b_Part_becomes T) .nil pass0 (pa_cons (pe_op op_cat (pe_op op_cat (pe_slice sl_list (pe_fld (pv 0) rfl) po_none (po_some (pv 1))) (pe_lst (pa_cons (pv 2) pa_nil))) (pe_slice sl_list (pe_fld (pv 0) rfl) (po_some (pv 1)) po_none)) pa_nil))))))), ?_⟩
    refine ⟨_, rfl, _, rfl, p, _, dx, _, _, rfl, h1, T.cl_Part, T.n_row, pf_row, _, _, rfl, .inl ⟨_, .of h2, rfl⟩, _, .int (k : Int), _, _, rfl, .int _, _, rfl, ?_⟩
    rw [hlv, isNum_nat hk]
    refine iteF ⟨_, rfl, _, _, rfl, hb, _, rfl, ?_⟩
    rw [isBar_bar ok]
    refine iteF ⟨_, rfl, p, _, dx, _, _, rfl, h1, T.cl_Part, T.n_row, pf_row, _, _, rfl, .inl ⟨_, .of h2, rfl⟩, rfl, _, rfl, ?_⟩
    refine iteNQ (by rw [hlv]; omega) ?_
    refine ⟨_, rfl, p, dx, _, rfl, h1, pf_no (by decide +kernel) (by decide +kernel), ?_⟩
    refine ⟨_, rfl, p, _, dx, _, _, rfl, h1, T.cl_Part, T.n_row, pf_row, _, rfl, _, rfl, r, vs, rfl, .of h2, fun c1 n1 => ?_⟩
    rw [cut_take]
    have s1 : Same H (upd H c1 (.lst (vs.take k))) := same_upd n1
    refine ⟨_, rfl, by show (1 : Nat) ≤ sizeLine; decide, fun c2 n2 => ?_⟩
    have s2 := s1.trans (same_upd (o := .lst [v]) n2)
    have ne12 : c1 ≠ c2 := ne_of_none upd_same n2
    refine ⟨c1, c2, vs.take k, [v], rfl, rfl, by rw [upd_ne ne12, upd_same], upd_same, ?_, fun c3 n3 => ?_⟩
    · rw [List.length_take]
      show min k vs.length + 1 ≤ sizeLine
      exact Nat.le_of_lt (small1000 (by omega))
    have s3 := s2.trans (same_upd (o := .lst (vs.take k ++ [v])) n3)
    refine ⟨_, rfl, p, _, dx, _, _, rfl, s3 _ _ h1, T.cl_Part, T.n_row, pf_row, _, rfl, _, rfl, r, vs, rfl, .of (s3 _ _ h2), fun c4 n4 => ?_⟩
    rw [cut_drop]
    have s4 := s3.trans (same_upd (o := .lst (vs.drop k)) n4)
    have ne34 : c3 ≠ c4 := ne_of_none upd_same n4
    refine ⟨c3, c4, vs.take k ++ [v], vs.drop k, rfl, rfl, by rw [upd_ne ne34, upd_same], upd_same, ?_, fun c5 n5 => ?_⟩
    · rw [List.length_append, List.length_take, List.length_drop]
      show min k vs.length + 1 + (vs.length - k) ≤ sizeLine
      exact Nat.le_of_lt (small1000 (by omega))
    have s5 := s4.trans (same_upd (o := .lst (vs.take k ++ [v] ++ vs.drop k)) n5)
    refine ⟨p, q, c5, bs, bs.take k ++ [b] ++ bs.drop k, past, rfl, hp.same s5, ?_, ⟨_, upd_same, ?_⟩, hpl, fun H' f hp' => z H' ?_ hp'⟩
    · exact fun e => by
        have e5 := s5.free (l := c5) 
        have := s4 _ _ h4
        rw [← e, n5] at this
        cases this
    · show DpAll K _ _ ((bs.take k ++ [b] ++ bs.drop k).map barD)
      rw [List.map_append, List.map_append, List.map_take, List.map_drop]
      exact dpa_app (dpa_app (dpa_take k (dpa_same s5 h3)) (.cons (dp_same s5 hb) .nil)) (dpa_drop k (dpa_same s5 h3))
    · exact (Fr.of s5 _).trans f
theorem sc_Part_drop : FnScope ["self", "at"] ["self", "at"] (defScope s_Part_drop) := ⟨rfl, rfl, rfl, by decide +kernel, rfl, by decide +kernel, by decide +kernel⟩
section
variable {K : PySem.W.Frag} {mg : Str → Option Value}
theorem b_Part_drop (T : Txt K mg) : Binds K (fdOf K ("Part", some "drop")) ["self", "at"] [] := T.Part_drop.bindsN fun _ _ _ _ _ _ us hl => match us, hl with | [_, _], _ => rfl
end
def sp_Part_drop (K : PySem.W.Frag) : Sp := fun vs H Q _ => ∃ (p q : Addr) (k : Nat) (bs : List Bar) (past : List (List Bar)), vs = [.ref p, .int (k : Int)] ∧ PartX K H p q bs past ∧ k < bs.length ∧ bs.length ≤ 40 ∧ past.length < 1000 ∧
  ∀ H', Fr [p, q] H H' → PartX K H' p q (bs.take k ++ bs.drop (k + 1)) (past ++ [bs]) → Q .non H'
theorem ok_Part_drop {P : Program} {w : World} {K : PySem.W.Frag} {mg : Str → Option Value} {base : Heap} (T : Txt K mg) : OkF P w K mg base CX0 3 ("Part", some "drop") ["self", "at"] (sp_Part_drop K) := by
  refine okN T.Part_drop sc_Part_drop (fun vs H Q E h => ?_) (fun cdv A outer s H vs Q E hr h => ?_)
  · obtain ⟨p, q, k, bs, past, rfl, _⟩ := h
    rfl
  · obtain ⟨p, q, k, bs, past, rfl, hp, hk, hl, hpl, z⟩ := h
    obtain ⟨dx, r, ws, h1, n, ⟨vs, h2, h3⟩, h4, h5⟩ := id hp
    have hlv := bars_len h3
    refine ⟨_, (pss_cons (ps_if (pt_not (pt_val (pe_call (ok_is_number T) (hr.mono (by decide)) (by rfl) T.g_is_number T.is_number.kp (b_is_number T) .nil pass0 (pa_cons (pv 1) (pa_cons pe_int (pa_cons (pe_op op_sub (pe_callB call_len (by rfl) T.b_len PySem.boot_len (pa_cons (pe_fld (pv 0) rfl) pa_nil)) pe_int) pa_nil)))))) pss_never pss_nil)
      (pss_one (ps_expr (pe_meth (pv 0) T.cl_Part T.m_Part_becomes (ok_Part_becomes T) (hr.mono (by decide)) (b_Part_becomes T) .nil pass0 (pa_cons (pe_op op_cat (pe_slice sl_list (pe_fld (pv 0) rfl) po_none (po_some (pv 1))) (pe_slice sl_list (pe_fld (pv 0) rfl) (po_some (pe_op op_add (pv 1) pe_int)) po_none)) pa_nil))))), ?_⟩
    refine ⟨_, rfl, _, rfl, p, _, dx, _, _, rfl, h1, T.cl_Part, T.n_row, pf_row, _, _, rfl, .inl ⟨_, .of h2, rfl⟩, _, _, rfl, rfl, _, .int (k : Int), _, _, rfl, .int _, _, rfl, ?_⟩
    rw [hlv, show ((bs.length : Nat) : Int) - 1 = ((bs.length - 1 : Nat) : Int) by omega, isNum_nat (by omega)]
    refine iteF ⟨_, rfl, p, dx, _, rfl, h1, pf_no (by decide +kernel) (by decide +kernel), ?_⟩
    refine ⟨_, rfl, p, _, dx, _, _, rfl, h1, T.cl_Part, T.n_row, pf_row, _, rfl, _, rfl, r, vs, rfl, .of h2, fun c1 n1 => ?_⟩
    rw [cut_take]
    have s1 : Same H (upd H c1 (.lst (vs.take k))) := same_upd n1
    refine ⟨_, rfl, p, _, dx, _, _, rfl, s1 _ _ h1, T.cl_Part, T.n_row, pf_row, _, rfl, _, _, rfl, rfl, _, rfl, r, vs, rfl, .of (s1 _ _ h2), fun c2 n2 => ?_⟩
    rw [show (k : Int) + 1 = ((k + 1 : Nat) : Int) by omega, cut_drop]
    have s2 := s1.trans (same_upd (o := .lst (vs.drop (k + 1))) n2)
    have ne12 : c1 ≠ c2 := ne_of_none upd_same n2
    refine ⟨c1, c2, vs.take k, vs.drop (k + 1), rfl, rfl, by rw [upd_ne ne12, upd_same], upd_same, ?_, fun c3 n3 => ?_⟩
    · rw [List.length_take, List.length_drop]
      exact Nat.le_of_lt (small1000 (by omega))
    have s3 := s2.trans (same_upd (o := .lst (vs.take k ++ vs.drop (k + 1))) n3)
    refine ⟨p, q, c3, bs, bs.take k ++ bs.drop (k + 1), past, rfl, hp.same s3, ?_, ⟨_, upd_same, ?_⟩, hpl, fun H' f hp' => z H' ?_ hp'⟩
    · exact fun e => by
        have := s2 _ _ h4
        rw [← e, n3] at this
        cases this
    · show DpAll K _ _ ((bs.take k ++ bs.drop (k + 1)).map barD)
      rw [List.map_append, List.map_take, List.map_drop]
      exact dpa_app (dpa_take k (dpa_same s3 h3)) (dpa_drop (k + 1) (dpa_same s3 h3))
    · exact (Fr.of s3 _).trans f
theorem sc_Part_take_back : FnScope ["self"] ["self"] (defScope s_Part_take_back) := ⟨rfl, rfl, rfl, by decide +kernel, rfl, by decide +kernel, by decide +kernel⟩
section
variable {K : PySem.W.Frag} {mg : Str → Option Value}
theorem b_Part_take_back (T : Txt K mg) : Binds K (fdOf K ("Part", some "take_back")) ["self"] [] := T.Part_take_back.bindsN fun _ _ _ _ _ _ us hl => match us, hl with | [_], _ => rfl
end
def spx_Part_take_back (K : PySem.W.Frag) : Sp := fun vs H _ E => ∃ (p q : Addr) (bs : List Bar), vs = [.ref p] ∧ PartX K H p q bs [] ∧ ∀ H', Same H H' → E (.ref (He.ga K "Nothing")) none H'
theorem okx_Part_take_back {P : Program} {w : World} {K : PySem.W.Frag} {mg : Str → Option Value} {base : Heap} (T : Txt K mg) : OkF P w K mg base (L2N.CX P w) 3 ("Part", some "take_back") ["self"] (spx_Part_take_back K) := by
  refine T.Part_take_back.ok sc_Part_take_back (fun vs H Q E h => ?_) (fun cdv A outer s H vs Q E hr h => ?_)
  · obtain ⟨p, q, bs, rfl, _⟩ := h
    rfl
  · obtain ⟨p, q, bs, rfl, hp, z⟩ := h
    obtain ⟨dx, r, ws, h1, n, ⟨vs, h2, h3⟩, h4, h5⟩ := id hp
    cases h5
    refine ⟨_, (pss_cons (ps_if (pt_cmpR (op_eqD hr.units) (pe_fld (pv 0) rfl) (pe_lst pa_nil) (nomark _)) (pss_one (ps_rais T (n := "Nothing") (by decide +kernel) T.g_Nothing (by rfl) (L2N.takes_of rfl rfl rfl rfl) rfl)) pss_nil)
      pss_never), ?_⟩
    refine ⟨_, rfl, p, _, dx, _, _, rfl, h1, T.cl_Part, T.n_past, pf_past, by show (0 : Nat) ≤ sizeLine; decide, fun c nc => ?_⟩
    have sc := same_upd (o := .lst []) nc
    refine ⟨.list [], .list [], .lst (.of (sc _ _ h4)) .nil, .lst (.of upd_same) .nil, by decide +kernel, by decide +kernel, _, rfl, ?_⟩
    exact iteT (z _ sc)
theorem sc__law_bar : FnScope ["dice", "width"] ["dice"] (defScope s__law_bar) := ⟨rfl, rfl, rfl, by decide +kernel, rfl, by decide +kernel, by decide +kernel⟩
section
variable {K : PySem.W.Frag} {mg : Str → Option Value}
theorem b__law_bar (T : Txt K mg) : Binds K (fdOf K ("_law_bar", none)) ["dice"] [] := T._law_bar.bindsN fun _ _ _ _ _ _ us hl => match us, hl with | [_], _ => rfl
end
def sp__law_bar (K : PySem.W.Frag) : Sp := fun vs H Q _ => ∃ (d : Addr), vs = [.ref d] ∧ Dice H d ∧ ∀ v H' b, Fr [d] H H' → Dice H' d → Dp K H' v (barD b) → BarOk b → Q v H'
theorem ok__law_bar {P : Program} {w : World} {K : PySem.W.Frag} {mg : Str → Option Value} {base : Heap} (T : Txt K mg) : OkF P w K mg base CX0 3 ("_law_bar", none) ["dice"] (sp__law_bar K) := by
  refine okN T._law_bar sc__law_bar (fun vs H Q E h => ?_) (fun cdv A outer s H vs Q E hr h => ?_)
  · obtain ⟨d, rfl, _⟩ := h
    rfl
  · obtain ⟨d, rfl, hD, z⟩ := h
    refine ⟨_, (pss_cons (ps_set (i := 1) sc__law_bar.nd rfl (by first | exact Or.inl rfl | exact Or.inr rfl) (pe_op op_add pe_int (pe_ix ix_list (pe_lst (pa_cons (pe_call (ok__law_roll T) (hr.mono (by decide)) (by rfl) T.g__law_roll T._law_roll.kp (b__law_roll T) .nil pass0 (pa_cons (pv 0) (pa_cons pe_int pa_nil))) (pa_cons (pe_call (ok__law_roll T) (hr.mono (by decide)) (by rfl) T.g__law_roll T._law_roll.kp (b__law_roll T) .nil pass0 (pa_cons (pv 0) (pa_cons pe_int pa_nil))) pa_nil))) (pe_op op_fdiv (pe_call (ok__law_roll T) (hr.mono (by decide)) (by rfl) T.g__law_roll T._law_roll.kp (b__law_roll T) .nil pass0 (pa_cons (pv 0) (pa_cons pe_int pa_nil))) pe_int) (fun _ _ => rfl))))
      (pss_one (ps_ret (pe_tup (pa_cons (pv 1) (pa_cons (pe_op op_add pe_int (pe_call (ok__law_roll T) (hr.mono (by decide)) (by rfl) T.g__law_roll T._law_roll.kp (b__law_roll T) .nil pass0 (pa_cons (pv 0) (pa_cons pe_int pa_nil)))) (pa_cons (pe_cmpR op_lt (pe_call (ok__law_roll T) (hr.mono (by decide)) (by rfl) T.g__law_roll T._law_roll.kp (b__law_roll T) .nil pass0 (pa_cons (pv 0) (pa_cons pe_int pa_nil))) pe_int (nomark _)) pa_nil))))))), ?_⟩
    refine ⟨_, rfl, d, 8, rfl, hD, by decide, by decide, fun H1 r1 f1 hD1 a1 b1 => ?_⟩
    refine ⟨_, rfl, d, 40, rfl, hD1, by decide, by decide, fun H2 r2 f2 hD2 a2 b2 => ⟨by show (2 : Nat) ≤ sizeLine; decide, fun L nL => ?_⟩⟩
    have sL := same_upd (o := .lst [.int r1, .int r2]) nL
    have ndL : L ≠ d := fun e => by
      obtain ⟨i, j, q⟩ := hD2
      rw [e, q] at nL
      cases nL
    refine ⟨_, rfl, d, 4, rfl, hD2.same sL, by decide, by decide, fun H3 r3 f3 hD3 a3 b3 => ?_⟩
    have hL3 := f3.keep L _ (by simp [ndL]) upd_same
    have key : ∀ width : Int, 1 ≤ width → width ≤ 40 → (tAsg (tC (.int width)) (gName 1)) { nx := (tRet (tTup (tCons (tVar 1) (tCons (tOp (rI0 fun i j => .int (i + j)) (tC (.int 1)) (tCall sp__law_roll [] E0 (tCons (tVar 0) (tCons (tC (.int 16)) tNil)))) (tCons (tOp (rI0 fun i j => .bl (decide (i < j))) (tCall sp__law_roll [] E0 (tCons (tVar 0) (tCons (tC (.int 5)) tNil))) (tC (.int 2))) tNil))))) { nx := fun _ H' => Q .non H', rt := Q }, rt := Q } [some (.ref d), none] H3 := by
      intro width w1 w2
      refine ⟨_, rfl, _, rfl, d, 16, rfl, hD3, by decide, by decide, fun H4 r4 f4 hD4 a4 b4 => ⟨_, _, rfl, rfl, ?_⟩⟩
      refine ⟨_, rfl, d, 5, rfl, hD4, by decide, by decide, fun H5 r5 f5 hD5 a5 b5 => ⟨_, _, rfl, rfl, by show (3 : Nat) ≤ sizeLine; decide, fun t nt => ?_⟩⟩
      have st := same_upd (o := .tup [.int width, .int (1 + r4), .bl (decide (r5 < 2))]) nt
      exact z _ _ ⟨width, 1 + r4, decide (r5 < 2)⟩ ((((((f1.trans f2).then sL).trans f3).trans f4).trans f5).then st) (hD5.same st) (dp_bar_of (.of upd_same)) ⟨w1, w2, by show 1 ≤ 1 + r4; omega, by show 1 + r4 ≤ 16; omega⟩
    refine ⟨_, _, rfl, rfl, ⟨by decide, by decide⟩, ?_⟩
    by_cases h3 : r3 < 3
    · refine ⟨L, _, _, .int r1, rfl, rfl, .of hL3, at_of (j := 0) (by omega) rfl, _, _, rfl, rfl, key _ (by omega) (by omega)⟩
    · refine ⟨L, _, _, .int r2, rfl, rfl, .of hL3, at_of (j := 1) (by omega) rfl, _, _, rfl, rfl, key _ (by omega) (by omega)⟩
theorem sc__law_row : FnScope ["dice", "most", "turn"] ["dice", "most"] (defScope s__law_row) := ⟨rfl, rfl, rfl, by decide +kernel, rfl, by decide +kernel, by decide +kernel⟩
section
variable {K : PySem.W.Frag} {mg : Str → Option Value}
theorem b__law_row (T : Txt K mg) : Binds K (fdOf K ("_law_row", none)) ["dice", "most"] [] := T._law_row.bindsN fun _ _ _ _ _ _ us hl => match us, hl with | [_, _], _ => rfl
end
def sp__law_row (K : PySem.W.Frag) : Sp := fun vs H Q _ => ∃ (d : Addr) (most : Nat), vs = [.ref d, .int (most : Int)] ∧ Dice H d ∧ most ≤ 1000 ∧ ∀ H' a bs, Fr [d] H H' → Dice H' d → H a = none → RowAt K H' a bs → (∀ b ∈ bs, BarOk b) → bs.length ≤ most → Q (.ref a) H'
theorem ok__law_row {P : Program} {w : World} {K : PySem.W.Frag} {mg : Str → Option Value} {base : Heap} (T : Txt K mg) : OkF P w K mg base CX0 4 ("_law_row", none) ["dice", "most"] (sp__law_row K) := by
  refine okN T._law_row sc__law_row (fun vs H Q E h => ?_) (fun cdv A outer s H vs Q E hr h => ?_)
  · obtain ⟨d, most, rfl, _⟩ := h
    rfl
  · obtain ⟨d, most, rfl, hD, hm, z⟩ := h
    refine ⟨_, (pss_one (ps_ret (pe_lc (own := [("turn", 2)]) (g := (gName 2)) (tt := tYes)  (by rfl) sc__law_row.nd (pi_range1 (by rfl) T.b_range (pa_cons (pe_call (ok__law_roll T) (hr.mono (by decide)) (by rfl) T.g__law_roll T._law_roll.kp (b__law_roll T) .nil pass0 (pa_cons (pv 0) (pa_cons (pe_op op_add (pv 1) pe_int) pa_nil))) pa_nil)) (blkOk_by (own := [("turn", 2)]) (N := ["dice", "most", "turn"]) (sc := defScope s__law_row) (by decide +kernel)) (fun _ _ _ _ _ => (pg_name (i := 2) sc__law_row.nd rfl (by first | exact Or.inl rfl | exact Or.inr rfl))) (fun _ _ _ _ _ => pts_nil) (fun _ _ _ _ _ => (pe_call (ok__law_bar T) (hr.mono (by decide)) (by rfl) T.g__law_bar T._law_bar.kp (b__law_bar T) .nil pass0 (pa_cons (pv 0) pa_nil)))))), ?_⟩
    refine ⟨_, rfl, _, rfl, _, _, rfl, rfl, d, _, rfl, hD, by omega, by omega, fun H1 r f1 hD1 r0 r1 => ⟨r, rfl, by omega, by omega, fun D nD => ?_⟩⟩
    have nDd : D ≠ d := fun e => by
      obtain ⟨i, j, q⟩ := hD1
      rw [e, q] at nD
      cases nD
    have nD0 : H D = none := by
      cases e : H D with
      | none => rfl
      | some o =>
        have := f1.keep D o (by simp [nDd]) e
        rw [nD] at this
        cases this
    have sD := same_upd (o := .lst []) nD
    refine lc_range (lo := 0) (n := r.toNat) (fun i H' => Fr [d] H H' ∧ Dice H' d ∧ ∃ bs : List Bar, bs.length = i ∧ (∀ b ∈ bs, BarOk b) ∧ RowAt K H' D bs) ⟨f1.then sD, hD1.same sD, [], rfl, fun _ h => (nomatch h), [], upd_same, .nil⟩ ?_ ?_
    · rintro i H2 hi ⟨f2, hD2, bs, hl, ok, row⟩
      refine ⟨rfl, _, rfl, d, rfl, hD2, fun v H3 b f3 hD3 hv okb => ?_⟩
      obtain ⟨vs, q1, q2⟩ := row.fr f3 (by simp [nDd])
      obtain ⟨row4, f4⟩ := row_app q1 q2 hv
      refine ⟨vs, q1, ?_, (f2.trans f3).step f4 (by simp [nD0]), hD3.keep f4 (by simp [nDd.symm]), bs ++ [b], ?_, ?_, row4⟩
      · rw [bars_len q2]
        exact small1000 (by omega)
      · rw [List.length_append, hl]
        rfl
      · intro x hx
        rcases List.mem_append.mp hx with hx | hx
        · exact ok x hx
        · have e : x = b := by simpa using hx
          rw [e]
          exact okb
    · rintro H2 ⟨f2, hD2, bs, hl, ok, row⟩
      exact z _ _ bs f2 hD2 nD0 row ok (by omega)
theorem sc_Part_bars : FnScope ["self"] ["self"] (defScope s_Part_bars) := ⟨rfl, rfl, rfl, by decide +kernel, rfl, by decide +kernel, by decide +kernel⟩
section
variable {K : PySem.W.Frag} {mg : Str → Option Value}
theorem b_Part_bars (T : Txt K mg) : Binds K (fdOf K ("Part", some "bars")) ["self"] [] := T.Part_bars.bindsN fun _ _ _ _ _ _ us hl => match us, hl with | [_], _ => rfl
end
def sp_Part_bars (K : PySem.W.Frag) : Sp := fun vs H Q _ => ∃ (p q : Addr) (bs : List Bar) (past : List (List Bar)), vs = [.ref p] ∧ PartX K H p q bs past ∧ ∀ H' a, Same H H' → H a = none → RowAt K H' a bs → Q (.ref a) H'
theorem ok_Part_bars {P : Program} {w : World} {K : PySem.W.Frag} {mg : Str → Option Value} {base : Heap} (T : Txt K mg) : OkF P w K mg base CX0 1 ("Part", some "bars") ["self"] (sp_Part_bars K) := by
  refine okN T.Part_bars sc_Part_bars (fun vs H Q E h => ?_) (fun cdv A outer s H vs Q E hr h => ?_)
  · obtain ⟨p, q, bs, past, rfl, _⟩ := h
    rfl
  · obtain ⟨p, q, bs, past, rfl, hp, k⟩ := h
    obtain ⟨dx, r, ws, h1, n, ⟨vs, h2, h3⟩, _⟩ := hp
    refine ⟨_, (pss_one (ps_ret (pe_callTy call_list_of (by rfl) T.b_list (by decide +kernel) (pa_cons (pe_fld (pv 0) rfl) pa_nil)))), ?_⟩
    refine ⟨_, rfl, p, _, dx, _, _, rfl, h1, T.cl_Part, T.n_row, pf_row, _, _, rfl, .inl (.of h2), fun l hl => ?_⟩
    exact k _ l (same_upd hl) hl ⟨vs, upd_same, dpa_same (same_upd hl) h3⟩
/-! ### desks, rows of numbers -/
structure Desk where
  room : Int
  turn : Int
  side : Bool
  empty : Int
def sideS (b : Bool) : Str := if b = true then Str.ofString "right" else Str.ofString "left"
def deskD (k : Desk) : PyData := .tuple [.int k.room, .int k.turn, .str (sideS k.side), .int k.empty]
def deskV (k : Desk) : List V := [.int k.room, .int k.turn, .str (sideS k.side), .int k.empty]
structure DeskOk (k : Desk) : Prop where
  r0 : 1 ≤ k.room
  r1 : k.room ≤ 200
  t0 : 0 ≤ k.turn
  t1 : k.turn ≤ 99
  e0 : 0 ≤ k.empty
  e1 : k.empty ≤ 3
theorem isT_desk (k : Desk) : isT (deskD k) = true := rfl
abbrev numsD (ns : List Nat) : List PyData := ns.map fun (n : Nat) => PyData.int (n : Int)
abbrev numsV (ns : List Nat) : List V := ns.map fun (n : Nat) => V.int (n : Int)
section
variable {K : PySem.W.Frag} {H : Hp}
theorem dp_desk {v : V} {k : Desk} (h : Dp K H v (deskD k)) : ∃ p, v = .ref p ∧ SqT K H p (deskV k) := by
  cases h with
  | tup s a =>
    obtain ⟨v0, v1, v2, v3, rfl, h0, h1, h2, h3⟩ := dpa4 a
    cases h0
    cases h1
    cases h2
    cases h3
    exact ⟨_, rfl, s⟩
theorem dp_desk_of {p : Addr} {k : Desk} (h : SqT K H p (deskV k)) : Dp K H (.ref p) (deskD k) := .tup h (.cons (.int _) (.cons (.int _) (.cons (.str _) (.cons (.int _) .nil))))
theorem dpa_nums : ∀ {ns : List Nat} {vs : List V}, DpAll K H vs (numsD ns) → vs = numsV ns
  | [], _, .nil => rfl
  | n :: r, _, .cons d t => by
    cases d
    show V.int _ :: _ = V.int _ :: numsV r
    rw [dpa_nums t]
theorem dpa_nums_of : ∀ ns : List Nat, DpAll K H (numsV ns) (numsD ns)
  | [] => .nil
  | n :: r => .cons (.int _) (dpa_nums_of r)
theorem dp_nums {v : V} {ns : List Nat} (h : Dp K H v (.tuple (numsD ns))) : ∃ p, v = .ref p ∧ SqT K H p (numsV ns) := by
  cases h with
  | tup s a =>
    rw [dpa_nums a] at s
    exact ⟨_, rfl, s⟩
theorem dp_nums_of {p : Addr} {ns : List Nat} (h : SqT K H p (numsV ns)) : Dp K H (.ref p) (.tuple (numsD ns)) := .tup h (dpa_nums_of ns)
end
theorem isTs_nums : ∀ ns : List Nat, isTs (numsD ns) = true
  | [] => rfl
  | n :: r => by
    show (isT (.int (n : Int)) && isTs (numsD r)) = true
    rw [isTs_nums r]
    rfl
theorem shp_nums (ns : List Nat) : Shp 1 (.tuple (numsD ns)) := shp_tup (shpA_all fun d hd => by
  obtain ⟨n, _, rfl⟩ := List.mem_map.mp hd
  exact shp_int _)
theorem isNum_of {i lo hi : Int} (h1 : lo ≤ i) (h2 : i ≤ hi) : isNum (.int i) lo hi = true := by
  show (decide (lo ≤ i) && decide (i ≤ hi)) = true
  rw [decide_eq_true h1, decide_eq_true h2]
  rfl
/-- whether a page is a right one -/
def isRight (k : Desk) (page : Nat) : Bool := decide (page % 2 = 0) == k.side
def wideOf (bs : List Bar) (b e : Nat) : Int := (((bs.drop b).take (e - b)).map Bar.w).sum
theorem cut_both {xs : List V} {b e : Nat} (h : b ≤ e) : cutV xs (some (b : Int)) (some (e : Int)) = (xs.drop b).take (e - b) := by
  unfold cutV
  rw [HT.sIx_nat, HT.sIx_nat]
  by_cases h1 : b ≤ xs.length
  · rw [Nat.min_eq_left h1]
    by_cases h2 : e ≤ xs.length
    · rw [Nat.min_eq_left h2]
    · rw [Nat.min_eq_right (by omega), List.take_of_length_le (by rw [List.length_drop]; omega), List.take_of_length_le (by rw [List.length_drop]; omega)]
  · rw [Nat.min_eq_right (by omega), Nat.min_eq_right (by omega), List.drop_length, List.drop_eq_nil_of_le (by omega), List.take_nil, List.take_nil]
/-- what is wrong -/
inductive Wrong where
  | wide (p : Nat) | empty (p : Nat) | turn (p : Nat) | form
def wrongD : Wrong → PyData
  | .wide p => .tuple [.str (Str.ofString "wide"), .int (p : Int)]
  | .empty p => .tuple [.str (Str.ofString "empty"), .int (p : Int)]
  | .turn p => .tuple [.str (Str.ofString "turn"), .int (p : Int)]
  | .form => .tuple [.str (Str.ofString "form")]
def faultD : Option Wrong → PyData
  | none => .none
  | some x => wrongD x
def pageFault (bs : List Bar) (k : Desk) (ns : List Nat) (page : Nat) : Option Wrong :=
  let e := (ns.take (page + 1)).sum
  let n := ns.getD page 0
  if wideOf bs (e - n) e > k.room then some (.wide page)
  else if n = 0 ∧ (page + 1 = ns.length ∨ (((ns.take (page + 1)).count 0 : Nat) : Int) > k.empty) then some (.empty page)
  else if isRight k page = true ∧ ¬ page + 1 = ns.length ∧ restOf bs e < k.turn then some (.turn page)
  else none
/-- the first fault from a page on -/
def faultFrom (bs : List Bar) (k : Desk) (ns : List Nat) (page : Nat) : Nat → Option Wrong
  | 0 => none
  | m + 1 => match pageFault bs k ns page with
    | some x => some x
    | none => faultFrom bs k ns (page + 1) m
def faultN (bs : List Bar) (k : Desk) (ns : List Nat) : Option Wrong := if ns.sum = bs.length then faultFrom bs k ns 0 ns.length else some .form
theorem numsV_ints (ns : List Nat) : numsV ns = (ns.map fun (n : Nat) => (n : Int)).map V.int := by
  rw [List.map_map]
  rfl
theorem small5000 {n : Nat} (h : n ≤ 5000) : n < sizeLine := by
  have : sizeLine = 16777216 := sizeLine_eq
  omega
theorem shp_numsL (ns : List Nat) : Shp 1 (.list (numsD ns)) := shp_list (shpA_all fun d hd => by
  obtain ⟨n, _, rfl⟩ := List.mem_map.mp hd
  exact shp_int _)
theorem sum_take_le : ∀ (ns : List Nat) (i : Nat), (ns.take i).sum ≤ ns.sum
  | [], _ => by simp
  | n :: r, 0 => by simp
  | n :: r, i + 1 => by
    have := sum_take_le r i
    simp only [List.take_succ_cons, List.sum_cons]
    omega
theorem sum_at : ∀ {ns : List Nat} {i : Nat}, i < ns.length → ns.getD i 0 ≤ (ns.take (i + 1)).sum
  | [], _, h => by simp at h
  | n :: r, 0, _ => by simp
  | n :: r, i + 1, h => by
    have := sum_at (ns := r) (i := i) (by simpa using h)
    simp only [List.take_succ_cons, List.sum_cons, List.getD_cons_succ]
    omega
theorem numsV_at {ns : List Nat} {i : Nat} (h : i < ns.length) : (numsV ns)[i]? = some (.int ((ns.getD i 0 : Nat) : Int)) := by
  rw [List.getElem?_map, List.getElem?_eq_getElem h, List.getD_eq_getElem?_getD, List.getElem?_eq_getElem h]
  rfl
theorem numsV_sum : ∀ ns : List Nat, (ns.map fun (n : Nat) => (n : Int)).sum = ((ns.sum : Nat) : Int)
  | [] => rfl
  | n :: r => by
    simp only [List.map_cons, List.sum_cons, numsV_sum r]
    omega
theorem count_nums : ∀ ns : List Nat, (numsD ns).countP (fun z => PyData.eqv z (.int 0)) = ns.count 0
  | [] => rfl
  | n :: r => by
    have e : PyData.eqv (.int (n : Int)) (.int 0) = (n == 0) := by
      simp only [PyData.eqv]
      rw [Bool.eq_iff_iff]
      simp
    simp only [List.map_cons, List.countP_cons, List.count_cons, count_nums r, e]
def isNat0 : PyData → Bool
  | .int i => decide (0 ≤ i)
  | _ => false
def areNums : PyData → Bool
  | .tuple ds => ds.all isNat0
  | _ => false
theorem areNums_nums : ∀ ns : List Nat, areNums (.tuple (numsD ns)) = true
  | [] => rfl
  | n :: r => by
    show (decide (0 ≤ (n : Int)) && (numsD r).all isNat0) = true
    rw [decide_eq_true (Int.natCast_nonneg n), show (numsD r).all isNat0 = true from areNums_nums r]
    rfl
theorem nums_of_are : ∀ {ds : List PyData}, ds.all isNat0 = true → ∃ ns : List Nat, ds = numsD ns
  | [], _ => ⟨[], rfl⟩
  | d :: ds, h => by
    obtain ⟨h1, h2⟩ := Bool.and_eq_true_iff.mp h
    obtain ⟨ns, rfl⟩ := nums_of_are h2
    cases d with
    | int i =>
      have h3 : 0 ≤ i := of_decide_eq_true h1
      exact ⟨i.toNat :: ns, by
        show _ = PyData.int ((i.toNat : Nat) : Int) :: numsD ns
        rw [Int.toNat_of_nonneg h3]⟩
    | _ => cases h1
/-- the first fault of any thing -/
def faultAny (bs : List Bar) (k : Desk) (d : PyData) (ns : List Nat) : Option Wrong := if areNums d = true then faultN bs k ns else some .form
def natsOf : PyData → List Nat
  | .tuple ds => ds.map fun d => match d with
    | .int i => i.toNat
    | _ => 0
  | _ => []
theorem natsOf_nums (ns : List Nat) : natsOf (.tuple (numsD ns)) = ns := by
  show (numsD ns).map _ = ns
  rw [List.map_map]
  exact List.map_id'' (fun n => rfl) ns
def faultG (bs : List Bar) (k : Desk) (d : PyData) : Option Wrong := if areNums d = true then faultN bs k (natsOf d) else some .form
theorem faultFrom_step {bs : List Bar} {k : Desk} {ns : List Nat} {i m : Nat} : faultFrom bs k ns i (m + 1) = match pageFault bs k ns i with
    | some x => some x
    | none => faultFrom bs k ns (i + 1) m := rfl
theorem dp_none {K : PySem.W.Frag} {H : Hp} {v : V} (h : Dp K H v .none) : v = .non := by
  cases h
  rfl
theorem dp_wrong {K : PySem.W.Frag} {H : Hp} {v : V} {x : Wrong} (h : Dp K H v (wrongD x)) : v ≠ .non := by
  intro e
  subst e
  cases x <;> cases h
theorem shp_fault (x : Option Wrong) : Shp 1 (faultD x) := by
  cases x with
  | none => exact shp_none
  | some w => cases w with
    | wide p => exact shp_tup (shpA_cons (shp_str (by decide +kernel)) (shpA_cons (shp_int _) shpA_nil))
    | empty p => exact shp_tup (shpA_cons (shp_str (by decide +kernel)) (shpA_cons (shp_int _) shpA_nil))
    | turn p => exact shp_tup (shpA_cons (shp_str (by decide +kernel)) (shpA_cons (shp_int _) shpA_nil))
    | form => exact shp_tup (shpA_cons (shp_str (by decide +kernel)) shpA_nil)
theorem isNone_dp {K : PySem.W.Frag} {H : Hp} {v : V} {x : Option Wrong} (h : Dp K H v (faultD x)) : x.isNone = decide (v = V.non) := by
  cases x with
  | none =>
    rw [dp_none h]
    rfl
  | some wr =>
    rw [decide_eq_false (dp_wrong h)]
    rfl
theorem iteBB {A B : Prop} {a b : Bool} (h : a = b) (x : B) : if (!decide (V.bl a = V.bl b)) = true then A else B := by
  rw [decide_eq_true (congrArg V.bl h)]
  exact iteF x
theorem sc_law : FnScope ["script", "dice", "bars", "part", "at", "bar", "text", "other"] ["script"] (defScope s_law) := ⟨rfl, rfl, rfl, by decide +kernel, rfl, by decide +kernel, by decide +kernel⟩
theorem gn {i : Nat} {v : V} {σ : L2.St} {H : Hp} {k : L2.St → Hp → Prop} (h : k (σ.set i (some v)) H) : gName i v σ H k := h
theorem iteSS {A B : Prop} {a b : Str} (h : a = b) (x : B) : if (!decide (V.str a = V.str b)) = true then A else B := by
  rw [decide_eq_true (congrArg V.str h)]
  exact iteF x
theorem ext_part {G G1 G2 : Hp} {p q : Addr} (e : LamX.ExtN G G1) (np : G p = none) (nq : G q = none) (f : Fr [p, q] G1 G2) : LamX.ExtN G G2 := fun b o h n => by
  refine f.keep b o ?_ (e b o h n)
  simp [ne_of_none h np, ne_of_none h nq]
theorem tabs_part {K : PySem.W.Frag} {Tb : List (Addr × Str)} {H H' : Hp} {p q : Addr} {bs : List Bar} {past : List (List Bar)} (t : LamX.Tabs Tb H) (f : Fr [p, q] H H') (hp : PartX K H p q bs past) : LamX.Tabs Tb H' := by
  obtain ⟨dx, r, ws, h1, _, _, h2, _⟩ := hp
  refine Tabs.fr t f fun d hd => ?_
  rcases List.mem_cons.mp hd with rfl | hd
  · exact ⟨_, h1, (fun ps z => by cases z), (fun φ z => by cases z)⟩
  · cases List.mem_singleton.mp hd
    exact ⟨_, h2, (fun ps z => by cases z), (fun φ z => by cases z)⟩
/-- all but a die and tables is as it was -/
structure FrN (d : Addr) (H H' : Hp) : Prop where
  keep : ∀ b o, b ≠ d → H b = some o → (∀ ps, o ≠ .tbl ps) → H' b = some o
  tu : ∀ b xs, H b = some (.tup xs) → H' b = some (.tup xs)
  fz : ∀ b o u, H b = some (.frz o u) → H' b = some (.frz o u)
section
variable {K : PySem.W.Frag} {H H' : Hp} {d : Addr}
theorem FrN.sqt {a : Addr} {xs : List V} (e : FrN d H H') (h : SqT K H a xs) : SqT K H' a xs := by
  rcases h with (h | ⟨o, h⟩) | h
  · exact .inl (.inl (e.tu _ _ h))
  · exact .inl (.inr ⟨o, e.fz _ _ _ h⟩)
  · exact .inr h
theorem RowAt.frN {r : Addr} {bs : List Bar} (h : RowAt K H r bs) (s : FrN d H H') (n : r ≠ d) : RowAt K H' r bs := by
  obtain ⟨vs, e, a⟩ := h
  exact ⟨vs, s.keep _ _ n e (fun ps z => by cases z), dpa_tu (fun _ _ z => s.sqt z) a (isTs_bars bs)⟩
theorem PartX.frN {p q : Addr} {bs : List Bar} {past : List (List Bar)} (h : PartX K H p q bs past) (hd : Dice H d) (s : FrN d H H') : PartX K H' p q bs past := by
  obtain ⟨dx, r, ws, h1, n, h2, h3, h4⟩ := h
  obtain ⟨i, j, e2⟩ := id hd
  have np : p ≠ d := ne_of h1 e2 (by intro z; cases z)
  have nq : q ≠ d := by
    intro z
    subst z
    rw [h3] at e2
    injection e2 with e3
    injection e3 with e4
    subst e4
    cases h4 with
    | cons a _ =>
      obtain ⟨r, e, _⟩ := a
      cases e
  exact ⟨dx, r, ws, s.keep _ _ np h1 (fun ps z => by cases z), n, h2.frN s (h2.ne_dice hd), s.keep _ _ nq h3 (fun ps z => by cases z), h4.imp fun r bs _ z => z.frN s (z.ne_dice hd)⟩
theorem Rnd.frN {R : Addr} {ds : List Addr} (h : Rnd H R ds) (s : FrN d H H') (hd : d ∈ ds) (hD : Dice H' d) : Rnd H' R ds := by
  obtain ⟨h1, h2⟩ := h
  refine ⟨s.keep _ _ (h2 d hd).2.symm h1 (fun ps z => by cases z), fun x hx => ⟨?_, (h2 x hx).2⟩⟩
  by_cases e : x = d
  · rw [e]
    exact hD
  · obtain ⟨⟨a, b, z⟩, _⟩ := h2 x hx
    exact ⟨a, b, s.keep _ _ e z (fun ps z => by cases z)⟩
end
theorem ok_put {bs : List Bar} {b : Bar} {k : Nat} (ok : ∀ b ∈ bs, BarOk b) (hb : BarOk b) : ∀ x ∈ bs.take k ++ [b] ++ bs.drop k, BarOk x := fun x hx => by
  rcases List.mem_append.mp hx with hx | hx
  · rcases List.mem_append.mp hx with hx | hx
    · exact ok x (List.mem_of_mem_take hx)
    · rw [List.mem_singleton.mp hx]
      exact hb
  · exact ok x (List.mem_of_mem_drop hx)
theorem ok_law {P : Program} {w : World} {K : PySem.W.Frag} {mg : Str → Option Value} {base : Heap} (T : Txt K mg) (TB : LamX.TabB base mg (He.cT K ("law", none)).1 (He.cT K ("law", none)).2) : OkF P w K mg base CX0 20 ("law", none) ["script"] (sp_lawT K "law") := by
  refine okC T.law sc_law (fun vs H Q E h => ?_) (fun A outer s H vs Q E hr h => ?_)
  · obtain ⟨a, ns, rfl, _⟩ := h
    rfl
  · obtain ⟨a, ns, rfl, hS, hlen, hT0, z⟩ := h
    have hsz : sizeLine = 16777216 := sizeLine_eq
    refine ⟨_, (pss_cons (ps_for PassesOwn.never rfl (pi_list (pe_call (ok__law_rounds T) (hr.mono (by decide)) (by rfl) T.g__law_rounds T._law_rounds.kp (b__law_rounds T) .nil pass0 (pa_cons (pv 0) (pa_cons pe_int pa_nil)))) (pg_name (i := 1) sc_law.nd rfl (by first | exact Or.inl rfl | exact Or.inr rfl))
      (pss_cons (ps_set (i := 2) sc_law.nd rfl (by first | exact Or.inl rfl | exact Or.inr rfl) (pe_call (ok__law_row T) (hr.mono (by decide)) (by rfl) T.g__law_row T._law_row.kp (b__law_row T) .nil pass0 (pa_cons (pv 1) (pa_cons (pe_ix ix_list (pe_lst (pa_cons pe_int (pa_cons pe_int pa_nil))) (pe_call (ok__law_roll T) (hr.mono (by decide)) (by rfl) T.g__law_roll T._law_roll.kp (b__law_roll T) .nil pass0 (pa_cons (pv 1) (pa_cons pe_int pa_nil))) (fun _ _ => rfl)) pa_nil))))
      (pss_cons (ps_set (i := 3) sc_law.nd rfl (by first | exact Or.inl rfl | exact Or.inr rfl) (pe_make T.mk_Part (ok_Part_init T) (hr.mono (by decide)) (by rfl) T.g_Part (b1_Part T) .nil pass0 (pa_cons (pe_callTy call_list_of (by rfl) T.b_list (by decide +kernel) (pa_cons (pv 2) pa_nil)) pa_nil)))
      (pss_cons (ps_if (PW.pt (pw_and (pt_cmpR op_lt (pe_callB call_len (by rfl) T.b_len PySem.boot_len (pa_cons (pv 2) pa_nil)) pe_int (nomark _)) (pw_and1 (pt_cmpR op_eq (pe_call (ok__law_roll T) (hr.mono (by decide)) (by rfl) T.g__law_roll T._law_roll.kp (b__law_roll T) .nil pass0 (pa_cons (pv 1) (pa_cons pe_int pa_nil))) pe_int (nomark _))))) (pss_cons (ps_par (by rfl) sc_law.nd (i := 4) (j := 5) rfl rfl (by decide) rfl rfl (pa_cons (pe_call (ok__law_roll T) (hr.mono (by decide)) (by rfl) T.g__law_roll T._law_roll.kp (b__law_roll T) .nil pass0 (pa_cons (pv 1) (pa_cons (pe_op op_add (pe_callB call_len (by rfl) T.b_len PySem.boot_len (pa_cons (pv 2) pa_nil)) pe_int) pa_nil))) (pa_cons (pe_call (ok__law_bar T) (hr.mono (by decide)) (by rfl) T.g__law_bar T._law_bar.kp (b__law_bar T) .nil pass0 (pa_cons (pv 1) pa_nil)) pa_nil)) (by rfl))
      (pss_cons (ps_expr (pe_meth (pv 3) T.cl_Part T.m_Part_put (ok_Part_put T) (hr.mono (by decide)) (b_Part_put T) .nil pass0 (pa_cons (pv 4) (pa_cons (pv 5) pa_nil))))
      (pss_one (ps_set (i := 2) sc_law.nd rfl (by first | exact Or.inl rfl | exact Or.inr rfl) (pe_op op_cat (pe_op op_cat (pe_slice sl_list (pv 2) po_none (po_some (pv 4))) (pe_lst (pa_cons (pv 5) pa_nil))) (pe_slice sl_list (pv 2) (po_some (pv 4)) po_none)))))) pss_nil)
      (pss_cons (ps_set (i := 6) sc_law.nd rfl (by first | exact Or.inl rfl | exact Or.inr rfl) (pe_call (ok_saved T) (hr.mono (by decide)) (by rfl) T.g_saved T.saved.kp (b_saved T) .nil pass0 (pa_cons (pv 3) pa_nil)))
      (pss_cons (ps_set (i := 7) sc_law.nd rfl (by first | exact Or.inl rfl | exact Or.inr rfl) (pe_call (ok_woken T) (hr.mono (by decide)) (by rfl) T.g_woken T.woken.kp (b_woken T) .nil pass0 (pa_cons (pv 6) pa_nil)))
      (pss_cons (ps_if (PW.pt (pw_or (pt_not (pt_val (pe_callB call_isi (by rfl) T.b_isinstance (by decide +kernel) (pa_cons (pv 6) (pa_cons (pe_bltn (v := .ty "str") (by rfl) T.b_str (by decide +kernel) rfl) pa_nil))))) (pw_or (pt_not (pt_cmpR (op_eqP T (ok_Part_eq T) (hr.mono (by decide))) (pv 7) (pv 3) (nomark _))) (pw_or (pt_cmpR (op_neD hr.units) (pe_meth0 (pv 7) T.cl_Part T.m_Part_bars (ok_Part_bars T) (hr.mono (by decide)) (b_Part_bars T) .nil pass0 ) (pv 2) (nomark _)) (pw_or1 (pt_cmpR (op_neP T (ok_Part_eq T) (hr.mono (by decide))) (pe_call (ok_woken T) (hr.mono (by decide)) (by rfl) T.g_woken T.woken.kp (b_woken T) .nil pass0 (pa_cons (pe_call (ok_saved T) (hr.mono (by decide)) (by rfl) T.g_saved T.saved.kp (b_saved T) .nil pass0 (pa_cons (pv 7) pa_nil)) pa_nil)) (pv 3) (nomark _))))))) (pss_one (ps_ret pe_bl)) pss_nil)
      (pss_cons (ps_if (PW.pt (pw_or (pt_cmpR (op_neD hr.units) (pe_told (k := 9) T TB rfl (hr.mono (by decide)) (by decide) (by rfl) (LamX.lamS_by (sc := defScope s_law) (by decide +kernel)) (by rfl) (fun _ _ _ _ _ => by rfl) (fun _ _ _ _ _ _ _ hr => (pe_meth0 (pv 7) T.cl_Part T.m_Part_take_back (okx_Part_take_back T) (hr.mono (by decide)) (b_Part_take_back T) .nil (passN rfl rfl rfl rfl) ))) (pe_tup (pa_cons pe_str (pa_cons pe_str pa_nil))) (nomark _)) (pw_or1 (pt_cmpR (op_neP T (ok_Part_eq T) (hr.mono (by decide))) (pe_call (ok_woken T) (hr.mono (by decide)) (by rfl) T.g_woken T.woken.kp (b_woken T) .nil pass0 (pa_cons (pe_call (ok_saved T) (hr.mono (by decide)) (by rfl) T.g_saved T.saved.kp (b_saved T) .nil pass0 (pa_cons (pe_make0 T.mk_Part (ok_Part_init T) (hr.mono (by decide)) (by rfl) T.g_Part (b0_Part T).choose_spec.2 (b0_Part T).choose_spec.1 pass0) pa_nil)) pa_nil)) (pe_make0 T.mk_Part (ok_Part_init T) (hr.mono (by decide)) (by rfl) T.g_Part (b0_Part T).choose_spec.2 (b0_Part T).choose_spec.1 pass0) (nomark _))))) (pss_one (ps_ret pe_bl)) pss_nil)
      (pss_one (ps_if (pt_cmpR (op_neD hr.units) (pv 2) (pe_lst pa_nil) (nomark _)) (pss_cons (ps_expr (pe_meth (pv 7) T.cl_Part T.m_Part_drop (ok_Part_drop T) (hr.mono (by decide)) (b_Part_drop T) .nil pass0 (pa_cons (pe_call (ok__law_roll T) (hr.mono (by decide)) (by rfl) T.g__law_roll T._law_roll.kp (b__law_roll T) .nil pass0 (pa_cons (pv 1) (pa_cons (pe_callB call_len (by rfl) T.b_len PySem.boot_len (pa_cons (pv 2) pa_nil)) pa_nil))) pa_nil)))
      (pss_one (ps_if (PW.pt (pw_or (pt_cmpR (op_eqP T (ok_Part_eq T) (hr.mono (by decide))) (pv 7) (pv 3) (nomark _)) (pw_or (pt_cmpR (op_neD hr.units) (pe_meth0 (pv 3) T.cl_Part T.m_Part_bars (ok_Part_bars T) (hr.mono (by decide)) (b_Part_bars T) .nil pass0 ) (pv 2) (nomark _)) (pw_or (pt_cmpR (op_neP T (ok_Part_eq T) (hr.mono (by decide))) (pe_call (ok_woken T) (hr.mono (by decide)) (by rfl) T.g_woken T.woken.kp (b_woken T) .nil pass0 (pa_cons (pe_call (ok_saved T) (hr.mono (by decide)) (by rfl) T.g_saved T.saved.kp (b_saved T) .nil pass0 (pa_cons (pv 7) pa_nil)) pa_nil)) (pv 7) (nomark _)) (pw_or1 (pt_cmpR op_ne (pe_call (ok_saved T) (hr.mono (by decide)) (by rfl) T.g_saved T.saved.kp (b_saved T) .nil pass0 (pa_cons (pv 3) pa_nil)) (pv 6) (nomark _))))))) (pss_one (ps_ret pe_bl)) pss_nil))) pss_nil))))))))))
      (pss_one (ps_ret pe_bl))), ?_⟩
    refine ⟨_, rfl, a, ns, 4, rfl, hS, hlen, by decide, fun H1 Rr ds s1 nR hR hds hdl => ?_⟩
    clear hS
    refine ⟨Rr, rfl, ⟨_, .of hR⟩, for_list (xs := ds.map V.ref) (fun i σ H' => (Rnd H' Rr ds ∧ LamX.Tabs (TabL K "law") H') ∧ ∃ y1 y2 y3 y4 y5 y6 y7, σ = [some (.ref a), y1, y2, y3, y4, y5, y6, y7]) ⟨⟨⟨hR, hds⟩, Tabs.same hT0 s1⟩, none, none, none, none, none, none, none, rfl⟩ ?_ ?_ ?_⟩
    · rintro i σ H' _ ⟨h, _⟩
      exact .of h.1.1
    · rintro i v σ H0 hv ⟨⟨hRnd, hT⟩, y1, y2, y3, y4, y5, y6, y7, rfl⟩
      obtain ⟨d, rfl, hd, hD0⟩ := hRnd.at hv
      refine gn ?_
      -- bars
      with_reducible refine seq_cont (fun σ' G => ∃ B bs, σ' = [some (.ref a), some (.ref d), some (.ref B), y3, y4, y5, y6, y7] ∧ Fr [d] H0 G ∧ Dice G d ∧ RowAt K G B bs ∧ (∀ b ∈ bs, BarOk b) ∧ bs.length ≤ 40) (fun cont => ?_) ?_
      · refine ⟨_, rfl, by show (2 : Nat) ≤ sizeLine; decide, fun L nL => ⟨_, rfl, d, 2, rfl, hD0.same (same_upd nL), by decide, by decide, fun H2 r f2 hD2 a2 b2 => ?_⟩⟩
        have hL2 := f2.keep L _ (by simpa using new_ne hD0 nL) upd_same
        have f02 := (Fr.of (same_upd nL) [d]).trans f2
        obtain ⟨m, hm, hm1⟩ : ∃ m : Nat, atI [V.int 6, V.int 40] r = some (.int (m : Int)) ∧ m ≤ 40 := by
          rcases (by omega : r = 0 ∨ r = 1) with e | e
          · exact ⟨6, at_of (j := 0) e rfl, by omega⟩
          · exact ⟨40, at_of (j := 1) e rfl, by omega⟩
        exact ⟨L, _, _, _, rfl, rfl, .of hL2, hm, d, m, rfl, hD2, by omega, fun H5 B bs f5 hD5 nB row hbo hbl => cont _ _ ⟨B, bs, rfl, f02.trans f5, hD5, row, hbo, by omega⟩⟩
      rintro σ' G1 ⟨B, bs, rfl, f1, hD1, row1, hbo, hbl⟩
      have BdN := row1.ne_dice hD1
      have hR1 := hRnd.turn hd f1 hD1
      have hT1 := Tabs.dice hT f1 hD0
      clear hRnd hT f1 hD0
      obtain ⟨bv, hb1, hb2⟩ := id row1
      have hbvl := bars_len hb2
      -- part
      with_reducible refine seq_cont (fun σ' G => ∃ p q, σ' = [some (.ref a), some (.ref d), some (.ref B), some (.ref p), y4, y5, y6, y7] ∧ Same G1 G ∧ PartX K G p q bs [] ∧ G1 p = none ∧ G1 q = none) (fun cont => ?_) ?_
      · refine ⟨_, rfl, B, _, rfl, .inl (.of hb1), fun C nC => ?_⟩
        have sC := same_upd (o := .lst bv) nC
        have rowC : RowAt K (upd G1 C (.lst bv)) C bs := ⟨bv, upd_same, dpa_same sC hb2⟩
        exact make_part (.inr ⟨C, rfl, rowC.dp⟩) hbo hbl fun H4 p q s4 np nq npq hp => cont _ _ ⟨p, q, rfl, sC.trans s4, hp, sC.free np, sC.free nq⟩
      rintro σ' G2 ⟨p, q, rfl, s12, hp2, np, nq⟩
      have row2 := row1.same s12
      have hD2 := hD1.same s12
      have hb1' := s12 _ _ hb1
      obtain ⟨dx, rr, wsr, h1p, _⟩ := id hp2
      -- put
      with_reducible refine seq_cont (fun σ' G => ∃ B bs past y4 y5, σ' = [some (.ref a), some (.ref d), some (.ref B), some (.ref p), y4, y5, y6, y7] ∧ Fr [d] G1 G ∧ Dice G d ∧ RowAt K G B bs ∧ PartX K G p q bs past ∧ (∀ b ∈ bs, BarOk b) ∧ bs.length ≤ 40 ∧ past.length ≤ 1) (fun cont => ?_) ?_
      · refine ⟨_, rfl, _, _, rfl, .inl ⟨_, .of hb1', rfl⟩, _, _, rfl, rfl, _, rfl, ?_⟩
        refine ite2P (fun h40 => ?_) (fun _ => iteF (cont _ _ ⟨B, bs, [], _, _, rfl, Fr.of s12 _, hD2, row2, hp2, hbo, hbl, by decide⟩))
        refine ⟨_, rfl, d, 2, rfl, hD2, by decide, by decide, fun H3 r3 f3 hD3 a3 b3 => ⟨rfl, _, rfl, ?_⟩⟩
        have row3 := row2.fr f3 (by simpa using BdN)
        have hp3 := hp2.fr hD2 f3
        have f13 := (Fr.of s12 [d]).trans f3
        refine ite2Q (fun _ => ?_) (fun _ => cont _ _ ⟨B, bs, [], _, _, rfl, f13, hD3, row3, hp3, hbo, hbl, by decide⟩)
        obtain ⟨cv, hc1, hc2⟩ := id row3
        have hcvl := bars_len hc2
        -- at, bar
        with_reducible refine seq_cont (fun σ' G => ∃ (k : Nat) (bp : Addr) (b : Bar), σ' = [some (.ref a), some (.ref d), some (.ref B), some (.ref p), some (.int (k : Int)), some (.ref bp), y6, y7] ∧ Fr [d] G1 G ∧ Dice G d ∧ RowAt K G B bs ∧ PartX K G p q bs [] ∧ k ≤ bs.length ∧ SqT K G bp (barV b) ∧ BarOk b) (fun cont => ?_) ?_
        · refine ⟨_, rfl, _, rfl, _, _, rfl, .inl ⟨_, .of hc1, rfl⟩, _, _, rfl, rfl, d, _, rfl, hD3, by omega, by omega, fun H4 k0 f4 hD4 k1 k2 => ?_⟩
          obtain ⟨k, rfl⟩ : ∃ k : Nat, k0 = (k : Int) := ⟨k0.toNat, by omega⟩
          refine ⟨_, rfl, d, rfl, hD4, fun v H5 b f5 hD5 hv okb => ?_⟩
          obtain ⟨bp, rfl, hbp⟩ := dp_bar hv
          exact ⟨_, _, rfl, cont _ _ ⟨k, bp, b, rfl, (f13.trans f4).trans f5, hD5, (row3.fr f4 (by simpa using BdN)).fr f5 (by simpa using BdN), (hp3.fr hD3 f4).fr hD4 f5, by omega, hbp, okb⟩⟩
        rintro σ' G4 ⟨k, bp, b, rfl, f14, hD4, row4, hp4, hk, hbp, okb⟩
        have hlt : bs.length < 40 := by omega
        have hlp : (bs.take k ++ [b] ++ bs.drop k).length = bs.length + 1 := by
          rw [List.length_append, List.length_append, List.length_take, List.length_drop]
          simp
          omega
        with_reducible refine seq_cont (fun σ' G => σ' = [some (.ref a), some (.ref d), some (.ref B), some (.ref p), some (.int (k : Int)), some (.ref bp), y6, y7] ∧ Fr [d] G1 G ∧ Dice G d ∧ RowAt K G B bs ∧ PartX K G p q (bs.take k ++ [b] ++ bs.drop k) [bs] ∧ SqT K G bp (barV b)) (fun cont => ?_) ?_
        · obtain ⟨dx4, rr4, ws4, h14, _⟩ := id hp4
          refine ⟨_, rfl, p, dx4, _, rfl, h14, pf_no (by decide +kernel) (by decide +kernel), _, rfl, _, rfl, p, q, k, _, b, bs, [], rfl, hp4, hk, dp_bar_of hbp, okb, hlt, by decide, fun H5 f5 hp5 => ?_⟩
          have f15 := f14.step f5 (by
            intro e he
            rcases List.mem_cons.mp he with rfl | he
            · exact .inl np
            · cases List.mem_singleton.mp he
              exact .inl nq)
          refine cont _ _ ⟨rfl, f15, ?_, row1.fr f15 (by simpa using BdN), hp5, f5.sqt hbp⟩
          refine hD4.keep f5 ?_
          obtain ⟨i, j, hij⟩ := id hD1
          simp [ne_of_none hij np, ne_of_none hij nq]
        rintro σ' G5 ⟨rfl, f15, hD5, row5, hp5, hbp5⟩
        obtain ⟨ev, he1, he2⟩ := id row5
        have hevl := bars_len he2
        -- bars
        refine ⟨_, rfl, _, rfl, _, rfl, B, ev, rfl, .of he1, fun c1 n1 => ?_⟩
        rw [cut_take]
        have t1 := same_upd (o := .lst (ev.take k)) n1
        refine ⟨_, rfl, by show (1 : Nat) ≤ sizeLine; decide, fun c2 n2 => ?_⟩
        have t2 := same_upd (o := .lst [.ref bp]) n2
        refine ⟨_, _, _, _, rfl, rfl, t2 _ _ upd_same, upd_same, ?_, fun c3 n3 => ?_⟩
        · rw [List.length_take]
          show min k ev.length + 1 ≤ sizeLine
          omega
        have t3 := same_upd (o := .lst (ev.take k ++ [.ref bp])) n3
        have t123 := (t1.trans t2).trans t3
        refine ⟨_, rfl, _, rfl, _, rfl, B, ev, rfl, .of (t123 _ _ he1), fun c4 n4 => ?_⟩
        rw [cut_drop]
        have t4 := same_upd (o := .lst (ev.drop k)) n4
        refine ⟨_, _, _, _, rfl, rfl, t4 _ _ upd_same, upd_same, ?_, fun c5 n5 => ?_⟩
        · rw [List.length_append, List.length_take, List.length_drop]
          show min k ev.length + 1 + (ev.length - k) ≤ sizeLine
          omega
        have t5 := same_upd (o := .lst (ev.take k ++ [.ref bp] ++ ev.drop k)) n5
        have t15 := (t123.trans t4).trans t5
        refine cont _ _ ⟨c5, _, [bs], _, _, rfl, f15.then t15, hD5.same t15, ⟨_, upd_same, ?_⟩, hp5.same t15, ok_put hbo okb, by omega, Nat.le_refl 1⟩
        show DpAll K _ _ ((bs.take k ++ [b] ++ bs.drop k).map barD)
        rw [List.map_append, List.map_append, List.map_take, List.map_drop]
        exact dpa_app (dpa_app (dpa_take k (dpa_same t15 he2)) (.cons (dp_bar_of (same_sqt t15 hbp5)) .nil)) (dpa_drop k (dpa_same t15 he2))
      rintro σ' G3 ⟨B, bs, past, y4, y5, rfl, f13, hD3, row3, hp3, hbo, hbl, hpl⟩
      have hR3 := hR1.turn hd f13 hD3
      have hT3 := Tabs.dice hT1 f13 hD1
      have BdN := row3.ne_dice hD3
      clear hR1 hT1 hD1 f13 row1 row2 hb1 hb2 hb1' s12 hp2 h1p
      -- text
      with_reducible refine seq_cont (fun σ' G => σ' = [some (.ref a), some (.ref d), some (.ref B), some (.ref p), y4, y5, some (.str (saveS bs)), y7] ∧ Same G3 G) (fun cont => ?_) ?_
      · exact ⟨_, rfl, p, q, bs, past, rfl, hp3, hbo, by omega, fun H' s' => cont _ _ ⟨rfl, s'⟩⟩
      rintro σ' G4 ⟨rfl, s34⟩
      -- other
      with_reducible refine seq_cont (fun σ' G => ∃ p2 q2, σ' = [some (.ref a), some (.ref d), some (.ref B), some (.ref p), y4, y5, some (.str (saveS bs)), some (.ref p2)] ∧ Same G4 G ∧ PartX K G p2 q2 bs [] ∧ G4 p2 = none ∧ G4 q2 = none) (fun cont => ?_) ?_
      · exact ⟨_, rfl, bs, rfl, hbo, hbl, fun H' p2 q2 s' np nq npq hp => cont _ _ ⟨p2, q2, rfl, s', hp, np, nq⟩⟩
      rintro σ' G5 ⟨p2, q2, rfl, s45, hp52, np2, nq2⟩
      have s35 := s34.trans s45
      have hp5 := hp3.same s35
      have row5 := row3.same s35
      have hD5 := hD3.same s35
      have hR5 := hR3.turn hd (Fr.of s35 _) hD5
      have hT5 := Tabs.same hT3 s35
      obtain ⟨dx, rr, wsr, h1p, _⟩ := id hp5
      obtain ⟨dx2, rr2, wsr2, h1p2, _⟩ := id hp52
      -- the woken one
      with_reducible refine seq_cont (fun σ' G => σ' = [some (.ref a), some (.ref d), some (.ref B), some (.ref p), y4, y5, some (.str (saveS bs)), some (.ref p2)] ∧ Same G5 G) (fun cont => ?_) ?_
      · refine ⟨_, rfl, _, _, _, _, _, rfl, .ty _, dp_ty (.str _), kit_str (.str _), _, rfl, iteF ⟨_, rfl, _, rfl, p2, dx2, _, rfl, h1p2, .inl ⟨p, _, _, rfl, h1p⟩, ⟨p2, q2, bs, [], _, rfl, hp52, .inl ⟨p, q, bs, past, rfl, hp5, _, rfl, _, rfl, ?_⟩⟩⟩⟩
        rw [decide_eq_true (show bs = bs from rfl)]
        refine iteF ⟨_, rfl, p2, dx2, _, rfl, h1p2, pf_no (by decide +kernel) (by decide +kernel), p2, q2, _, [], rfl, hp52, fun H6 a6 s6 na6 r6 => ⟨_, rfl, _, _, r6.dp, (row5.same s6).dp, (shp_bars _).ok (by decide), (shp_bars _).ok (by decide), _, rfl, ?_⟩⟩
        rw [SeqAt.eqv_refl _ (shp_bars _).1]
        refine iteF ⟨_, rfl, p2, q2, bs, [], rfl, hp52.same s6, hbo, by omega, fun H7 s7 => ⟨bs, rfl, hbo, hbl, fun H8 p3 q3 s8 np3 nq3 npq3 hp83 => ?_⟩⟩
        have s68 := (s6.trans s7).trans s8
        obtain ⟨dx3, rr3, wsr3, h1p3, _⟩ := id hp83
        refine ⟨_, rfl, p3, dx3, _, rfl, h1p3, .inl ⟨p, _, _, rfl, s68 _ _ h1p⟩, ⟨p3, q3, bs, [], _, rfl, hp83, .inl ⟨p, q, bs, past, rfl, hp5.same s68, _, rfl, _, rfl, ?_⟩⟩⟩
        rw [decide_eq_true (show bs = bs from rfl)]
        exact iteF (cont _ _ ⟨rfl, s68⟩)
      rintro σ' G6 ⟨rfl, s56⟩
      -- nothing to be taken back
      with_reducible refine seq_cont (fun σ' G => σ' = [some (.ref a), some (.ref d), some (.ref B), some (.ref p), y4, y5, some (.str (saveS bs)), some (.ref p2)] ∧ LamX.ExtN G5 G ∧ LamX.Tabs (TabL K "law") G) (fun cont => ?_) ?_
      · refine ⟨Tabs.same hT5 s56, fun F0 e1 t1 => ⟨_, rfl, p2, dx2, _, rfl, e1 _ _ (s56 _ _ h1p2) (fun ps z => by cases z), pf_no (by decide +kernel) (by decide +kernel), p2, q2, _, rfl, (hp52.same s56).ext e1, fun F1 f1 => .inl ⟨"Nothing", by decide +kernel, rfl, rfl, fun v1 F2 f2 d1 => ⟨by show (2 : Nat) ≤ sizeLine; decide, fun t nt => ?_⟩⟩⟩⟩
        have st := same_upd (o := .tup [.str "refused", .str "Nothing"]) nt
        refine ⟨refD2 "Nothing", refD2 "Nothing", dp_same st d1, .tup (.of upd_same) (.cons (.str _) (.cons (.str _) .nil)), by decide +kernel, by decide +kernel, _, rfl, ?_⟩
        rw [show PyData.eqv (refD2 "Nothing") (refD2 "Nothing") = true by decide +kernel]
        have fA := (f1.trans f2).trans st
        have eA := (LamX.ExtN.of s56).trans (e1.trans (.of fA))
        have tA := Tabs.same t1 fA
        have okn : ∀ b ∈ ([] : List Bar), BarOk b := fun b h => nomatch h
        refine iteF (make_part (.inl ⟨rfl, rfl⟩) okn (by decide) fun J1 p4 q4 j1 np4 nq4 npq4 hp4 => ⟨p4, q4, [], [], rfl, hp4, okn, by decide, fun J2 j2 => ⟨[], rfl, okn, by decide, fun J3 p5 q5 j3 np5 nq5 npq5 hp5' => make_part (.inl ⟨rfl, rfl⟩) okn (by decide) fun J4 p6 q6 j4 np6 nq6 npq6 hp6 => ?_⟩⟩)
        obtain ⟨dx5, _, _, h15, _⟩ := id hp5'
        obtain ⟨dx6, _, _, h16, _⟩ := id hp6
        refine ⟨p5, dx5, _, rfl, j4 _ _ h15, .inl ⟨p6, _, _, rfl, h16⟩, ⟨p5, q5, [], [], _, rfl, hp5'.same j4, .inl ⟨p6, q6, [], [], rfl, hp6, _, rfl, _, rfl, ?_⟩⟩⟩
        rw [decide_eq_true (show ([] : List Bar) = [] from rfl)]
        have jA := ((j1.trans j2).trans j3).trans j4
        exact iteF (cont _ _ ⟨rfl, eA.trans (.of jA), Tabs.same tA jA⟩)
      rintro σ' G7 ⟨rfl, e57, hT7⟩
      have hp7 := hp5.ext e57
      have hp72 := hp52.ext e57
      have row7 := row5.ext e57
      have hD7 := hD5.ext e57
      have hR7 := hR5.ext e57
      have e37 : LamX.ExtN G4 G7 := (LamX.ExtN.of s45).trans e57
      clear hp5 hp52 row5 hD5 hR5 hT5 h1p h1p2 s56
      obtain ⟨ev, he1, he2⟩ := id row7
      have hevl := bars_len he2
      have fin : ∀ {H' : Hp} {y4 y5 : Option V}, Rnd H' Rr ds → LamX.Tabs (TabL K "law") H' → (Rnd H' Rr ds ∧ LamX.Tabs (TabL K "law") H') ∧ ∃ z1 z2 z3 z4 z5 z6 z7, ([some (.ref a), some (.ref d), some (.ref B), some (.ref p), y4, y5, some (.str (saveS bs)), some (.ref p2)] : L2.St) = [some (.ref a), z1, z2, z3, z4, z5, z6, z7] := fun h1 h2 => ⟨⟨h1, h2⟩, _, _, _, _, _, _, _, rfl⟩
      refine ⟨_, rfl, by show (0 : Nat) ≤ sizeLine; decide, fun c0 n0 => ?_⟩
      have s0 := same_upd (o := .lst []) n0
      refine ⟨_, .list [], (row7.same s0).dp, .lst (.of upd_same) .nil, (shp_bars bs).ok (by decide), (shp_nil (n := 0)).ok (by decide), _, rfl, ?_⟩
      rw [show PyData.eqv (.list (barsD bs)) (.list []) = decide (bs = []) from eqv_bars bs []]
      by_cases hb0 : bs = []
      · rw [decide_eq_true hb0]
        exact iteF (fin (hR7.turn hd (Fr.of s0 _) (hD7.same s0)) (Tabs.same hT7 s0))
      rw [decide_eq_false hb0]
      refine iteT ?_
      have hb1 : 0 < bs.length := by
        cases bs with
        | nil => exact absurd rfl hb0
        | cons x r => exact Nat.succ_pos _
      have hp8 := hp7.same s0
      have hp82 := hp72.same s0
      have row8 := row7.same s0
      have hD8 := hD7.same s0
      have hR8 := hR7.turn hd (Fr.of s0 _) hD8
      have hT8 := Tabs.same hT7 s0
      have e48 := e37.trans (.of s0)
      have he8 := s0 _ _ he1
      generalize (upd G7 c0 (.lst [])) = G8 at hp8 hp82 row8 hD8 hR8 hT8 e48 he8 ⊢
      clear hp7 hp72 row7 hD7 hR7 hT7 s0 n0 e37 e57
      obtain ⟨dx2, rr2, wsr2, h1p2, _⟩ := id hp82
      -- drop
      with_reducible refine seq_cont (fun σ' G => ∃ k : Nat, σ' = [some (.ref a), some (.ref d), some (.ref B), some (.ref p), y4, y5, some (.str (saveS bs)), some (.ref p2)] ∧ k < bs.length ∧ LamX.Tabs (TabL K "law") G ∧ Rnd G Rr ds ∧ Dice G d ∧ PartX K G p q bs past ∧ RowAt K G B bs ∧ PartX K G p2 q2 (bs.take k ++ bs.drop (k + 1)) [bs]) (fun cont => ?_) ?_
      · refine ⟨_, rfl, p2, dx2, _, rfl, h1p2, pf_no (by decide +kernel) (by decide +kernel), _, rfl, _, rfl, _, _, rfl, .inl ⟨_, .of he8, rfl⟩, d, _, rfl, hD8, by omega, by omega, fun H9 k0 f9 hD9 k1 k2 => ?_⟩
        obtain ⟨k, rfl⟩ : ∃ k : Nat, k0 = (k : Int) := ⟨k0.toNat, by omega⟩
        have hp92 := hp82.fr hD8 f9
        refine ⟨p2, q2, k, bs, [], rfl, hp92, by omega, hbl, by decide, fun H10 f10 hp10 => ?_⟩
        have hp9 := hp8.fr hD8 f9
        have row9 := row8.fr f9 (by simpa using BdN)
        have hR9 := hR8.turn hd f9 hD9
        have hT9 := Tabs.dice hT8 f9 hD8
        have fN : FrN d G4 H10 := ⟨fun b o nb hb nt => f10.keep b o (by simp [ne_of_none hb np2, ne_of_none hb nq2]) (f9.keep b o (by simpa using nb) (e48 b o hb nt)), fun b xs hb => f10.tu _ _ (f9.tu _ _ (e48 _ _ hb (fun ps z => by cases z))), fun b o u hb => f10.fz _ _ _ (f9.fz _ _ _ (e48 _ _ hb (fun ps z => by cases z)))⟩
        have hD4 := hD3.same s34
        have hD10 : Dice H10 d := by
          obtain ⟨i, j, hij⟩ := id hD4
          exact hD9.keep f10 (by simp [ne_of_none hij np2, ne_of_none hij nq2])
        exact cont _ _ ⟨k, rfl, by omega, tabs_part hT9 f10 hp92, (hR3.turn hd (Fr.of s34 _) hD4).frN fN hd hD10, hD10, (hp3.same s34).frN hD4 fN, (row3.same s34).frN fN BdN, hp10⟩
      rintro σ' G9 ⟨k, rfl, hk, hT9, hR9, hD9, hp9, row9, hp92⟩
      obtain ⟨dx, rr, wsr, h1p, _⟩ := id hp9
      obtain ⟨dx2, rr2, wsr2, h1p2, _⟩ := id hp92
      have okd : ∀ b ∈ bs.take k ++ bs.drop (k + 1), BarOk b := fun x hx => by
        rcases List.mem_append.mp hx with hx | hx
        · exact hbo x (List.mem_of_mem_take hx)
        · exact hbo x (List.mem_of_mem_drop hx)
      have hld : (bs.take k ++ bs.drop (k + 1)).length + 1 = bs.length := by
        rw [List.length_append, List.length_take, List.length_drop]
        omega
      have nbs : bs.take k ++ bs.drop (k + 1) ≠ bs := fun e => by
        have := congrArg List.length e
        omega
      refine ⟨_, rfl, _, rfl, p2, dx2, _, rfl, h1p2, .inl ⟨p, _, _, rfl, h1p⟩, ⟨p2, q2, _, _, _, rfl, hp92, .inl ⟨p, q, bs, past, rfl, hp9, _, rfl, _, rfl, ?_⟩⟩⟩
      rw [decide_eq_false nbs]
      refine iteF ⟨_, rfl, p, dx, _, rfl, h1p, pf_no (by decide +kernel) (by decide +kernel), p, q, _, past, rfl, hp9, fun J1 a1 j1 na1 r1 => ⟨_, rfl, _, _, r1.dp, (row9.same j1).dp, (shp_bars _).ok (by decide), (shp_bars _).ok (by decide), _, rfl, ?_⟩⟩
      rw [SeqAt.eqv_refl _ (shp_bars _).1]
      refine iteF ⟨_, rfl, p2, q2, _, _, rfl, hp92.same j1, okd, by omega, fun J2 j2 => ⟨_, rfl, okd, by omega, fun J3 p3 q3 j3 np3 nq3 npq3 hp3' => ?_⟩⟩
      have j13 := (j1.trans j2).trans j3
      obtain ⟨dx3, rr3, wsr3, h1p3, _⟩ := id hp3'
      refine ⟨_, rfl, p3, dx3, _, rfl, h1p3, .inl ⟨p2, _, _, rfl, j13 _ _ h1p2⟩, ⟨p3, q3, _, [], _, rfl, hp3', .inl ⟨p2, q2, _, _, rfl, hp92.same j13, _, rfl, _, rfl, ?_⟩⟩⟩
      rw [decide_eq_true rfl]
      refine iteF ⟨_, rfl, p, q, bs, past, rfl, hp9.same j13, hbo, by omega, fun J4 j4 => ⟨_, rfl, rfl, _, rfl, iteSS rfl ?_⟩⟩
      have j14 := j13.trans j4
      exact fin (hR9.turn hd (Fr.of j14 _) (hD9.same j14)) (Tabs.same hT9 j14)
    · rintro σ H' ⟨_, y1, y2, y3, y4, y5, y6, y7, rfl⟩
      exact z _
abbrev R : PySem.W.OpenRow := PySem.W.OpenLaw.row PySem.Challenge.rw_turnedleaves_k80_whole_saved_and_woken
abbrev hk : PySem.W.Hook := hookY 6 fa fn tf ex
def ob (s : PySem.W.SharedT) : He.AlX := obsY 6 fa fn tf ex (HandSHeadRun.getT s)
theorem ob_eq (s : PySem.W.SharedT) : ob s = hk.obs s.abs := obsY_eq (HandSHeadRun.getT_eq s)
theorem run (w : World) : HandSHeadRun.RunEq R (PySem.W.view R.prog [35]) hk ob 20000 loose w := by
  intro os
  kernel_rfl
end TL
open PySem PySem.W PySem.Calls PyProof.Rows
set_option maxRecDepth 100000 in
set_option maxHeartbeats 0 in
theorem PySem.Challenge.cw_turnedleaves_k80_whole_saved_and_woken_holds : PySem.Challenge.rw_turnedleaves_k80_whole_saved_and_woken.Holds := by
  w_on; o_law
  refine HandSHeadRun.head_any (r := OpenLaw.row PySem.Challenge.rw_turnedleaves_k80_whole_saved_and_woken) (q := view (OpenLaw.row PySem.Challenge.rw_turnedleaves_k80_whole_saved_and_woken).prog [35]) (H := TL.hk) (ob := TL.ob) (M := 20000) (loose := TL.loose) (d := HandSHeadRun.topDef (OpenLaw.row PySem.Challenge.rw_turnedleaves_k80_whole_saved_and_woken).prog 35) (kwd := []) TL.ob_eq
    (by kernel_rfl) (fun s => by kernel_rfl) TL.run (by kernel_rfl) (by kernel_rfl) (by kernel_rfl) (by rfl) (by first | assumption | decide +kernel) (by decide +kernel) ⟨rfl, rfl, rfl, rfl, rfl, by decide +kernel⟩ ?hw ?hc
  case hw => w_witness2
  case hc =>
    refine LamX.walk_ofTsE (l := PySem.Challenge.rw_turnedleaves_k80_whole_saved_and_woken) (n := 63) (k := 20) (x := "script") (CX := fun _ => L2.CX0) rfl (by decide) (by kernel_rfl) ⟨rfl, by decide, by decide⟩ ?F (fun _ _ _ _ _ z => z)
    intro w mg fa h Y G hmg0
    obtain ⟨K, KX, c⟩ := Y
    have hmg : mg ("law" : PySem.Str) = some (.ref fa) := by
      have e : (HandSHeadRun.topDef (OpenLaw.row PySem.Challenge.rw_turnedleaves_k80_whole_saved_and_woken).prog 35).name = ("law" : PySem.Str) := by kernel_rfl
      rw [← e]
      exact hmg0
    have T : TL.Txt K mg := TL.txt_of KX G c
    have e := hmg.symm.trans T.g_law
    cases e
    have b := L2.FunD.bindsA (ps := ["script"]) T.law fun _ _ _ _ _ _ us hl => match us, hl with | [_], _ => rfl
    refine ⟨K, KX, TL.fdOf K ("law", none), TL.tf.map (He.cT K), TL.sp_lawT K "law", ?_, ?_, ?_, fun s v => b s [v] rfl, fun H a ns hl _ hT hS => ⟨a, ns, rfl, hS, hl, fun p hp => ?_, fun _ => rfl⟩, fun base _ _ TB => TL.ok_law T (TB _ (List.mem_map.mpr ⟨_, List.mem_singleton.mpr rfl, rfl⟩))⟩
    · intro p hp
      obtain ⟨q, hq, rfl⟩ := List.mem_map.mp hp
      exact c.empty q hq
    · intro p hp
      obtain ⟨q, hq, rfl⟩ := List.mem_map.mp hp
      exact c.out q hq
    · intro p hp
      obtain ⟨q, hq, rfl⟩ := List.mem_map.mp hp
      exact codeHd_of_K KX (c.hd q hq)
    · cases List.mem_singleton.mp hp
      exact LamX.TabS.nil (hT _ (List.mem_map.mpr ⟨_, List.mem_singleton.mpr rfl, rfl⟩))
