import PyProof.Rows.All
import Wide.All
import OpenK.AllK
import Wide.FinOn
import KE.KStateDown
import Lean
import HandS.ForMost
import HandS.Exc
import HandS.TryOnly
import HandS.ExcOwn
import HandS.WordsExc
import HandS.More
import HandS.Flow
import HandS.Style
import HandS.IsInst
import HandS.Deep
import KE.DataFind
import KE.GoesEnum
import HandS.WideBits
import HandS.TupAny
import HandS.TupLe
import HandS.Wide
import HandS.FStr
import HandS.Zip
import HandS.Conv
import HandS.Codes
import HandS.OwnEq
import HandS.SortOrd
import HandS.DictTup
import HandS.Defaults
import HandS.SetFor
import HandS.Small
import HandS.ForDict
import KE.KDictDisplayH
import KE.DataMinMax
import KE.SortData
import HandS.Walk
import HandS.TupLen
import PyProof.Rows.TupDisplay
import HandS.Head0
import HandS.Head1
import HandS.Head2
import HandS.HeadEnd
import HandS.HeadHook1
import HandS.HeadHook2
import HandS.HeadHook3
import HandS.HeadHook4
import HandS.ExcCtx
import HandS.TryMany
import HandS.Hot
import HandS.ExcIs
import HandS.ExcValue
import KE.KExcIs
import HandS.HotCalls
import HandS.ExcInitHot
import HandS.ExcField
import HandS.Lambda
import HandS.EndTab
import HandS.HeadWalk
import KE.KNestM
import HandS.ExcInit
import KE.KDictZip
import KE.KItemsList
import HandS.ListItems
import HandS.Text
import HandS.StrMore
import HandS.Steps
import PySem.Challenge.RW_turnedleaves_k83_refusals_apart
set_option Elab.async false
set_option linter.all false
set_option maxRecDepth 100000
set_option maxHeartbeats 4000000
namespace TL
open PySem PySem.Spec PyProof.Rows L2
/-! ### defs by name -/
def fdOf (K : PySem.W.Frag) (p : Str × Option Str) : FuncData := match K.lookup (He.fAd K p) with
  | some ⟨_, _, .func fd, _⟩ => fd
  | _ => PySem.W.fnOf "" "" { posonlyargs := [], args := [], vararg := none, kwonlyargs := [], kw_defaults := [], kwarg := none, defaults := [] } [] { kind := .function, names := [], isGenerator := false, isCoroutine := false } .none .none .none .none none .none .none
abbrev Df (K : PySem.W.Frag) (p : Str × Option Str) (x q : Str) (st : Stmt) (dv : List V) : Prop := FunD K x q (defArgs st) (defBody st) (defScope st) dv [] (He.fAd K p) (fdOf K p)
theorem df_of {K : PySem.W.Frag} {p : Str × Option Str} {x q : Str} {pa : Arguments} {bd : List Stmt} {sc : Scope} {dv : List V} {kw : List (Str × V)} (h : ∃ fd, FunD K x q pa bd sc dv kw (He.fAd K p) fd) : FunD K x q pa bd sc dv kw (He.fAd K p) (fdOf K p) := by
  obtain ⟨fd, F⟩ := h
  obtain ⟨oc, od, dV, kV, doc, pm, an, cdv, ct, osl, e, lk, _⟩ := id F.ex
  have e2 : fdOf K p = fd := by
    unfold fdOf
    rw [lk]
  rw [e2]
  exact F
abbrev OkF (P : Program) (w : World) (K : PySem.W.Frag) (mg : Str → Option Value) (base : Heap) (CX : CXT) (k : Nat) (p : Str × Option Str) (ps : List Str) (sp : Sp) : Prop := FnOk P w K mg base CX k (He.fAd K p) (fdOf K p) ps sp
section
variable {P : Program} {w : World} {K : PySem.W.Frag} {mg : Str → Option Value} {base : Heap} {x qual : Str} {params : Arguments} {body : List Stmt} {scope : Scope} {dvs : List V} {kws : List (Str × V)} {f : Addr} {fd : FuncData}
theorem okN {N ps : List Str} {k : Nat} {sp : Sp} (F : FunD K x qual params body scope dvs kws f fd) (S : FnScope N ps scope) (len : ∀ vs H Q E, sp vs H Q E → vs.length = ps.length)
    (hbody : ∀ (cdv : Value) (A : Around) (outer : List Env) (s : Shared) (H : Hp) (vs : List V) (Q : VK) (E : XK), Room k (A.deeper (envOfC qual scope s.heap.objs.size f cdv)) → sp vs H Q E →
      ∃ t, PSs (cxOf CX0 P w K mg base N qual scope f cdv A outer s H E).nox body t ∧ t { nx := fun _ H' => Q .non H', rt := Q } (start N vs) H) : FnOk P w K mg base CX0 (k + 1) f fd ps sp := by
  refine F.ok S len fun cdv A outer s H vs Q E hr hsp => ?_
  obtain ⟨t, h, q⟩ := hbody cdv A outer s H vs Q E hr hsp
  exact ⟨t, h.nox, q⟩
end
/-! ### heaps -/
theorem same_upd {H : Hp} {p : Addr} {o : HO} (h : H p = none) : Same H (upd H p o) := fun b x e => by
  rw [upd_ne (ne_of_none e h)]
  exact e
theorem same_updR {H H1 : Hp} {p : Addr} {o : HO} (s : Same H H1) (h : H p = none) : Same H (upd H1 p o) := fun b x e => by
  rw [upd_ne (ne_of_none e h)]
  exact s b x e
theorem same_sqt {K : PySem.W.Frag} {H H' : Hp} {a : Addr} {xs : List V} (e : Same H H') (h : SqT K H a xs) : SqT K H' a xs := by
  rcases h with (h | ⟨o, h⟩) | h
  · exact .inl (.inl (e _ _ h))
  · exact .inl (.inr ⟨o, e _ _ h⟩)
  · exact .inr h
/-- all that was tracked is as it was but at ds; tuples and what is locked stay -/
structure Fr (ds : List Addr) (H H' : Hp) : Prop where
  keep : ∀ b o, b ∉ ds → H b = some o → H' b = some o
  tu : ∀ b xs, H b = some (.tup xs) → H' b = some (.tup xs)
  fz : ∀ b o u, H b = some (.frz o u) → H' b = some (.frz o u)
theorem Fr.of {H H' : Hp} (s : Same H H') (ds : List Addr) : Fr ds H H' := ⟨fun b o _ e => s b o e, fun b xs e => s b _ e, fun b o u e => s b _ e⟩
theorem Fr.refl (ds : List Addr) (H : Hp) : Fr ds H H := Fr.of (Same.refl H) ds
theorem Fr.trans {ds : List Addr} {H H1 H2 : Hp} (a : Fr ds H H1) (b : Fr ds H1 H2) : Fr ds H H2 := ⟨fun c o n e => b.keep c o n (a.keep c o n e), fun c xs e => b.tu c xs (a.tu c xs e), fun c o u e => b.fz c o u (a.fz c o u e)⟩
theorem Fr.mono {ds es : List Addr} {H H1 : Hp} (a : Fr ds H H1) (h : ∀ d ∈ ds, d ∈ es) : Fr es H H1 := ⟨fun c o n e => a.keep c o (fun z => n (h c z)) e, a.tu, a.fz⟩
theorem Fr.same {H H' : Hp} (a : Fr [] H H') : Same H H' := fun b o e => a.keep b o (by simp) e
theorem Fr.upd {d : Addr} {ds : List Addr} {H : Hp} {o u : HO} (h : H d = some o) (m : Mut (some o)) (hd : d ∈ ds) : Fr ds H (L2.upd H d u) := by
  have ne : ∀ b v, H b = some v → ¬ Mut (some v) → b ≠ d := fun b v e nm z => by
    subst z
    rw [h] at e
    cases e
    exact nm m
  refine ⟨fun b v n e => ?_, fun b xs e => ?_, fun b ob w e => ?_⟩
  · rw [upd_ne (show b ≠ d from fun z => n (by rw [z]; exact hd))]
    exact e
  · rw [upd_ne (ne b _ e fun z => z)]
    exact e
  · rw [upd_ne (ne b _ e fun z => z)]
    exact e
theorem Fr.sqt {K : PySem.W.Frag} {ds : List Addr} {H H' : Hp} {a : Addr} {xs : List V} (e : Fr ds H H') (h : SqT K H a xs) : SqT K H' a xs := by
  rcases h with (h | ⟨o, h⟩) | h
  · exact .inl (.inl (e.tu _ _ h))
  · exact .inl (.inr ⟨o, e.fz _ _ _ h⟩)
  · exact .inr h
/-! ### data -/
mutual
/-- no list in it -/
def isT : PyData → Bool
  | .none => true
  | .bool _ => true
  | .int _ => true
  | .str _ => true
  | .list _ => false
  | .tuple xs => isTs xs
  | .dict _ => false
def isTs : List PyData → Bool
  | [] => true
  | x :: xs => isT x && isTs xs
end
section
variable {K : PySem.W.Frag} {H H' : Hp}
mutual
theorem dp_tu (e : ∀ a xs, SqT K H a xs → SqT K H' a xs) : ∀ {v : V} {d : PyData}, Dp K H v d → isT d = true → Dp K H' v d
  | _, _, .non, _ => .non
  | _, _, .bl b, _ => .bl b
  | _, _, .int i, _ => .int i
  | _, _, .str x, _ => .str x
  | _, _, .lst _ _, h => by cases h
  | _, _, .tup s a, h => .tup (e _ _ s) (dpa_tu e a h)
theorem dpa_tu (e : ∀ a xs, SqT K H a xs → SqT K H' a xs) : ∀ {vs : List V} {ds : List PyData}, DpAll K H vs ds → isTs ds = true → DpAll K H' vs ds
  | _, _, .nil, _ => .nil
  | _, _, .cons d r, h => by
    obtain ⟨h1, h2⟩ := Bool.and_eq_true_iff.mp h
    exact .cons (dp_tu e d h1) (dpa_tu e r h2)
end
mutual
theorem dp_same (e : Same H H') : ∀ {v : V} {d : PyData}, Dp K H v d → Dp K H' v d
  | _, _, .non => .non
  | _, _, .bl b => .bl b
  | _, _, .int i => .int i
  | _, _, .str x => .str x
  | _, _, .lst s a => .lst (e.seq s) (dpa_same e a)
  | _, _, .tup s a => .tup (same_sqt e s) (dpa_same e a)
theorem dpa_same (e : Same H H') : ∀ {vs : List V} {ds : List PyData}, DpAll K H vs ds → DpAll K H' vs ds
  | _, _, .nil => .nil
  | _, _, .cons d r => .cons (dp_same e d) (dpa_same e r)
end
theorem Fr.dp {ds : List Addr} (e : Fr ds H H') {v : V} {d : PyData} (h : Dp K H v d) (t : isT d = true) : Dp K H' v d := dp_tu (fun _ _ z => e.sqt z) h t
theorem Fr.dpa {ds : List Addr} (e : Fr ds H H') {vs : List V} {xs : List PyData} (h : DpAll K H vs xs) (t : isTs xs = true) : DpAll K H' vs xs := dpa_tu (fun _ _ z => e.sqt z) h t
theorem dpa_len : ∀ {vs : List V} {ds : List PyData}, DpAll K H vs ds → vs.length = ds.length
  | _, _, .nil => rfl
  | _, _, .cons _ r => congrArg Nat.succ (dpa_len r)
theorem dpa_at : ∀ {vs : List V} {ds : List PyData} {i : Nat} {v : V}, DpAll K H vs ds → vs[i]? = some v → ∃ d, ds[i]? = some d ∧ Dp K H v d
  | _, _, _, _, .nil, e => by simp at e
  | _, _, 0, _, .cons d r, e => by simp at e; subst e; exact ⟨_, rfl, d⟩
  | _, _, i + 1, v, .cons d r, e => by
    obtain ⟨d', h1, h2⟩ := dpa_at (i := i) (v := v) r (by simpa using e)
    exact ⟨d', by simpa using h1, h2⟩
theorem dpa_atD : ∀ {vs : List V} {ds : List PyData} {i : Nat} {d : PyData}, DpAll K H vs ds → ds[i]? = some d → ∃ v, vs[i]? = some v ∧ Dp K H v d
  | _, _, _, _, .nil, e => by simp at e
  | _, _, 0, _, .cons d r, e => by simp at e; subst e; exact ⟨_, rfl, d⟩
  | _, _, i + 1, v, .cons d r, e => by
    obtain ⟨d', h1, h2⟩ := dpa_atD (i := i) (d := v) r (by simpa using e)
    exact ⟨d', by simpa using h1, h2⟩
theorem dpa_app : ∀ {vs ws : List V} {ds es : List PyData}, DpAll K H vs ds → DpAll K H ws es → DpAll K H (vs ++ ws) (ds ++ es)
  | _, _, _, _, .nil, h => h
  | _, _, _, _, .cons d r, h => .cons d (dpa_app r h)
theorem dpa_snoc {vs : List V} {ds : List PyData} {v : V} {d : PyData} (h : DpAll K H vs ds) (e : Dp K H v d) : DpAll K H (vs ++ [v]) (ds ++ [d]) := dpa_app h (.cons e .nil)
theorem dpa_take : ∀ {vs : List V} {ds : List PyData} (n : Nat), DpAll K H vs ds → DpAll K H (vs.take n) (ds.take n)
  | _, _, 0, _ => .nil
  | _, _, _ + 1, .nil => .nil
  | _, _, n + 1, .cons d r => .cons d (dpa_take n r)
theorem dpa_drop : ∀ {vs : List V} {ds : List PyData} (n : Nat), DpAll K H vs ds → DpAll K H (vs.drop n) (ds.drop n)
  | _, _, 0, h => h
  | _, _, _ + 1, .nil => .nil
  | _, _, n + 1, .cons d r => dpa_drop n r
theorem dpa_rev : ∀ {vs : List V} {ds : List PyData}, DpAll K H vs ds → DpAll K H vs.reverse ds.reverse
  | _, _, .nil => .nil
  | _, _, .cons d r => by
    rw [List.reverse_cons, List.reverse_cons]
    exact dpa_snoc (dpa_rev r) d
theorem dpa1 {xs : List V} {d0 : PyData} (h : DpAll K H xs [d0]) : ∃ v0, xs = [v0] ∧ Dp K H v0 d0 := by
  cases h with
  | cons h0 r =>
    cases r
    exact ⟨_, rfl, h0⟩
theorem dpa2 {xs : List V} {d0 d1 : PyData} (h : DpAll K H xs [d0, d1]) : ∃ v0 v1, xs = [v0, v1] ∧ Dp K H v0 d0 ∧ Dp K H v1 d1 := by
  cases h with
  | cons h0 r =>
    cases r with
    | cons h1 r =>
      cases r
      exact ⟨_, _, rfl, h0, h1⟩
theorem dpa3 {xs : List V} {d0 d1 d2 : PyData} (h : DpAll K H xs [d0, d1, d2]) : ∃ v0 v1 v2, xs = [v0, v1, v2] ∧ Dp K H v0 d0 ∧ Dp K H v1 d1 ∧ Dp K H v2 d2 := by
  cases h with
  | cons h0 r =>
    cases r with
    | cons h1 r =>
      cases r with
      | cons h2 r =>
        cases r
        exact ⟨_, _, _, rfl, h0, h1, h2⟩
theorem dpa4 {xs : List V} {d0 d1 d2 d3 : PyData} (h : DpAll K H xs [d0, d1, d2, d3]) : ∃ v0 v1 v2 v3, xs = [v0, v1, v2, v3] ∧ Dp K H v0 d0 ∧ Dp K H v1 d1 ∧ Dp K H v2 d2 ∧ Dp K H v3 d3 := by
  cases h with
  | cons h0 r =>
    cases r with
    | cons h1 r =>
      cases r with
      | cons h2 r =>
        cases r with
        | cons h3 r =>
          cases r
          exact ⟨_, _, _, _, rfl, h0, h1, h2, h3⟩
theorem len3 {α : Type} {l : List α} (h : l.length = 3) : ∃ a b c, l = [a, b, c] := by
  match l, h with
  | [a, b, c], _ => exact ⟨a, b, c, rfl⟩
theorem len2 {α : Type} {l : List α} (h : l.length = 2) : ∃ a b, l = [a, b] := by
  match l, h with
  | [a, b], _ => exact ⟨a, b, rfl⟩
theorem len4 {α : Type} {l : List α} (h : l.length = 4) : ∃ a b c d, l = [a, b, c, d] := by
  match l, h with
  | [a, b, c, d], _ => exact ⟨a, b, c, d, rfl⟩
/-- the type's name -/
def tyD : PyData → String
  | .none => "NoneType"
  | .bool _ => "bool"
  | .int _ => "int"
  | .str _ => "str"
  | .list _ => "list"
  | .tuple _ => "tuple"
  | .dict _ => "dict"
theorem dp_ty {v : V} {d : PyData} (h : Dp K H v d) : TyX K H v (.type (tyD d)) := by
  cases h with
  | non => exact .base .non
  | bl b => exact .base (.bl b)
  | int i => exact .base (.int i)
  | str x => exact .base (.str x)
  | lst s a =>
    rcases s with (s | ⟨o, s⟩) | ⟨o, its, n, k, c, _⟩
    · exact .base (.lst s)
    · exact .base (.frz s)
    · exact .kList k c
  | tup s a =>
    rcases s with (s | ⟨o, s⟩) | ⟨o, its, n, k, c, _⟩
    · exact .base (.tup s)
    · exact .fTuple s
    · exact .kTuple k c
end
/-! ### tests of numbers -/
section
variable {A B : Prop} {i j : Int}
theorem iteEQ (h : i = j) (x : A) : if decide (V.int i = V.int j) = true then A else B := by
  rw [decide_eq_true (congrArg V.int h)]
  exact iteT x
theorem iteNQ (h : i ≠ j) (x : B) : if decide (V.int i = V.int j) = true then A else B := by
  rw [decide_eq_false (fun e => h (V.int.inj e))]
  exact iteF x
theorem iteNEQ (h : i ≠ j) (x : A) : if (!decide (V.int i = V.int j)) = true then A else B := by
  rw [decide_eq_false (fun e => h (V.int.inj e))]
  exact iteT x
theorem iteNNQ (h : i = j) (x : B) : if (!decide (V.int i = V.int j)) = true then A else B := by
  rw [decide_eq_true (congrArg V.int h)]
  exact iteF x
theorem ite2Q (h1 : i = j → A) (h2 : i ≠ j → B) : if decide (V.int i = V.int j) = true then A else B := by
  by_cases h : i = j
  · exact iteEQ h (h1 h)
  · exact iteNQ h (h2 h)
theorem ite2NQ (h1 : i ≠ j → A) (h2 : i = j → B) : if (!decide (V.int i = V.int j)) = true then A else B := by
  by_cases h : i = j
  · exact iteNNQ h (h2 h)
  · exact iteNEQ h (h1 h)
theorem iteP {c : Prop} [Decidable c] (h : c) (x : A) : if decide c = true then A else B := by
  rw [decide_eq_true h]
  exact iteT x
theorem iteN {c : Prop} [Decidable c] (h : ¬ c) (x : B) : if decide c = true then A else B := by
  rw [decide_eq_false h]
  exact iteF x
theorem ite2P {c : Prop} [Decidable c] (h1 : c → A) (h2 : ¬ c → B) : if decide c = true then A else B := by
  by_cases h : c
  · exact iteP h (h1 h)
  · exact iteN h (h2 h)
theorem iteNP {c : Prop} [Decidable c] (h : ¬ c) (x : A) : if (!decide c) = true then A else B := by
  rw [decide_eq_false h]
  exact iteT x
theorem iteNN {c : Prop} [Decidable c] (h : c) (x : B) : if (!decide c) = true then A else B := by
  rw [decide_eq_true h]
  exact iteF x
end
/-! ### isinstance -/
def isIntB : PyData → Bool
  | .int _ => true
  | .bool _ => true
  | _ => false
def isBoolB : PyData → Bool
  | .bool _ => true
  | _ => false
def isTupB : PyData → Bool
  | .tuple _ => true
  | _ => false
def isLstB : PyData → Bool
  | .list _ => true
  | _ => false
def isStrB : PyData → Bool
  | .str _ => true
  | _ => false
section
variable {K : PySem.W.Frag}
theorem kit_int : ∀ d : PyData, PySem.W.kitOne K (.type (tyD d)) (.type "int") = some (isIntB d)
  | .none => kit_ty (a := "NoneType") (b := "int") (r := false) (by decide +kernel)
  | .bool _ => kit_ty (a := "bool") (b := "int") (r := true) (by decide +kernel)
  | .int _ => kit_ty (a := "int") (b := "int") (r := true) (by decide +kernel)
  | .str _ => kit_ty (a := "str") (b := "int") (r := false) (by decide +kernel)
  | .list _ => kit_ty (a := "list") (b := "int") (r := false) (by decide +kernel)
  | .tuple _ => kit_ty (a := "tuple") (b := "int") (r := false) (by decide +kernel)
  | .dict _ => kit_ty (a := "dict") (b := "int") (r := false) (by decide +kernel)
theorem kit_bool : ∀ d : PyData, PySem.W.kitOne K (.type (tyD d)) (.type "bool") = some (isBoolB d)
  | .none => kit_ty (a := "NoneType") (b := "bool") (r := false) (by decide +kernel)
  | .bool _ => kit_ty (a := "bool") (b := "bool") (r := true) (by decide +kernel)
  | .int _ => kit_ty (a := "int") (b := "bool") (r := false) (by decide +kernel)
  | .str _ => kit_ty (a := "str") (b := "bool") (r := false) (by decide +kernel)
  | .list _ => kit_ty (a := "list") (b := "bool") (r := false) (by decide +kernel)
  | .tuple _ => kit_ty (a := "tuple") (b := "bool") (r := false) (by decide +kernel)
  | .dict _ => kit_ty (a := "dict") (b := "bool") (r := false) (by decide +kernel)
theorem kit_tup : ∀ d : PyData, PySem.W.kitOne K (.type (tyD d)) (.type "tuple") = some (isTupB d)
  | .none => kit_ty (a := "NoneType") (b := "tuple") (r := false) (by decide +kernel)
  | .bool _ => kit_ty (a := "bool") (b := "tuple") (r := false) (by decide +kernel)
  | .int _ => kit_ty (a := "int") (b := "tuple") (r := false) (by decide +kernel)
  | .str _ => kit_ty (a := "str") (b := "tuple") (r := false) (by decide +kernel)
  | .list _ => kit_ty (a := "list") (b := "tuple") (r := false) (by decide +kernel)
  | .tuple _ => kit_ty (a := "tuple") (b := "tuple") (r := true) (by decide +kernel)
  | .dict _ => kit_ty (a := "dict") (b := "tuple") (r := false) (by decide +kernel)
theorem kit_lst : ∀ d : PyData, PySem.W.kitOne K (.type (tyD d)) (.type "list") = some (isLstB d)
  | .none => kit_ty (a := "NoneType") (b := "list") (r := false) (by decide +kernel)
  | .bool _ => kit_ty (a := "bool") (b := "list") (r := false) (by decide +kernel)
  | .int _ => kit_ty (a := "int") (b := "list") (r := false) (by decide +kernel)
  | .str _ => kit_ty (a := "str") (b := "list") (r := false) (by decide +kernel)
  | .list _ => kit_ty (a := "list") (b := "list") (r := true) (by decide +kernel)
  | .tuple _ => kit_ty (a := "tuple") (b := "list") (r := false) (by decide +kernel)
  | .dict _ => kit_ty (a := "dict") (b := "list") (r := false) (by decide +kernel)
theorem kit_str : ∀ d : PyData, PySem.W.kitOne K (.type (tyD d)) (.type "str") = some (isStrB d)
  | .none => kit_ty (a := "NoneType") (b := "str") (r := false) (by decide +kernel)
  | .bool _ => kit_ty (a := "bool") (b := "str") (r := false) (by decide +kernel)
  | .int _ => kit_ty (a := "int") (b := "str") (r := false) (by decide +kernel)
  | .str _ => kit_ty (a := "str") (b := "str") (r := true) (by decide +kernel)
  | .list _ => kit_ty (a := "list") (b := "str") (r := false) (by decide +kernel)
  | .tuple _ => kit_ty (a := "tuple") (b := "str") (r := false) (by decide +kernel)
  | .dict _ => kit_ty (a := "dict") (b := "str") (r := false) (by decide +kernel)
theorem isi {H : Hp} {x : V} {d : PyData} {n : String} {b : Bool} {Q : VK} (hd : Dp K H x d) (hk : PySem.W.kitOne K (.type (tyD d)) (.type n) = some b) (q : Q (.bl b) H) : rIsi K [x, .ty n] H Q := ⟨x, .ty n, _, _, b, rfl, .ty _, dp_ty hd, hk, q⟩
end
/-- a tuple of the written part -/
def tupIs (K : PySem.W.Frag) (a : Addr) (vs : List V) : Bool := match K.lookup a with
  | some ⟨.type c, _, .seq its _, _⟩ => decide (c = "tuple") && (decide (its.size ≤ sizeLine) && He.relAll vs its.toList)
  | _ => false
theorem tupIs_ok {K : PySem.W.Frag} {a : Addr} {vs : List V} (h : tupIs K a vs = true) (H : Hp) : SqT K H a vs := by
  unfold tupIs at h
  cases q : K.lookup a with
  | none =>
    rw [q] at h
    cases h
  | some o =>
    obtain ⟨oc, od, dt, osl⟩ := o
    rw [q] at h
    cases oc with
    | type c =>
      cases dt with
      | seq its n =>
        obtain ⟨h1, h2⟩ := He.ba h
        obtain ⟨h3, h4⟩ := He.ba h2
        exact .inr ⟨_, its, n, q, congrArg Value.type (of_decide_eq_true h1), rfl, of_decide_eq_true h3, He.relAll_ok h4⟩
      | _ => cases h
    | _ => cases dt <;> cases h
/-! ### the classes of refusals -/
def exNames : List Str := ["BadBar", "BadPlace", "BadDesk", "BadLayout", "BadRepeats", "Unlike", "Full", "Nothing", "BadText"]
/-- what is asked of the class C -/
structure ExF (K : PySem.W.Frag) (C : Addr) : Prop where
  ga : PySem.W.findIn K (.ref C) "__getattribute__" = some (some (.builtin "BaseException.__getattribute__"))
  gg : PySem.W.findIn K (.ref C) "__getattr__" = some none
  sub : PySem.W.subIn K (.ref C) (.type "BaseException") = some true
  hd : PySem.W.hasDictIn K C = true
  ca : PySem.W.findIn K (.ref C) "__class__" = some (some (.builtin "object.__class__"))
  mro : PySem.W.mroIn K C (.type "object") = some true
  ty : PySem.W.typeIn K (.ref C) = some (.type "type")
  kp : PySem.W.keepIn K (.ref C) = true
def exB (K : PySem.W.Frag) (n : Str) : Bool :=
  He.eqO (PySem.W.findIn K (.ref (He.ga K n)) "__getattribute__") (some (some (.builtin "BaseException.__getattribute__"))) && (He.eqO (PySem.W.findIn K (.ref (He.ga K n)) "__getattr__") (some none) &&
  (decide (PySem.W.subIn K (.ref (He.ga K n)) (.type "BaseException") = some true) && (PySem.W.hasDictIn K (He.ga K n) && (He.eqO (PySem.W.findIn K (.ref (He.ga K n)) "__class__") (some (some (.builtin "object.__class__"))) &&
  (decide (PySem.W.mroIn K (He.ga K n) (.type "object") = some true) && (decide (PySem.W.typeIn K (.ref (He.ga K n)) = some (.type "type")) && PySem.W.keepIn K (.ref (He.ga K n))))))))
theorem exB_ok {K : PySem.W.Frag} {n : Str} (h : exB K n = true) : ExF K (He.ga K n) := by
  obtain ⟨h1, h⟩ := He.ba h
  obtain ⟨h2, h⟩ := He.ba h
  obtain ⟨h3, h⟩ := He.ba h
  obtain ⟨h4, h⟩ := He.ba h
  obtain ⟨h5, h⟩ := He.ba h
  obtain ⟨h6, h⟩ := He.ba h
  obtain ⟨h7, h8⟩ := He.ba h
  exact ⟨He.eqO_ok h1, He.eqO_ok h2, of_decide_eq_true h3, h4, He.eqO_ok h5, of_decide_eq_true h6, of_decide_eq_true h7, h8⟩
/-- isinstance, except: each class is its own alone -/
structure ExK (K : PySem.W.Frag) (n : Str) : Prop where
  f : ExF K (He.ga K n)
  kit : ∀ m ∈ exNames, PySem.W.kitOne K (.ref (He.ga K n)) (.ref (He.ga K m)) = some (decide (n = m))
  val : PySem.W.kitOne K (.ref (He.ga K n)) (.type "ValueError") = some true
  exm : ∀ m ∈ ["BadLayout", "Unlike"], PySem.W.exmOne K (.ref (He.ga K n)) (.ref (He.ga K m)) = some (decide (n = m))
  leaf : PySem.W.exmOne K (.ref (He.ga K n)) (.ref (He.ga K "LeafError")) = some true
def exK1 (K : PySem.W.Frag) (n : Str) : Bool := exB K n && ((exNames.all fun m => decide (PySem.W.kitOne K (.ref (He.ga K n)) (.ref (He.ga K m)) = some (decide (n = m)))) && (decide (PySem.W.kitOne K (.ref (He.ga K n)) (.type "ValueError") = some true) &&
  ((["BadLayout", "Unlike"].all fun m => decide (PySem.W.exmOne K (.ref (He.ga K n)) (.ref (He.ga K m)) = some (decide (n = m)))) && decide (PySem.W.exmOne K (.ref (He.ga K n)) (.ref (He.ga K "LeafError")) = some true))))
def exAllB (K : PySem.W.Frag) : Bool := exNames.all fun n => exK1 K n
theorem exAll_ok {K : PySem.W.Frag} (h : exAllB K = true) : ∀ n ∈ exNames, ExK K n := fun n hn => by
  obtain ⟨h1, h⟩ := He.ba (show (exB K n && _) = true from List.all_eq_true.mp h n hn)
  obtain ⟨h2, h⟩ := He.ba h
  obtain ⟨h3, h⟩ := He.ba h
  obtain ⟨h4, h5⟩ := He.ba h
  exact ⟨exB_ok h1, fun m hm => of_decide_eq_true (List.all_eq_true.mp h2 m hm), of_decide_eq_true h3, fun m hm => of_decide_eq_true (List.all_eq_true.mp h4 m hm), of_decide_eq_true h5⟩
/-- those without an own __init__ -/
def exPlain : List Str := ["BadBar", "BadPlace", "BadDesk", "BadRepeats", "Full", "Nothing", "BadText"]
def exPlainB (K : PySem.W.Frag) : Bool := exPlain.all fun n => PySem.W.excIn K (He.ga K n) [.type "ValueError", .type "Exception", .type "BaseException", .type "object"] "ValueError.__new__"
theorem exPlain_ok {K : PySem.W.Frag} (h : exPlainB K = true) : ∀ n ∈ exPlain, PySem.W.excIn K (He.ga K n) [.type "ValueError", .type "Exception", .type "BaseException", .type "object"] "ValueError.__new__" = true := fun n hn => List.all_eq_true.mp h n hn
/-- those with one -/
def oexB (K : PySem.W.Frag) (C : Addr) : Bool := match K.lookup C with
  | some ⟨.type t, _, .cls cd, sl⟩ => decide (t = "type") && (match cd.mro, sl.toList with
    | .ref D :: bm, [_, _, _, _, some (.builtin n), _] => decide (D = C) && (decide (n = "ValueError.__new__") && (!cd.hasDel && (cd.hasDict && HandSPX.refsVE bm)))
    | _, _ => false)
  | _ => false
theorem oexB_ok {K : PySem.W.Frag} {C : Addr} (h : oexB K C = true) : ∃ nm q N bs bm sn sub ab col dd k0 k1 k2 k3 k5, K.lookup C = some (excClassObj nm q C N bs bm true sn sub ab col dd k0 k1 k2 k3 k5 "ValueError.__new__") ∧ HandSPX.refsVE bm = true := by
  unfold oexB at h
  split at h
  · rename_i t dd cd sl ho
    obtain ⟨h1, h2⟩ := He.ba h
    split at h2
    · rename_i D bm k0 k1 k2 k3 n k5 hm hs
      obtain ⟨g1, h3⟩ := He.ba h2
      obtain ⟨g2, h4⟩ := He.ba h3
      obtain ⟨g3, h5⟩ := He.ba h4
      obtain ⟨g4, g5⟩ := He.ba h5
      have e1 : D = C := of_decide_eq_true g1
      have e2 : n = "ValueError.__new__" := of_decide_eq_true g2
      have e0 : t = "type" := of_decide_eq_true h1
      have e3 : cd.hasDel = false := by cases q : cd.hasDel with | false => rfl | true => rw [q] at g3; cases g3
      obtain ⟨nm, bs, mro, ns, qn, hd, sn, sub, ab, col, del⟩ := cd
      dsimp only at hm e3 g4
      subst hm e3 g4 e1 e2 e0
      have e4 : sl = #[k0, k1, k2, k3, some (.builtin "ValueError.__new__"), k5] := by
        obtain ⟨l⟩ := sl
        exact congrArg Array.mk hs
      subst e4
      exact ⟨nm, qn, ns, bs, bm, sn, sub, ab, col, dd, k0, k1, k2, k3, k5, ho, g5⟩
    · cases h2
  · cases h
structure ExO2 (K : PySem.W.Frag) (n f : Str) : Prop where
  cls : ∃ nm q N bs bm sn sub ab col dd k0 k1 k2 k3 k5, K.lookup (He.ga K n) = some (excClassObj nm q (He.ga K n) N bs bm true sn sub ab col dd k0 k1 k2 k3 k5 "ValueError.__new__") ∧ HandSPX.refsVE bm = true
  sa : PySem.W.findIn K (.ref (He.ga K n)) "__setattr__" = some (some (.builtin "object.__setattr__"))
  no : PySem.W.findIn K (.ref (He.ga K n)) f = some none
  ini : PySem.W.findIn K (.ref (He.ga K n)) "__init__" = some (some (.ref (He.fAd K (n, some "__init__"))))
  fn : PySem.W.typeIn K (.ref (He.fAd K (n, some "__init__"))) = some (.type "function")
def exO2B (K : PySem.W.Frag) (n f : Str) : Bool := oexB K (He.ga K n) && (He.eqO (PySem.W.findIn K (.ref (He.ga K n)) "__setattr__") (some (some (.builtin "object.__setattr__"))) && (He.eqO (PySem.W.findIn K (.ref (He.ga K n)) f) (some none) &&
  (He.eqO (PySem.W.findIn K (.ref (He.ga K n)) "__init__") (some (some (.ref (He.fAd K (n, some "__init__"))))) && decide (PySem.W.typeIn K (.ref (He.fAd K (n, some "__init__"))) = some (.type "function")))))
theorem exO2_ok {K : PySem.W.Frag} {n f : Str} (h : exO2B K n f = true) : ExO2 K n f := by
  obtain ⟨h1, h⟩ := He.ba h
  obtain ⟨h2, h⟩ := He.ba h
  obtain ⟨h3, h⟩ := He.ba h
  obtain ⟨h4, h5⟩ := He.ba h
  exact ⟨oexB_ok h1, He.eqO_ok h2, He.eqO_ok h3, He.eqO_ok h4, of_decide_eq_true h5⟩
/-- LeafError.__init__ -/
def leafB (K : PySem.W.Frag) : Bool := PySem.W.readsIn K (He.ga K "LeafError") (.type "type") && (PySem.W.keepIn K (.ref (He.ga K "LeafError")) && (decide (PySem.W.specialIn K (.ref (He.ga K "LeafError")) "__getattribute__" = some (some (.builtin "type.__getattribute__"))) && (match PySem.W.findCls K (.ref (He.ga K "LeafError")) (.type "type") "__init__" with
  | some (.val (.builtin n)) => decide (n = "ValueError.__init__")
  | _ => false)))
structure LeafI (K : PySem.W.Frag) : Prop where
  rd : PySem.W.readsIn K (He.ga K "LeafError") (.type "type") = true
  kp : PySem.W.keepIn K (.ref (He.ga K "LeafError")) = true
  sp : PySem.W.specialIn K (.ref (He.ga K "LeafError")) "__getattribute__" = some (some (.builtin "type.__getattribute__"))
  fc : PySem.W.findCls K (.ref (He.ga K "LeafError")) (.type "type") "__init__" = some (.val (.builtin "ValueError.__init__"))
theorem leaf_ok {K : PySem.W.Frag} (h : leafB K = true) : LeafI K := by
  obtain ⟨h1, h⟩ := He.ba h
  obtain ⟨h2, h⟩ := He.ba h
  obtain ⟨h3, h4⟩ := He.ba h
  refine ⟨h1, h2, of_decide_eq_true h3, ?_⟩
  split at h4
  · rename_i n e
    rw [e, of_decide_eq_true h4]
  · cases h4
/-! ### the Hook, with the machine's own marks looked at, too -/
def asY (g : Addr → Option Obj) (n : Nat) : List Addr := cStatics :: He.asD g n
abbrev frY (g : Addr → Option Obj) (n : Nat) : PySem.W.Frag := He.frT g (asY g n)
def obsY (n : Nat) (fa : List He.Fa) (fn : List He.DefD) (tf : List He.Defn) (ex : PySem.W.Frag → Bool) (g : Addr → Option Obj) : He.AlX := (He.obsT fa fn [] (frY g n), ex (frY g n) && He.tabsB g tf (frY g n))
theorem saysY_of {n : Nat} {fa : List He.Fa} {fn : List He.DefD} {tf : List He.Defn} {ex : PySem.W.Frag → Bool} {w : World} {h : Heap} (e : obsY n fa fn tf ex h.get? = He.valX fn [] w) : He.SaysX fa fn [] tf ex w h (frY h.get? n) := by
  obtain ⟨m1, m2⟩ := He.ba (show (ex (frY h.get? n) && He.tabsB h.get? tf (frY h.get? n)) = true from congrArg (fun z : He.AlX => z.2) e)
  have tab : ∀ p ∈ tf, PySem.W.codeHdIn (frY h.get? n) (He.cT (frY h.get? n) p).1 (He.cT (frY h.get? n) p).2 = true ∧ ∃ o, h.get? (He.cT (frY h.get? n) p).2 = some o ∧ He.emptyTab o = true := fun p hp => by
    obtain ⟨c1, c2⟩ := He.ba (List.all_eq_true.mp m2 p hp)
    refine ⟨c1, ?_⟩
    cases q : h.get? (He.cT (frY h.get? n) p).2 with
    | none => rw [q] at c2; cases c2
    | some o => rw [q] at c2; exact ⟨o, rfl, c2⟩
  refine ⟨congrArg (fun z : He.AlX => z.1) e, m1, fun p hp => (tab p hp).1, fun p hp => ?_, fun p hp => ?_⟩ <;> obtain ⟨_, o, q, z⟩ := tab p hp
  · exact He.frT_none q z
  · rw [q, He.emptyTab_eq z]
def hookY (n : Nat) (fa : List He.Fa) (fn : List He.DefD) (tf : List He.Defn) (ex : PySem.W.Frag → Bool) : PySem.W.Hook where
  α := He.AlX
  obs := fun s => obsY n fa fn tf ex s.heap.get?
  val := fun w => He.valX fn [] w
  says := fun w h => ∃ K : PySem.W.Frag, K.In h ∧ He.SaysX fa fn [] tf ex w h K
  of := fun _ _ e => ⟨_, He.frT_in, saysY_of e⟩
  keeps := fun _ _ _ ⟨K, hK, c⟩ k => ⟨K, hK.keeps k, ⟨c.t, c.more, c.hd, c.out, fun p hp => k _ _ (c.empty p hp)⟩⟩
theorem obsY_eq {n : Nat} {fa : List He.Fa} {fn : List He.DefD} {tf : List He.Defn} {ex : PySem.W.Frag → Bool} {g : Addr → Option Obj} {s : Shared} (h : ∀ a, g a = s.heap.get? a) : obsY n fa fn tf ex g = (hookY n fa fn tf ex).obs s := by
  rw [show g = s.heap.get? from funext h] <;> rfl

def topS (i : Nat) : Stmt := PySem.Challenge.pw_turnedleaves_k83_refusals_apart.main.body.getD i (.Pass ⟨0, 0, 0, 0⟩)
abbrev s__wall : Stmt := topS 0
abbrev s_BadLayout_init : Stmt := inClass (topS 10) 0
abbrev s_Unlike_init : Stmt := inClass (topS 11) 0
abbrev s_is_number : Stmt := topS 14
abbrev s_is_bar : Stmt := topS 15
abbrev s_beats_of : Stmt := topS 16
abbrev s_Part_init : Stmt := inClass (topS 17) 0
abbrev s_Part_len : Stmt := inClass (topS 17) 1
abbrev s_Part_eq : Stmt := inClass (topS 17) 2
abbrev s_Part_str : Stmt := inClass (topS 17) 3
abbrev s_Part_bars : Stmt := inClass (topS 17) 4
abbrev s_Part_becomes : Stmt := inClass (topS 17) 5
abbrev s_Part_put : Stmt := inClass (topS 17) 6
abbrev s_Part_drop : Stmt := inClass (topS 17) 7
abbrev s_Part_take_back : Stmt := inClass (topS 17) 8
abbrev s_Part_ahead : Stmt := inClass (topS 17) 9
abbrev s_Part_behind : Stmt := inClass (topS 17) 10
abbrev s_Part_rest : Stmt := inClass (topS 17) 11
abbrev s_Part_wide : Stmt := inClass (topS 17) 12
abbrev s_both_of : Stmt := topS 19
abbrev s_together : Stmt := topS 20
abbrev s_need_desk : Stmt := topS 23
abbrev s_is_right : Stmt := topS 24
abbrev s_are_numbers : Stmt := topS 25
abbrev s_page_fault : Stmt := topS 26
abbrev s_fault_of : Stmt := topS 27
abbrev s_need_layout : Stmt := topS 28
abbrev s_page_with : Stmt := topS 29
abbrev s_page_of : Stmt := topS 30
abbrev s_may_turn : Stmt := topS 32
abbrev s_steps : Stmt := topS 33
abbrev s_begin_of : Stmt := topS 34
abbrev s_reached : Stmt := topS 35
abbrev s_best_from : Stmt := topS 36
abbrev s_layout : Stmt := topS 37
abbrev s_need_repeats : Stmt := topS 39
abbrev s_order_of : Stmt := topS 40
abbrev s_played : Stmt := topS 41
abbrev s_saved : Stmt := topS 45
abbrev s_need : Stmt := topS 46
abbrev s_figure : Stmt := topS 47
abbrev s_bar_of : Stmt := topS 48
abbrev s_woken : Stmt := topS 49
abbrev s__law_cell : Stmt := topS 51
abbrev s__law_drawn : Stmt := topS 52
abbrev s__law_roll : Stmt := topS 53
abbrev s__law_rounds : Stmt := topS 54
abbrev s__law_bar : Stmt := topS 55
abbrev s__law_met : Stmt := topS 56
abbrev s__law_alone : Stmt := topS 57
abbrev s_law : Stmt := topS 58
def dd_BadLayout_init : He.DefD := ⟨("BadLayout", some "__init__"), "__init__", "BadLayout.__init__", defArgs s_BadLayout_init, defBody s_BadLayout_init, defScope s_BadLayout_init, [], []⟩
def dd_Unlike_init : He.DefD := ⟨("Unlike", some "__init__"), "__init__", "Unlike.__init__", defArgs s_Unlike_init, defBody s_Unlike_init, defScope s_Unlike_init, [], []⟩
def dd_is_number : He.DefD := ⟨("is_number", none), "is_number", "is_number", defArgs s_is_number, defBody s_is_number, defScope s_is_number, [], []⟩
def dd_is_bar : He.DefD := ⟨("is_bar", none), "is_bar", "is_bar", defArgs s_is_bar, defBody s_is_bar, defScope s_is_bar, [], []⟩
def dd_beats_of : He.DefD := ⟨("beats_of", none), "beats_of", "beats_of", defArgs s_beats_of, defBody s_beats_of, defScope s_beats_of, [], []⟩
def dd_Part_init : He.DefD := ⟨("Part", some "__init__"), "__init__", "Part.__init__", defArgs s_Part_init, defBody s_Part_init, defScope s_Part_init, [.non], []⟩
def dd_Part_len : He.DefD := ⟨("Part", some "__len__"), "__len__", "Part.__len__", defArgs s_Part_len, defBody s_Part_len, defScope s_Part_len, [], []⟩
def dd_Part_eq : He.DefD := ⟨("Part", some "__eq__"), "__eq__", "Part.__eq__", defArgs s_Part_eq, defBody s_Part_eq, defScope s_Part_eq, [], []⟩
def dd_Part_str : He.DefD := ⟨("Part", some "__str__"), "__str__", "Part.__str__", defArgs s_Part_str, defBody s_Part_str, defScope s_Part_str, [], []⟩
def dd_Part_bars : He.DefD := ⟨("Part", some "bars"), "bars", "Part.bars", defArgs s_Part_bars, defBody s_Part_bars, defScope s_Part_bars, [], []⟩
def dd_Part_becomes : He.DefD := ⟨("Part", some "becomes"), "becomes", "Part.becomes", defArgs s_Part_becomes, defBody s_Part_becomes, defScope s_Part_becomes, [], []⟩
def dd_Part_put : He.DefD := ⟨("Part", some "put"), "put", "Part.put", defArgs s_Part_put, defBody s_Part_put, defScope s_Part_put, [], []⟩
def dd_Part_take_back : He.DefD := ⟨("Part", some "take_back"), "take_back", "Part.take_back", defArgs s_Part_take_back, defBody s_Part_take_back, defScope s_Part_take_back, [], []⟩
def dd_Part_ahead : He.DefD := ⟨("Part", some "ahead"), "ahead", "Part.ahead", defArgs s_Part_ahead, defBody s_Part_ahead, defScope s_Part_ahead, [], []⟩
def dd_Part_behind : He.DefD := ⟨("Part", some "behind"), "behind", "Part.behind", defArgs s_Part_behind, defBody s_Part_behind, defScope s_Part_behind, [], []⟩
def dd_Part_rest : He.DefD := ⟨("Part", some "rest"), "rest", "Part.rest", defArgs s_Part_rest, defBody s_Part_rest, defScope s_Part_rest, [], []⟩
def dd_Part_wide : He.DefD := ⟨("Part", some "wide"), "wide", "Part.wide", defArgs s_Part_wide, defBody s_Part_wide, defScope s_Part_wide, [], []⟩
def dd_both_of : He.DefD := ⟨("both_of", none), "both_of", "both_of", defArgs s_both_of, defBody s_both_of, defScope s_both_of, [], []⟩
def dd_together : He.DefD := ⟨("together", none), "together", "together", defArgs s_together, defBody s_together, defScope s_together, [], []⟩
def dd_need_desk : He.DefD := ⟨("need_desk", none), "need_desk", "need_desk", defArgs s_need_desk, defBody s_need_desk, defScope s_need_desk, [], []⟩
def dd_is_right : He.DefD := ⟨("is_right", none), "is_right", "is_right", defArgs s_is_right, defBody s_is_right, defScope s_is_right, [], []⟩
def dd_are_numbers : He.DefD := ⟨("are_numbers", none), "are_numbers", "are_numbers", defArgs s_are_numbers, defBody s_are_numbers, defScope s_are_numbers, [], []⟩
def dd_page_fault : He.DefD := ⟨("page_fault", none), "page_fault", "page_fault", defArgs s_page_fault, defBody s_page_fault, defScope s_page_fault, [], []⟩
def dd_fault_of : He.DefD := ⟨("fault_of", none), "fault_of", "fault_of", defArgs s_fault_of, defBody s_fault_of, defScope s_fault_of, [], []⟩
def dd_need_layout : He.DefD := ⟨("need_layout", none), "need_layout", "need_layout", defArgs s_need_layout, defBody s_need_layout, defScope s_need_layout, [], []⟩
def dd_page_with : He.DefD := ⟨("page_with", none), "page_with", "page_with", defArgs s_page_with, defBody s_page_with, defScope s_page_with, [], []⟩
def dd_page_of : He.DefD := ⟨("page_of", none), "page_of", "page_of", defArgs s_page_of, defBody s_page_of, defScope s_page_of, [], []⟩
def dd_may_turn : He.DefD := ⟨("may_turn", none), "may_turn", "may_turn", defArgs s_may_turn, defBody s_may_turn, defScope s_may_turn, [], []⟩
def dd_steps : He.DefD := ⟨("steps", none), "steps", "steps", defArgs s_steps, defBody s_steps, defScope s_steps, [], []⟩
def dd_begin_of : He.DefD := ⟨("begin_of", none), "begin_of", "begin_of", defArgs s_begin_of, defBody s_begin_of, defScope s_begin_of, [], []⟩
def dd_reached : He.DefD := ⟨("reached", none), "reached", "reached", defArgs s_reached, defBody s_reached, defScope s_reached, [], []⟩
def dd_best_from : He.DefD := ⟨("best_from", none), "best_from", "best_from", defArgs s_best_from, defBody s_best_from, defScope s_best_from, [], []⟩
def dd_layout : He.DefD := ⟨("layout", none), "layout", "layout", defArgs s_layout, defBody s_layout, defScope s_layout, [], []⟩
def dd_need_repeats : He.DefD := ⟨("need_repeats", none), "need_repeats", "need_repeats", defArgs s_need_repeats, defBody s_need_repeats, defScope s_need_repeats, [], []⟩
def dd_order_of : He.DefD := ⟨("order_of", none), "order_of", "order_of", defArgs s_order_of, defBody s_order_of, defScope s_order_of, [], []⟩
def dd_played : He.DefD := ⟨("played", none), "played", "played", defArgs s_played, defBody s_played, defScope s_played, [], []⟩
def dd_saved : He.DefD := ⟨("saved", none), "saved", "saved", defArgs s_saved, defBody s_saved, defScope s_saved, [], []⟩
def dd_need : He.DefD := ⟨("need", none), "need", "need", defArgs s_need, defBody s_need, defScope s_need, [], []⟩
def dd_figure : He.DefD := ⟨("figure", none), "figure", "figure", defArgs s_figure, defBody s_figure, defScope s_figure, [], []⟩
def dd_bar_of : He.DefD := ⟨("bar_of", none), "bar_of", "bar_of", defArgs s_bar_of, defBody s_bar_of, defScope s_bar_of, [], []⟩
def dd_woken : He.DefD := ⟨("woken", none), "woken", "woken", defArgs s_woken, defBody s_woken, defScope s_woken, [], []⟩
def dd__law_cell : He.DefD := ⟨("_law_cell", none), "_law_cell", "_law_cell", defArgs s__law_cell, defBody s__law_cell, defScope s__law_cell, [], []⟩
def dd__law_drawn : He.DefD := ⟨("_law_drawn", none), "_law_drawn", "_law_drawn", defArgs s__law_drawn, defBody s__law_drawn, defScope s__law_drawn, [], []⟩
def dd__law_roll : He.DefD := ⟨("_law_roll", none), "_law_roll", "_law_roll", defArgs s__law_roll, defBody s__law_roll, defScope s__law_roll, [], []⟩
def dd__law_rounds : He.DefD := ⟨("_law_rounds", none), "_law_rounds", "_law_rounds", defArgs s__law_rounds, defBody s__law_rounds, defScope s__law_rounds, [], []⟩
def dd__law_bar : He.DefD := ⟨("_law_bar", none), "_law_bar", "_law_bar", defArgs s__law_bar, defBody s__law_bar, defScope s__law_bar, [], []⟩
def dd__law_met : He.DefD := ⟨("_law_met", none), "_law_met", "_law_met", defArgs s__law_met, defBody s__law_met, defScope s__law_met, [], []⟩
def dd__law_alone : He.DefD := ⟨("_law_alone", none), "_law_alone", "_law_alone", defArgs s__law_alone, defBody s__law_alone, defScope s__law_alone, [], []⟩
def dd_law : He.DefD := ⟨("law", none), "law", "law", defArgs s_law, defBody s_law, defScope s_law, [], []⟩
def tf : List He.Defn := [("law", none)]
def fn_0 : List He.DefD := [dd_BadLayout_init, dd_Unlike_init, dd_is_number, dd_is_bar, dd_beats_of, dd_Part_init, dd_Part_len, dd_Part_eq, dd_Part_str, dd_Part_bars, dd_Part_becomes, dd_Part_put, dd_Part_take_back, dd_Part_ahead, dd_Part_behind, dd_Part_rest, dd_Part_wide, dd_both_of, dd_together, dd_need_desk, dd_is_right, dd_are_numbers, dd_page_fault, dd_fault_of, dd_need_layout]
def fn_1 : List He.DefD := [dd_page_with, dd_page_of, dd_may_turn, dd_steps, dd_begin_of, dd_reached, dd_best_from, dd_layout, dd_need_repeats, dd_order_of, dd_played, dd_saved, dd_need, dd_figure, dd_bar_of, dd_woken, dd__law_cell, dd__law_drawn, dd__law_roll, dd__law_rounds, dd__law_bar, dd__law_met, dd__law_alone, dd_law]
def fn : List He.DefD := fn_0 ++ fn_1
def fa_0 : List He.Fa := [.glo "is_number", .glo "is_bar", .glo "beats_of", .glo "both_of", .glo "together", .glo "need_desk", .glo "is_right", .glo "are_numbers", .glo "page_fault", .glo "fault_of", .glo "need_layout", .glo "page_with", .glo "page_of", .glo "may_turn", .glo "steps", .glo "begin_of", .glo "reached", .glo "best_from", .glo "layout", .glo "need_repeats", .glo "order_of", .glo "played", .glo "saved", .glo "need", .glo "figure"]
def fa_1 : List He.Fa := [.glo "bar_of", .glo "woken", .glo "_law_cell", .glo "_law_drawn", .glo "_law_roll", .glo "_law_rounds", .glo "_law_bar", .glo "_law_met", .glo "_law_alone", .glo "law", .free "len", .free "isinstance", .free "range", .free "list", .free "all", .free "int", .free "bool", .free "str", .free "tuple", .free "max", .free "min", .free "sum", .free "zip", .free "enumerate", .free "ValueError"]
def fa_2 : List He.Fa := [.int "MOST" 40, .glo "SIDES", .str "END" ".", .str "FIGURES" "0123456789", .glo "LeafError", .glo "BadBar", .glo "BadPlace", .glo "BadDesk", .glo "BadRepeats", .glo "Full", .glo "Nothing", .glo "BadText", .glo "BadLayout", .glo "Unlike", .cls "Part", .mkr "Part", .noat "Part" "row", .noat "Part" "past", .meth "Part" "__init__", .meth "Part" "__len__", .meth "Part" "__eq__", .meth "Part" "__str__", .meth "Part" "bars", .meth "Part" "becomes", .meth "Part" "put"]
def fa_3 : List He.Fa := [.meth "Part" "take_back", .meth "Part" "ahead", .meth "Part" "behind", .meth "Part" "rest", .meth "Part" "wide", .glo "Part"]
def fa : List He.Fa := fa_0 ++ fa_1 ++ fa_2 ++ fa_3
def exs_0 : List (PySem.W.Frag → Bool) := [(fun K => He.eqO (PySem.W.findIn K (.ref (He.ga K "Part")) "__class__") (some (some (.builtin "object.__class__")))), (fun K => He.eqO (PySem.W.specialIn K (.builtin "object.__class__") "__get__") (some (some (.builtin "getset_descriptor.__get__")))), (fun K => decide (PySem.W.takesIn K (.builtin "object.__class__") = some true)), (fun K => decide (PySem.W.mroIn K (He.ga K "Part") (.type "object") = some true)), (fun K => decide (PySem.W.kitOne K (.ref (He.ga K "Part")) (.ref (He.ga K "Part")) = some true)), (fun K => decide (PySem.W.kitOne K (.type "NoneType") (.ref (He.ga K "Part")) = some false)), (fun K => decide (PySem.W.kitOne K (.type "bool") (.ref (He.ga K "Part")) = some false)), (fun K => decide (PySem.W.kitOne K (.type "int") (.ref (He.ga K "Part")) = some false)), (fun K => decide (PySem.W.kitOne K (.type "str") (.ref (He.ga K "Part")) = some false)), (fun K => decide (PySem.W.kitOne K (.type "list") (.ref (He.ga K "Part")) = some false)), (fun K => decide (PySem.W.kitOne K (.type "tuple") (.ref (He.ga K "Part")) = some false)), (fun K => decide (PySem.W.kitOne K (.ref (He.ga K "Part")) (.type "list") = some false)), (fun K => decide (PySem.W.kitOne K (.ref (He.ga K "Part")) (.type "tuple") = some false)), (fun K => decide (PySem.W.kitOne K (.ref (He.ga K "Part")) (.type "int") = some false)), (fun K => decide (PySem.W.kitOne K (.ref (He.ga K "Part")) (.type "bool") = some false)), (fun K => decide (PySem.W.kitOne K (.ref (He.ga K "Part")) (.type "str") = some false)), (fun K => He.eqO (PySem.W.findIn K (.ref (He.ga K "Part")) "__ne__") (some (some (.builtin "object.__ne__")))), (fun K => PySem.W.notFirst K (He.ga K "Part") (.type "NoneType")), (fun K => PySem.W.notFirst K (He.ga K "Part") (.type "bool")), (fun K => PySem.W.notFirst K (He.ga K "Part") (.type "int")), (fun K => PySem.W.notFirst K (He.ga K "Part") (.type "str")), (fun K => PySem.W.notFirst K (He.ga K "Part") (.type "list")), (fun K => PySem.W.notFirst K (He.ga K "Part") (.type "tuple")), (fun K => tupIs K (He.ga K "SIDES") [.str "left", .str "right"]), (fun K => exAllB K)]
def exs_1 : List (PySem.W.Frag → Bool) := [(fun K => exPlainB K), (fun K => exO2B K "BadLayout" "page"), (fun K => exO2B K "Unlike" "bar"), (fun K => leafB K)]
def exs : List (PySem.W.Frag → Bool) := exs_0 ++ exs_1
def loose_0 : List PySem.Str := ["_wall", "LeafError", "BadBar", "BadPlace", "BadDesk", "BadRepeats", "Full", "Nothing", "BadText", "BadLayout", "Unlike", "MOST", "is_number", "is_bar", "beats_of", "Part", "both_of", "together", "SIDES", "need_desk", "is_right", "are_numbers", "page_fault", "fault_of", "need_layout"]
def loose_1 : List PySem.Str := ["page_with", "page_of", "may_turn", "steps", "begin_of", "reached", "best_from", "layout", "need_repeats", "order_of", "played", "END", "FIGURES", "saved", "need", "figure", "bar_of", "woken", "_law_cell", "_law_drawn", "_law_roll", "_law_rounds", "_law_bar", "_law_met", "_law_alone"]
def loose : List PySem.Str := loose_0 ++ loose_1
structure Txt (K : PySem.W.Frag) (mg : Str → Option Value) : Prop where
  BadLayout_init : Df K ("BadLayout", some "__init__") "__init__" "BadLayout.__init__" s_BadLayout_init []
  Unlike_init : Df K ("Unlike", some "__init__") "__init__" "Unlike.__init__" s_Unlike_init []
  is_number : Df K ("is_number", none) "is_number" "is_number" s_is_number []
  is_bar : Df K ("is_bar", none) "is_bar" "is_bar" s_is_bar []
  beats_of : Df K ("beats_of", none) "beats_of" "beats_of" s_beats_of []
  Part_init : Df K ("Part", some "__init__") "__init__" "Part.__init__" s_Part_init [.non]
  Part_len : Df K ("Part", some "__len__") "__len__" "Part.__len__" s_Part_len []
  Part_eq : Df K ("Part", some "__eq__") "__eq__" "Part.__eq__" s_Part_eq []
  Part_str : Df K ("Part", some "__str__") "__str__" "Part.__str__" s_Part_str []
  Part_bars : Df K ("Part", some "bars") "bars" "Part.bars" s_Part_bars []
  Part_becomes : Df K ("Part", some "becomes") "becomes" "Part.becomes" s_Part_becomes []
  Part_put : Df K ("Part", some "put") "put" "Part.put" s_Part_put []
  Part_take_back : Df K ("Part", some "take_back") "take_back" "Part.take_back" s_Part_take_back []
  Part_ahead : Df K ("Part", some "ahead") "ahead" "Part.ahead" s_Part_ahead []
  Part_behind : Df K ("Part", some "behind") "behind" "Part.behind" s_Part_behind []
  Part_rest : Df K ("Part", some "rest") "rest" "Part.rest" s_Part_rest []
  Part_wide : Df K ("Part", some "wide") "wide" "Part.wide" s_Part_wide []
  both_of : Df K ("both_of", none) "both_of" "both_of" s_both_of []
  together : Df K ("together", none) "together" "together" s_together []
  need_desk : Df K ("need_desk", none) "need_desk" "need_desk" s_need_desk []
  is_right : Df K ("is_right", none) "is_right" "is_right" s_is_right []
  are_numbers : Df K ("are_numbers", none) "are_numbers" "are_numbers" s_are_numbers []
  page_fault : Df K ("page_fault", none) "page_fault" "page_fault" s_page_fault []
  fault_of : Df K ("fault_of", none) "fault_of" "fault_of" s_fault_of []
  need_layout : Df K ("need_layout", none) "need_layout" "need_layout" s_need_layout []
  page_with : Df K ("page_with", none) "page_with" "page_with" s_page_with []
  page_of : Df K ("page_of", none) "page_of" "page_of" s_page_of []
  may_turn : Df K ("may_turn", none) "may_turn" "may_turn" s_may_turn []
  steps : Df K ("steps", none) "steps" "steps" s_steps []
  begin_of : Df K ("begin_of", none) "begin_of" "begin_of" s_begin_of []
  reached : Df K ("reached", none) "reached" "reached" s_reached []
  best_from : Df K ("best_from", none) "best_from" "best_from" s_best_from []
  layout : Df K ("layout", none) "layout" "layout" s_layout []
  need_repeats : Df K ("need_repeats", none) "need_repeats" "need_repeats" s_need_repeats []
  order_of : Df K ("order_of", none) "order_of" "order_of" s_order_of []
  played : Df K ("played", none) "played" "played" s_played []
  saved : Df K ("saved", none) "saved" "saved" s_saved []
  need : Df K ("need", none) "need" "need" s_need []
  figure : Df K ("figure", none) "figure" "figure" s_figure []
  bar_of : Df K ("bar_of", none) "bar_of" "bar_of" s_bar_of []
  woken : Df K ("woken", none) "woken" "woken" s_woken []
  _law_cell : Df K ("_law_cell", none) "_law_cell" "_law_cell" s__law_cell []
  _law_drawn : Df K ("_law_drawn", none) "_law_drawn" "_law_drawn" s__law_drawn []
  _law_roll : Df K ("_law_roll", none) "_law_roll" "_law_roll" s__law_roll []
  _law_rounds : Df K ("_law_rounds", none) "_law_rounds" "_law_rounds" s__law_rounds []
  _law_bar : Df K ("_law_bar", none) "_law_bar" "_law_bar" s__law_bar []
  _law_met : Df K ("_law_met", none) "_law_met" "_law_met" s__law_met []
  _law_alone : Df K ("_law_alone", none) "_law_alone" "_law_alone" s__law_alone []
  law : Df K ("law", none) "law" "law" s_law []
  g_is_number : mg "is_number" = some (.ref (He.fAd K ("is_number", none)))
  g_is_bar : mg "is_bar" = some (.ref (He.fAd K ("is_bar", none)))
  g_beats_of : mg "beats_of" = some (.ref (He.fAd K ("beats_of", none)))
  g_both_of : mg "both_of" = some (.ref (He.fAd K ("both_of", none)))
  g_together : mg "together" = some (.ref (He.fAd K ("together", none)))
  g_need_desk : mg "need_desk" = some (.ref (He.fAd K ("need_desk", none)))
  g_is_right : mg "is_right" = some (.ref (He.fAd K ("is_right", none)))
  g_are_numbers : mg "are_numbers" = some (.ref (He.fAd K ("are_numbers", none)))
  g_page_fault : mg "page_fault" = some (.ref (He.fAd K ("page_fault", none)))
  g_fault_of : mg "fault_of" = some (.ref (He.fAd K ("fault_of", none)))
  g_need_layout : mg "need_layout" = some (.ref (He.fAd K ("need_layout", none)))
  g_page_with : mg "page_with" = some (.ref (He.fAd K ("page_with", none)))
  g_page_of : mg "page_of" = some (.ref (He.fAd K ("page_of", none)))
  g_may_turn : mg "may_turn" = some (.ref (He.fAd K ("may_turn", none)))
  g_steps : mg "steps" = some (.ref (He.fAd K ("steps", none)))
  g_begin_of : mg "begin_of" = some (.ref (He.fAd K ("begin_of", none)))
  g_reached : mg "reached" = some (.ref (He.fAd K ("reached", none)))
  g_best_from : mg "best_from" = some (.ref (He.fAd K ("best_from", none)))
  g_layout : mg "layout" = some (.ref (He.fAd K ("layout", none)))
  g_need_repeats : mg "need_repeats" = some (.ref (He.fAd K ("need_repeats", none)))
  g_order_of : mg "order_of" = some (.ref (He.fAd K ("order_of", none)))
  g_played : mg "played" = some (.ref (He.fAd K ("played", none)))
  g_saved : mg "saved" = some (.ref (He.fAd K ("saved", none)))
  g_need : mg "need" = some (.ref (He.fAd K ("need", none)))
  g_figure : mg "figure" = some (.ref (He.fAd K ("figure", none)))
  g_bar_of : mg "bar_of" = some (.ref (He.fAd K ("bar_of", none)))
  g_woken : mg "woken" = some (.ref (He.fAd K ("woken", none)))
  g__law_cell : mg "_law_cell" = some (.ref (He.fAd K ("_law_cell", none)))
  g__law_drawn : mg "_law_drawn" = some (.ref (He.fAd K ("_law_drawn", none)))
  g__law_roll : mg "_law_roll" = some (.ref (He.fAd K ("_law_roll", none)))
  g__law_rounds : mg "_law_rounds" = some (.ref (He.fAd K ("_law_rounds", none)))
  g__law_bar : mg "_law_bar" = some (.ref (He.fAd K ("_law_bar", none)))
  g__law_met : mg "_law_met" = some (.ref (He.fAd K ("_law_met", none)))
  g__law_alone : mg "_law_alone" = some (.ref (He.fAd K ("_law_alone", none)))
  g_law : mg "law" = some (.ref (He.fAd K ("law", none)))
  b_len : mg "len" = none
  b_isinstance : mg "isinstance" = none
  b_range : mg "range" = none
  b_list : mg "list" = none
  b_all : mg "all" = none
  b_int : mg "int" = none
  b_bool : mg "bool" = none
  b_str : mg "str" = none
  b_tuple : mg "tuple" = none
  b_max : mg "max" = none
  b_min : mg "min" = none
  b_sum : mg "sum" = none
  b_zip : mg "zip" = none
  b_enumerate : mg "enumerate" = none
  b_ValueError : mg "ValueError" = none
  c_MOST : ∃ t, mg "MOST" = some (.int 40 t)
  g_SIDES : mg "SIDES" = some (.ref (He.ga K "SIDES"))
  c_END : ∃ t, mg "END" = some (.str "." t)
  c_FIGURES : ∃ t, mg "FIGURES" = some (.str "0123456789" t)
  g_LeafError : mg "LeafError" = some (.ref (He.ga K "LeafError"))
  g_BadBar : mg "BadBar" = some (.ref (He.ga K "BadBar"))
  g_BadPlace : mg "BadPlace" = some (.ref (He.ga K "BadPlace"))
  g_BadDesk : mg "BadDesk" = some (.ref (He.ga K "BadDesk"))
  g_BadRepeats : mg "BadRepeats" = some (.ref (He.ga K "BadRepeats"))
  g_Full : mg "Full" = some (.ref (He.ga K "Full"))
  g_Nothing : mg "Nothing" = some (.ref (He.ga K "Nothing"))
  g_BadText : mg "BadText" = some (.ref (He.ga K "BadText"))
  g_BadLayout : mg "BadLayout" = some (.ref (He.ga K "BadLayout"))
  g_Unlike : mg "Unlike" = some (.ref (He.ga K "Unlike"))
  cl_Part : Cls K (He.ga K "Part")
  mk_Part : Mk K (He.ga K "Part") (He.fAd K ("Part", some "__init__"))
  n_row : NoAttr K (He.ga K "Part") "row"
  n_past : NoAttr K (He.ga K "Part") "past"
  m_Part_init : Meth K (He.ga K "Part") "__init__" (He.fAd K ("Part", some "__init__"))
  m_Part_len : Meth K (He.ga K "Part") "__len__" (He.fAd K ("Part", some "__len__"))
  m_Part_eq : Meth K (He.ga K "Part") "__eq__" (He.fAd K ("Part", some "__eq__"))
  m_Part_str : Meth K (He.ga K "Part") "__str__" (He.fAd K ("Part", some "__str__"))
  m_Part_bars : Meth K (He.ga K "Part") "bars" (He.fAd K ("Part", some "bars"))
  m_Part_becomes : Meth K (He.ga K "Part") "becomes" (He.fAd K ("Part", some "becomes"))
  m_Part_put : Meth K (He.ga K "Part") "put" (He.fAd K ("Part", some "put"))
  m_Part_take_back : Meth K (He.ga K "Part") "take_back" (He.fAd K ("Part", some "take_back"))
  m_Part_ahead : Meth K (He.ga K "Part") "ahead" (He.fAd K ("Part", some "ahead"))
  m_Part_behind : Meth K (He.ga K "Part") "behind" (He.fAd K ("Part", some "behind"))
  m_Part_rest : Meth K (He.ga K "Part") "rest" (He.fAd K ("Part", some "rest"))
  m_Part_wide : Meth K (He.ga K "Part") "wide" (He.fAd K ("Part", some "wide"))
  k_class : PySem.W.findIn K (.ref (He.ga K "Part")) "__class__" = some (some (.builtin "object.__class__"))
  k_get : PySem.W.specialIn K (.builtin "object.__class__") "__get__" = some (some (.builtin "getset_descriptor.__get__"))
  k_takes : PySem.W.takesIn K (.builtin "object.__class__") = some true
  k_mro : PySem.W.mroIn K (He.ga K "Part") (.type "object") = some true
  k_self : PySem.W.kitOne K (.ref (He.ga K "Part")) (.ref (He.ga K "Part")) = some true
  k_NoneType : PySem.W.kitOne K (.type "NoneType") (.ref (He.ga K "Part")) = some false
  k_bool : PySem.W.kitOne K (.type "bool") (.ref (He.ga K "Part")) = some false
  k_int : PySem.W.kitOne K (.type "int") (.ref (He.ga K "Part")) = some false
  k_str : PySem.W.kitOne K (.type "str") (.ref (He.ga K "Part")) = some false
  k_list : PySem.W.kitOne K (.type "list") (.ref (He.ga K "Part")) = some false
  k_tuple : PySem.W.kitOne K (.type "tuple") (.ref (He.ga K "Part")) = some false
  k_nolist : PySem.W.kitOne K (.ref (He.ga K "Part")) (.type "list") = some false
  k_notuple : PySem.W.kitOne K (.ref (He.ga K "Part")) (.type "tuple") = some false
  k_noint : PySem.W.kitOne K (.ref (He.ga K "Part")) (.type "int") = some false
  k_nobool : PySem.W.kitOne K (.ref (He.ga K "Part")) (.type "bool") = some false
  k_nostr : PySem.W.kitOne K (.ref (He.ga K "Part")) (.type "str") = some false
  k_ne : PySem.W.findIn K (.ref (He.ga K "Part")) "__ne__" = some (some (.builtin "object.__ne__"))
  k_first_NoneType : PySem.W.notFirst K (He.ga K "Part") (.type "NoneType") = true
  k_first_bool : PySem.W.notFirst K (He.ga K "Part") (.type "bool") = true
  k_first_int : PySem.W.notFirst K (He.ga K "Part") (.type "int") = true
  k_first_str : PySem.W.notFirst K (He.ga K "Part") (.type "str") = true
  k_first_list : PySem.W.notFirst K (He.ga K "Part") (.type "list") = true
  k_first_tuple : PySem.W.notFirst K (He.ga K "Part") (.type "tuple") = true
  g_Part : mg "Part" = some (.ref (He.ga K "Part"))
  t_SIDES : tupIs K (He.ga K "SIDES") [.str "left", .str "right"] = true
  k_exc : exAllB K = true
  k_plain : exPlainB K = true
  k_BadLayout : exO2B K "BadLayout" "page" = true
  k_Unlike : exO2B K "Unlike" "bar" = true
  k_leaf : leafB K = true
def ex (K : PySem.W.Frag) : Bool := exs.all fun f => f K
theorem exAt {K : PySem.W.Frag} (h : ex K = true) (i : Nat) {f : PySem.W.Frag → Bool} (e : exs[i]? = some f) : f K = true := List.all_eq_true.mp h f (List.mem_of_getElem? e)
theorem txt_of {tf : List He.Defn} {w : World} {h h0 : Heap} {K : PySem.W.Frag} {mg : Str → Option Value} (X : K.In h) (G : h.Ns mainGlobals mg) (c : He.SaysX fa fn [] tf ex w h0 K) : Txt K mg := ⟨df_of (c.t.d.defs (d := dd_BadLayout_init) (by simp [fn, fn_0])),
  df_of (c.t.d.defs (d := dd_Unlike_init) (by simp [fn, fn_0])),
  df_of (c.t.d.defs (d := dd_is_number) (by simp [fn, fn_0])),
  df_of (c.t.d.defs (d := dd_is_bar) (by simp [fn, fn_0])),
  df_of (c.t.d.defs (d := dd_beats_of) (by simp [fn, fn_0])),
  df_of (c.t.d.defs (d := dd_Part_init) (by simp [fn, fn_0])),
  df_of (c.t.d.defs (d := dd_Part_len) (by simp [fn, fn_0])),
  df_of (c.t.d.defs (d := dd_Part_eq) (by simp [fn, fn_0])),
  df_of (c.t.d.defs (d := dd_Part_str) (by simp [fn, fn_0])),
  df_of (c.t.d.defs (d := dd_Part_bars) (by simp [fn, fn_0])),
  df_of (c.t.d.defs (d := dd_Part_becomes) (by simp [fn, fn_0])),
  df_of (c.t.d.defs (d := dd_Part_put) (by simp [fn, fn_0])),
  df_of (c.t.d.defs (d := dd_Part_take_back) (by simp [fn, fn_0])),
  df_of (c.t.d.defs (d := dd_Part_ahead) (by simp [fn, fn_0])),
  df_of (c.t.d.defs (d := dd_Part_behind) (by simp [fn, fn_0])),
  df_of (c.t.d.defs (d := dd_Part_rest) (by simp [fn, fn_0])),
  df_of (c.t.d.defs (d := dd_Part_wide) (by simp [fn, fn_0])),
  df_of (c.t.d.defs (d := dd_both_of) (by simp [fn, fn_0])),
  df_of (c.t.d.defs (d := dd_together) (by simp [fn, fn_0])),
  df_of (c.t.d.defs (d := dd_need_desk) (by simp [fn, fn_0])),
  df_of (c.t.d.defs (d := dd_is_right) (by simp [fn, fn_0])),
  df_of (c.t.d.defs (d := dd_are_numbers) (by simp [fn, fn_0])),
  df_of (c.t.d.defs (d := dd_page_fault) (by simp [fn, fn_0])),
  df_of (c.t.d.defs (d := dd_fault_of) (by simp [fn, fn_0])),
  df_of (c.t.d.defs (d := dd_need_layout) (by simp [fn, fn_0])),
  df_of (c.t.d.defs (d := dd_page_with) (by simp [fn, fn_1])),
  df_of (c.t.d.defs (d := dd_page_of) (by simp [fn, fn_1])),
  df_of (c.t.d.defs (d := dd_may_turn) (by simp [fn, fn_1])),
  df_of (c.t.d.defs (d := dd_steps) (by simp [fn, fn_1])),
  df_of (c.t.d.defs (d := dd_begin_of) (by simp [fn, fn_1])),
  df_of (c.t.d.defs (d := dd_reached) (by simp [fn, fn_1])),
  df_of (c.t.d.defs (d := dd_best_from) (by simp [fn, fn_1])),
  df_of (c.t.d.defs (d := dd_layout) (by simp [fn, fn_1])),
  df_of (c.t.d.defs (d := dd_need_repeats) (by simp [fn, fn_1])),
  df_of (c.t.d.defs (d := dd_order_of) (by simp [fn, fn_1])),
  df_of (c.t.d.defs (d := dd_played) (by simp [fn, fn_1])),
  df_of (c.t.d.defs (d := dd_saved) (by simp [fn, fn_1])),
  df_of (c.t.d.defs (d := dd_need) (by simp [fn, fn_1])),
  df_of (c.t.d.defs (d := dd_figure) (by simp [fn, fn_1])),
  df_of (c.t.d.defs (d := dd_bar_of) (by simp [fn, fn_1])),
  df_of (c.t.d.defs (d := dd_woken) (by simp [fn, fn_1])),
  df_of (c.t.d.defs (d := dd__law_cell) (by simp [fn, fn_1])),
  df_of (c.t.d.defs (d := dd__law_drawn) (by simp [fn, fn_1])),
  df_of (c.t.d.defs (d := dd__law_roll) (by simp [fn, fn_1])),
  df_of (c.t.d.defs (d := dd__law_rounds) (by simp [fn, fn_1])),
  df_of (c.t.d.defs (d := dd__law_bar) (by simp [fn, fn_1])),
  df_of (c.t.d.defs (d := dd__law_met) (by simp [fn, fn_1])),
  df_of (c.t.d.defs (d := dd__law_alone) (by simp [fn, fn_1])),
  df_of (c.t.d.defs (d := dd_law) (by simp [fn, fn_1])),
  He.glo_ok X G (c.t.d.facts (f := .glo "is_number") (by simp [fa, fa_0])),
  He.glo_ok X G (c.t.d.facts (f := .glo "is_bar") (by simp [fa, fa_0])),
  He.glo_ok X G (c.t.d.facts (f := .glo "beats_of") (by simp [fa, fa_0])),
  He.glo_ok X G (c.t.d.facts (f := .glo "both_of") (by simp [fa, fa_0])),
  He.glo_ok X G (c.t.d.facts (f := .glo "together") (by simp [fa, fa_0])),
  He.glo_ok X G (c.t.d.facts (f := .glo "need_desk") (by simp [fa, fa_0])),
  He.glo_ok X G (c.t.d.facts (f := .glo "is_right") (by simp [fa, fa_0])),
  He.glo_ok X G (c.t.d.facts (f := .glo "are_numbers") (by simp [fa, fa_0])),
  He.glo_ok X G (c.t.d.facts (f := .glo "page_fault") (by simp [fa, fa_0])),
  He.glo_ok X G (c.t.d.facts (f := .glo "fault_of") (by simp [fa, fa_0])),
  He.glo_ok X G (c.t.d.facts (f := .glo "need_layout") (by simp [fa, fa_0])),
  He.glo_ok X G (c.t.d.facts (f := .glo "page_with") (by simp [fa, fa_0])),
  He.glo_ok X G (c.t.d.facts (f := .glo "page_of") (by simp [fa, fa_0])),
  He.glo_ok X G (c.t.d.facts (f := .glo "may_turn") (by simp [fa, fa_0])),
  He.glo_ok X G (c.t.d.facts (f := .glo "steps") (by simp [fa, fa_0])),
  He.glo_ok X G (c.t.d.facts (f := .glo "begin_of") (by simp [fa, fa_0])),
  He.glo_ok X G (c.t.d.facts (f := .glo "reached") (by simp [fa, fa_0])),
  He.glo_ok X G (c.t.d.facts (f := .glo "best_from") (by simp [fa, fa_0])),
  He.glo_ok X G (c.t.d.facts (f := .glo "layout") (by simp [fa, fa_0])),
  He.glo_ok X G (c.t.d.facts (f := .glo "need_repeats") (by simp [fa, fa_0])),
  He.glo_ok X G (c.t.d.facts (f := .glo "order_of") (by simp [fa, fa_0])),
  He.glo_ok X G (c.t.d.facts (f := .glo "played") (by simp [fa, fa_0])),
  He.glo_ok X G (c.t.d.facts (f := .glo "saved") (by simp [fa, fa_0])),
  He.glo_ok X G (c.t.d.facts (f := .glo "need") (by simp [fa, fa_0])),
  He.glo_ok X G (c.t.d.facts (f := .glo "figure") (by simp [fa, fa_0])),
  He.glo_ok X G (c.t.d.facts (f := .glo "bar_of") (by simp [fa, fa_1])),
  He.glo_ok X G (c.t.d.facts (f := .glo "woken") (by simp [fa, fa_1])),
  He.glo_ok X G (c.t.d.facts (f := .glo "_law_cell") (by simp [fa, fa_1])),
  He.glo_ok X G (c.t.d.facts (f := .glo "_law_drawn") (by simp [fa, fa_1])),
  He.glo_ok X G (c.t.d.facts (f := .glo "_law_roll") (by simp [fa, fa_1])),
  He.glo_ok X G (c.t.d.facts (f := .glo "_law_rounds") (by simp [fa, fa_1])),
  He.glo_ok X G (c.t.d.facts (f := .glo "_law_bar") (by simp [fa, fa_1])),
  He.glo_ok X G (c.t.d.facts (f := .glo "_law_met") (by simp [fa, fa_1])),
  He.glo_ok X G (c.t.d.facts (f := .glo "_law_alone") (by simp [fa, fa_1])),
  He.glo_ok X G (c.t.d.facts (f := .glo "law") (by simp [fa, fa_1])),
  He.free_ok X G (c.t.d.facts (f := .free "len") (by simp [fa, fa_1])),
  He.free_ok X G (c.t.d.facts (f := .free "isinstance") (by simp [fa, fa_1])),
  He.free_ok X G (c.t.d.facts (f := .free "range") (by simp [fa, fa_1])),
  He.free_ok X G (c.t.d.facts (f := .free "list") (by simp [fa, fa_1])),
  He.free_ok X G (c.t.d.facts (f := .free "all") (by simp [fa, fa_1])),
  He.free_ok X G (c.t.d.facts (f := .free "int") (by simp [fa, fa_1])),
  He.free_ok X G (c.t.d.facts (f := .free "bool") (by simp [fa, fa_1])),
  He.free_ok X G (c.t.d.facts (f := .free "str") (by simp [fa, fa_1])),
  He.free_ok X G (c.t.d.facts (f := .free "tuple") (by simp [fa, fa_1])),
  He.free_ok X G (c.t.d.facts (f := .free "max") (by simp [fa, fa_1])),
  He.free_ok X G (c.t.d.facts (f := .free "min") (by simp [fa, fa_1])),
  He.free_ok X G (c.t.d.facts (f := .free "sum") (by simp [fa, fa_1])),
  He.free_ok X G (c.t.d.facts (f := .free "zip") (by simp [fa, fa_1])),
  He.free_ok X G (c.t.d.facts (f := .free "enumerate") (by simp [fa, fa_1])),
  He.free_ok X G (c.t.d.facts (f := .free "ValueError") (by simp [fa, fa_1])),
  He.int_ok X G (c.t.d.facts (f := .int "MOST" 40) (by simp [fa, fa_2])),
  He.glo_ok X G (c.t.d.facts (f := .glo "SIDES") (by simp [fa, fa_2])),
  He.str_ok X G (c.t.d.facts (f := .str "END" ".") (by simp [fa, fa_2])),
  He.str_ok X G (c.t.d.facts (f := .str "FIGURES" "0123456789") (by simp [fa, fa_2])),
  He.glo_ok X G (c.t.d.facts (f := .glo "LeafError") (by simp [fa, fa_2])),
  He.glo_ok X G (c.t.d.facts (f := .glo "BadBar") (by simp [fa, fa_2])),
  He.glo_ok X G (c.t.d.facts (f := .glo "BadPlace") (by simp [fa, fa_2])),
  He.glo_ok X G (c.t.d.facts (f := .glo "BadDesk") (by simp [fa, fa_2])),
  He.glo_ok X G (c.t.d.facts (f := .glo "BadRepeats") (by simp [fa, fa_2])),
  He.glo_ok X G (c.t.d.facts (f := .glo "Full") (by simp [fa, fa_2])),
  He.glo_ok X G (c.t.d.facts (f := .glo "Nothing") (by simp [fa, fa_2])),
  He.glo_ok X G (c.t.d.facts (f := .glo "BadText") (by simp [fa, fa_2])),
  He.glo_ok X G (c.t.d.facts (f := .glo "BadLayout") (by simp [fa, fa_2])),
  He.glo_ok X G (c.t.d.facts (f := .glo "Unlike") (by simp [fa, fa_2])),
  He.cls_ok (c.t.d.facts (f := .cls "Part") (by simp [fa, fa_2])),
  He.mkr_ok (c.t.d.facts (f := .mkr "Part") (by simp [fa, fa_2])),
  He.noat_ok (c.t.d.facts (f := .noat "Part" "row") (by simp [fa, fa_2])),
  He.noat_ok (c.t.d.facts (f := .noat "Part" "past") (by simp [fa, fa_2])),
  He.meth_ok (c.t.d.facts (f := .meth "Part" "__init__") (by simp [fa, fa_2])),
  He.meth_ok (c.t.d.facts (f := .meth "Part" "__len__") (by simp [fa, fa_2])),
  He.meth_ok (c.t.d.facts (f := .meth "Part" "__eq__") (by simp [fa, fa_2])),
  He.meth_ok (c.t.d.facts (f := .meth "Part" "__str__") (by simp [fa, fa_2])),
  He.meth_ok (c.t.d.facts (f := .meth "Part" "bars") (by simp [fa, fa_2])),
  He.meth_ok (c.t.d.facts (f := .meth "Part" "becomes") (by simp [fa, fa_2])),
  He.meth_ok (c.t.d.facts (f := .meth "Part" "put") (by simp [fa, fa_2])),
  He.meth_ok (c.t.d.facts (f := .meth "Part" "take_back") (by simp [fa, fa_3])),
  He.meth_ok (c.t.d.facts (f := .meth "Part" "ahead") (by simp [fa, fa_3])),
  He.meth_ok (c.t.d.facts (f := .meth "Part" "behind") (by simp [fa, fa_3])),
  He.meth_ok (c.t.d.facts (f := .meth "Part" "rest") (by simp [fa, fa_3])),
  He.meth_ok (c.t.d.facts (f := .meth "Part" "wide") (by simp [fa, fa_3])),
  He.eqO_ok (exAt c.more 0 rfl),
  He.eqO_ok (exAt c.more 1 rfl),
  of_decide_eq_true (exAt c.more 2 rfl),
  of_decide_eq_true (exAt c.more 3 rfl),
  of_decide_eq_true (exAt c.more 4 rfl),
  of_decide_eq_true (exAt c.more 5 rfl),
  of_decide_eq_true (exAt c.more 6 rfl),
  of_decide_eq_true (exAt c.more 7 rfl),
  of_decide_eq_true (exAt c.more 8 rfl),
  of_decide_eq_true (exAt c.more 9 rfl),
  of_decide_eq_true (exAt c.more 10 rfl),
  of_decide_eq_true (exAt c.more 11 rfl),
  of_decide_eq_true (exAt c.more 12 rfl),
  of_decide_eq_true (exAt c.more 13 rfl),
  of_decide_eq_true (exAt c.more 14 rfl),
  of_decide_eq_true (exAt c.more 15 rfl),
  He.eqO_ok (exAt c.more 16 rfl),
  (exAt c.more 17 rfl),
  (exAt c.more 18 rfl),
  (exAt c.more 19 rfl),
  (exAt c.more 20 rfl),
  (exAt c.more 21 rfl),
  (exAt c.more 22 rfl),
  He.glo_ok X G (c.t.d.facts (f := .glo "Part") (by simp [fa, fa_3])),
  (exAt c.more 23 rfl),
  (exAt c.more 24 rfl),
  (exAt c.more 25 rfl),
  (exAt c.more 26 rfl),
  (exAt c.more 27 rfl),
  (exAt c.more 28 rfl)⟩
/-! ### try: body, several clauses 'except x as n' -/
def endsA (D : Ends) (i : Nat) : Ends := { nx := fun σ H => D.nx (σ.set i none) H, rt := D.rt, bk := fun σ H => D.bk (σ.set i none) H, ct := fun σ H => D.ct (σ.set i none) H }
/-- what the clauses wish -/
def wManyA (K : PySem.W.Frag) (m : Nat) (Wout : WX) (D : Ends) (i : Nat) : List (Value × (Addr → Value → Option Addr → TS)) → WX
  | [] => Wout
  | (c, ts) :: r => fun cls d σ H => ∃ b, PySem.W.exmOne K cls c = some b ∧ (b = true → ∀ a, H a = none → σ.length = m → ts a cls d (endsA D i) (σ.set i (some (.ref a))) H) ∧ (b = false → wManyA K m Wout D i r cls d σ H)
inductive HdsA (X : Cx) (n : Str) : List ExceptHandler → List (Value × (Addr → Value → Option Addr → TS)) → Prop
  | nil : HdsA X n [] []
  | cons {x : Str} {c : Value} {ts : Addr → Value → Option Addr → TS} {b₀ : Stmt} {suite : List Stmt} {np pos' : Pos} {hds : List ExceptHandler} {l : List (Value × (Addr → Value → Option Addr → TS))} (hc : Names X x c)
      (hsu : ∀ (a : Addr) (oe : Obj) (cls : Value) (d : Option Addr) (pn : List (Addr × Obj)), L2N.Zn cls d oe → (∃ vs, oe.data = .fields vs) → PSs (X.suite a ((a, oe) :: pn)) (b₀ :: suite) (ts a cls d)) (r : HdsA X n hds l) :
      HdsA X n (.ExceptHandler (some (.Name x np)) (some n) (b₀ :: suite) pos' :: hds) ((c, ts) :: l)
section
variable {X : Cx} {n : Str} {i : Nat} {body : List Stmt} {h₀ : ExceptHandler} {hds : List ExceptHandler} {l : List (Value × (Addr → Value → Option Addr → TS))} {pos : Pos} {tb : WX → TS} {Wout : WX}
theorem try_clauses {pins : List (Addr × Obj)} {D : Ends} {a : Addr} {B : Heap} {sI s' : Shared} {σ' : L2.St} {H' : Hp} {cls : Value} {d : Option Addr} {h3 : Heap} (hs : X.stack = X.env :: X.outer) (hf : X.env.frame = some X.env.locals) (hN : X.N.Nodup) (hi : X.N[i]? = some n) (hln : X.env.kindOf n = some .local)
    (tk : L2N.Takes X Wout) (J : Inv X pins σ' H' sI) (nb : ∀ b o, sI.heap.get? b = some o → b ∉ frs X.stack → B.get? b = some o) (up : sI.heap.UpToSlots h3) (fl : HandSPX.FlyingZ B (X.env :: X.outer) a (L2N.Zn cls d) h3) (na : H' a = none) (os : s'.os = sI.os) (ag : AllBare s'.gens) :
    ∀ {hds : List ExceptHandler} {l : List (Value × (Addr → Value → Option Addr → TS))}, HdsA X n hds l → wManyA X.K X.N.length Wout D i l cls d σ' H' → wpAny (model X.prog X.w) X.A (handleBy (.ref a) X.env hds) (SP X pins D) X.xe { s' with heap := h3 } := by
  have ok := J.ok
  have nofr : ∀ {h : Heap}, HandSPX.FlyingZ B (X.env :: X.outer) a (L2N.Zn cls d) h → a ≠ X.env.locals ∧ a ∉ X.fs := fun {h} f => by
    obtain ⟨oe, vs, he, _, hd⟩ := f.there
    have no : a ∉ frs (X.env :: X.outer) := fun hm => by
      obtain ⟨_, o', e', hnf⟩ := f.2.2.1.mem hm
      rw [he] at e'
      cases e'
      exact hnf _ hd
    exact ⟨fun z => no (List.mem_filterMap.mpr ⟨X.env, List.mem_cons_self, by rw [hf, z]⟩), fun hm => no (by
      obtain ⟨e, he', q⟩ := List.mem_filterMap.mp hm
      exact List.mem_filterMap.mpr ⟨e, List.mem_cons_of_mem _ he', q⟩)⟩
  have J3 : Inv X pins σ' H' { s' with heap := h3 } := J.landed nb fl.1 up os ag
  obtain ⟨oe3, vs3, he3, hz3, hd3⟩ := id fl.there
  have S3 := J3.suite he3 hd3 na (nofr fl).1 (nofr fl).2
  intro hds l hk
  induction hk with
  | nil =>
    intro w
    refine wpAny_handleBy_nil ?_
    obtain ⟨_, _, _, oe, vs, T, oT, ts', he, _, hd, h1, _⟩ := id fl
    unfold PySem.passOn
    refine wpAny_bind (wpAny_field he hd h1 ?_)
    rw [if_neg (show ¬ ((Value.ref T == Value.none) = true) from by simp)]
    have fin : wpAny (model X.prog X.w) X.A (setFlight (.ref a) X.env.frame) (fun _ s4 => wpAny (model X.prog X.w) X.A (throw (.ref a) : Sem Flow) (SP X pins D) X.xe s4) X.xe { s' with heap := h3 } := by
      rw [hf]
      exact HandSPX.setFlight_upZ fl fun h4 hh4 up4 => wpAny_throw (tk _ _ ⟨a, B, sI, pins, σ', H', cls, d, rfl, J, nb, up.trans up4, .inr (.inr (by rw [hs]; exact hh4)), na, os, ag, w⟩)
    first
      | exact wpAny_bind (wpAny_pure (wpAny_bind fin))
      | exact wpAny_bind fin
  | @cons x c ts b₀ suite np pos' hds2 l2 hc hsu r ih =>
    intro ⟨b, hb1, hyes, hno⟩
    refine wpAny_handleBy_cons (codeAny_handlers_test ?_) (by intro q; cases q)
    have LT : PySem.W.Looks (model X.prog X.w) h3 (typeOf (.ref a)) cls := fun A Q E s k q => wpAny_typeOf_ref (k _ _ he3) (by rw [hz3.1]; exact q)
    have LM := PySem.W.exm_one (M := model X.prog X.w) J3.kIn LT hb1
    have test : ∀ {Q : Value → Shared → Prop} {E : Value → Shared → Prop}, Q c { s' with heap := h3 } → wpAny (model X.prog X.w) (X.A.mark (some (.ref a))) (eval (.Name x np) X.env) Q E { s' with heap := h3 } := fun {Q E} q => by
      obtain ⟨hg, hdbg, hm | ⟨hm, hv, hnn⟩⟩ := hc
      · exact ld_glob (X := X.suite a ((a, oe3) :: (X.pn ++ pins))) S3 hg hm q hdbg
      · exact ld_blt (X := X.suite a ((a, oe3) :: (X.pn ++ pins))) S3 hg hm hv q hnn hdbg
    refine test (LM.here ?_)
    cases b with
    | false => exact ih (hno rfl)
    | true =>
      refine codeAny_handlers_suite_as (HandSPX.lands_againZ fl fun h4 fl4 up4 => ?_)
      have J4 : Inv X pins σ' H' { s' with heap := h4 } := J.landed nb fl4.1 (up.trans up4) os ag
      obtain ⟨oe4, vs4, he4, hz4, hd4⟩ := id fl4.there
      have S4 := J4.suite he4 hd4 na (nofr fl4).1 (nofr fl4).2
      refine store_ok (X := X.suite a ((a, oe4) :: (X.pn ++ pins))) (v := .ref a) S4 hN hi (.inl hln) rfl (fun s5 S5 => ?_) (.inr hln)
      refine wpAny_mono ((hsu a oe4 cls d (X.pn ++ pins) hz4 ⟨_, hd4⟩).run [] s5 _ H' _ S5 (hyes rfl a na J.len)) (fun f s6 hsp => ?_) (fun _ _ z => z.elim)
      have back : ∀ {σ6 : L2.St} {H6 : Hp} {Q : Shared → Prop}, Inv (X.suite a ((a, oe4) :: (X.pn ++ pins))) [] σ6 H6 s6 → (∀ s7, Inv X pins (σ6.set i none) H6 s7 → Q s7) →
          wpAny (model X.prog X.w) X.A (do bindName X.env n .none; unbindBehindTheSuite X.env n pos') (fun _ s7 => Q s7) X.xe s6 := fun S6 hq => gone_ok (S6.unsuite ok) hN hi hln hq
      cases f with
      | next => obtain ⟨σ6, H6, S6, q6⟩ := hsp; exact back S6 fun s7 J7 => ⟨_, _, J7, q6⟩
      | brk => obtain ⟨σ6, H6, S6, q6⟩ := hsp; exact back S6 fun s7 J7 => ⟨_, _, J7, q6⟩
      | cont => obtain ⟨σ6, H6, S6, q6⟩ := hsp; exact back S6 fun s7 J7 => ⟨_, _, J7, q6⟩
      | ret u => obtain ⟨v6, σ6, H6, S6, r6, q6⟩ := hsp; exact back S6 fun s7 J7 => ⟨_, _, _, J7, r6, q6⟩
theorem ps_try_asA (hs : X.stack = X.env :: X.outer) (hf : X.env.frame = some X.env.locals) (hN : X.N.Nodup) (hi : X.N[i]? = some n) (hln : X.env.kindOf n = some .local) (tk : L2N.Takes X Wout)
    (hb : ∀ (W : WX) (pn : List (Addr × Obj)) (xe : Value → Shared → Prop), L2N.Takes (X.tr pn xe) W → PassesOwn (model X.prog X.w) X.A X.env xe → PSs (X.tr pn xe) body (tb W))
    (hh : HdsA X n (h₀ :: hds) l) : PS X (.Try body (h₀ :: hds) [] [] pos) (fun D σ H => tb (wManyA X.K X.N.length Wout D i l) D σ H) := by
  refine ⟨fun pins s σ H D I h => ?_⟩
  have ok := I.ok
  refine wpAny_Try_except (wpAny_mono ((hb (wManyA X.K X.N.length Wout D i l) (X.pn ++ pins) (fun e s₁ => wpAny (model X.prog X.w) X.A (noteFrame e X.env) (fun _ s₂ => wpAny (model X.prog X.w) X.A (setFlight e none) (fun _ s₃ =>
    wpAny (model X.prog X.w) X.A (handleBy e X.env (h₀ :: hds)) (SP X pins D) X.xe s₃) X.xe s₂) X.xe s₁) (fun u s' xx => ?_) PassesOwn.looking).run [] s σ H D (I.toTry _) h) (fun f s1 hsp => ?_) (fun e s1 he => he))
  · obtain ⟨a, B, sI, pins', σ', H', cls, d, rfl, J', nb, up, sky, na, os, ag, w⟩ := xx
    show wpAny (model X.prog X.w) X.A (noteFrame (.ref a) X.env) _ _ _
    refine L2N.Sky.land L2N.Zn.steady (by rw [ok.frames, hs]) hf (by rw [← hs]; exact sky) fun h3 fl3 up3 => ?_
    exact try_clauses hs hf hN hi hln tk (J'.ofTry ok) nb (up.trans up3) fl3 na os ag hh w
  · cases f with
    | next => obtain ⟨σ', H', J', q⟩ := hsp; exact wpAny_execs_nil ⟨σ', H', J'.ofTry ok, q⟩
    | brk => obtain ⟨σ', H', J', q⟩ := hsp; exact ⟨σ', H', J'.ofTry ok, q⟩
    | cont => obtain ⟨σ', H', J', q⟩ := hsp; exact ⟨σ', H', J'.ofTry ok, q⟩
    | ret u => obtain ⟨v, σ', H', J', r, q⟩ := hsp; exact ⟨v, σ', H', J'.ofTry ok, r, q⟩
end
/-! ### while an exception is handled: the chain of its contexts is known -/
/-- the objects ps stand in h -/
def Stand (ps : List (Addr × Obj)) (h : Heap) : Prop := ∀ p ∈ ps, h.get? p.1 = some p.2
theorem Stand.up {ps : List (Addr × Obj)} {h h' : Heap} (s : Stand ps h) (k : ∀ b o, h.get? b = some o → h'.get? b = some o) : Stand ps h' := fun p hp => k _ _ (s p hp)
/-- the handled exception is of ps; its context is None, or of ps and without a context -/
def HotIn (A : Around) (ps : List (Addr × Obj)) : Prop := ∃ (x : Addr) (o : Obj) (vs : Array Value), A.handled = some (.ref x) ∧ (x, o) ∈ ps ∧ o.data = .fields vs ∧
  (vs[2]? = some .none ∨ ∃ (y : Addr) (oy : Obj) (vy : Array Value), y ≠ x ∧ vs[2]? = some (.ref y) ∧ (y, oy) ∈ ps ∧ oy.data = .fields vy ∧ vy[2]? = some .none)
section
variable {prog : Program} {w : World} {A : Around} {E : Value → Shared → Prop} {s : Shared} {ps : List (Addr × Obj)}
theorem unch2 {x y a : Addr} {ox oy : Obj} {vx vy : Array Value} {Q : Value → Shared → Prop} (hx : s.heap.get? x = some ox) (dx : ox.data = .fields vx) (cx : vx[2]? = some (.ref y)) (hy : s.heap.get? y = some oy) (dy : oy.data = .fields vy) (cy : vy[2]? = some .none)
    (ne : y ≠ x) (na : y ≠ a) (q : Q .none s) : wpAny (model prog w) A (holding [Value.ref a] (runValue (.builtin "proto.unchain" ⟨[.ref a, .ref x, .ref x, .bool false], []⟩))) Q E s := by
  refine wpAny_holding (wpAny_runValue (codeAny_builtin HotX.entry_unchain ?_))
  show wpAny _ _ (field (.ref x) 2 >>= _) _ _ s
  refine wpAny_bind (wpAny_field hx dx cx ?_)
  have n1 : ¬ ((Value.ref y == Value.none) = true) := by simp
  have n2 : ¬ ((Value.ref y == Value.ref a) = true) := by simp [na]
  have n3 : ¬ ((Value.ref y == Value.ref x) = true) := by simp [ne]
  simp only [if_neg n1, if_neg n2, if_neg n3]
  refine wpAny_bind (wpAny_pure ?_)
  refine wpAny_bind (wpAny_pure ?_)
  refine wpAny_bind (wpAny_pure ?_)
  refine wpAny_bind (wpAny_pure ?_)
  refine wpAny_pure ⟨Code.quiet_builtin _ (by decide +kernel), codeAny_builtin HotX.entry_unchain ?_⟩
  show wpAny _ _ (field (.ref y) 2 >>= _) _ _ s
  refine wpAny_bind (wpAny_field hy dy cy ?_)
  rw [if_pos (show (Value.none == Value.none) = true from rfl)]
  first
  | exact wpAny_bind (wpAny_pure (wpAny_pure q))
  | exact wpAny_pure q
/-- a new exception is raised there -/
theorem raise_in {α : Type} {a : Addr} {oe : Obj} {vs : Array Value} {Q : α → Shared → Prop} (hot : HotIn A ps) (st : Stand ps s.heap) (na : ∀ p ∈ ps, p.1 ≠ a) (ha : s.heap.get? a = some oe) (da : oe.data = .fields vs) (hi : 2 < vs.size)
    (hE : ∀ x, E (.ref a) { s with heap := s.heap.update a (Obj.mapFields (·.setIfInBounds 2 (.ref x))) }) : wpAny (model prog w) A (raiseNew (.ref a) : Sem α) Q E s := by
  obtain ⟨x, o, vx, hh, mx, dx, c⟩ := hot
  unfold raiseNew
  refine wpAny_bind (wpAny_handled ?_)
  rw [hh]
  have hb : (Value.ref x != Value.ref a) = true := HotX.ref_bne (na _ mx)
  have un : ∀ {Q' : Value → Shared → Prop}, Q' .none s → wpAny (model prog w) A (holding [Value.ref a] (runValue (.builtin "proto.unchain" ⟨[.ref a, .ref x, .ref x, .bool false], []⟩))) Q' E s := fun {Q'} q => by
    rcases c with c | ⟨y, oy, vy, nyx, cy, my, dy, cn⟩
    · exact HotX.unchained (st _ mx) dx c q
    · exact unch2 (st _ mx) dx cy (st _ my) dy cn nyx (na _ my) q
  first
  | (show wpAny _ _ (if (Value.ref x != Value.ref a) = true then _ else _) _ _ _
     rw [if_pos hb]
     first
     | exact wpAny_bind (un (wpAny_bind (HotX.chained ha da hi (wpAny_throw (hE x)))))
     | exact wpAny_bind (wpAny_bind (un (HotX.chained ha da hi (wpAny_throw (hE x))))))
  | (refine wpAny_bind ?_
     show wpAny _ _ (if (Value.ref x != Value.ref a) = true then _ else _) _ _ _
     rw [if_pos hb]
     exact wpAny_bind (un (HotX.chained ha da hi (wpAny_throw (hE x)))))
/-- a list's walk ends there -/
theorem next_end_in {it l : Addr} {i : Nat} {items : Array Value} {Q : Option Value → Shared → Prop} (hot : HotIn A ps) (st : Stand ps s.heap) (nit : ∀ p ∈ ps, p.1 ≠ it) (hit : s.heap.IsListIter it l i) (hl : s.heap.IsList l items) (hx : items[i]? = none)
    (hQ : ∀ h', Heap.ExtBut it s.heap h' → Q none { s with heap := h' }) : wpAny (model prog w) A (pyNext (.ref it)) Q E s := by
  obtain ⟨oi, hoi, _, di⟩ := id hit
  obtain ⟨ol, hol, _, nl, dl⟩ := hl
  unfold pyNext
  refine wpAny_bind (wpAny_attempt (wpAny_callSpecial?_slot (name := Str.ofString "__next__") hit.typeIs slot_listiter_next (wpAny_call_entry slot_listiter_next hit.typeIs entry_listiter_next ?_ (args_listiter_next _))))
  show wpAny _ _ (field (.ref it) 0 >>= _) _ _ s; refine wpAny_bind (wpAny_field hoi di (x := .ref l) rfl ?_)
  show wpAny _ _ (if (Value.ref l == Value.none) = true then _ else _) _ _ s; rw [if_neg (by simp)]
  show wpAny _ _ (field (.ref it) 1 >>= _) _ _ s; refine wpAny_bind (wpAny_field hoi di (x := .int i 0) rfl ?_)
  show wpAny _ _ (seqItems? (.ref l) >>= _) _ _ s; refine wpAny_bind (wpAny_seqItems hol dl ?_)
  simp only [Int.toNat_natCast, hx]
  refine wpAny_bind (wpAny_rule (wpAny_bind (wpAny_setField hoi di (by simp) ?_)))
  generalize hU : (s.heap.update it _) = hu
  have ku : ∀ b o, b ≠ it → s.heap.get? b = some o → hu.get? b = some o := fun b o nb e => by
    rw [← hU, Heap.get?_update_other _ _ (Ne.symm nb)]; exact e
  have stu : Stand ps hu := fun p hp => ku _ _ (nit p hp) (st p hp)
  show wpAny _ _ (newExc (.type "StopIteration") [] >>= _) _ _ _
  refine wpAny_bind ?_; simp only [newExc, newTuple]
  refine wpAny_bind (wpAny_newObj_type ?_ (by size_fits))
  refine wpAny_bind (m := firstArgMember _ _) (wpAny_of_eq (a := Value.none) (by first | rfl | (simp only [firstArgMember]; rfl)) ?_)
  refine wpAny_newObj_type ?_ (by size_fits)
  refine raise_in hot (stu.up fun b o e => Heap.get?_push_of_some _ (Heap.get?_push_of_some _ e)) (fun p hp => Nat.ne_of_lt (Heap.lt_size (Heap.get?_push_of_some _ (stu p hp)))) (Heap.get?_push_size _ rfl) rfl (by first | (simp; done) | (simp; omega) | (simp only [Array.size_append]; simp; omega)) fun x => ?_
  refine wpAny_bind (wpAny_isInstance (T := "StopIteration") (b := true) ⟨_, Heap.get?_update_self _ (Heap.get?_push_size _ rfl) rfl, rfl⟩ isSubtype_stop ?_)
  refine wpAny_pure (hQ _ fun b o nb e => ?_)
  have e2 := ku b o nb e
  rw [Heap.get?_update_other _ _ (Nat.ne_of_gt (Heap.lt_size (Heap.get?_push_of_some _ e2)))]
  exact Heap.get?_push_of_some _ (Heap.get?_push_of_some _ e2)
/-- such a walk -/
theorem walks_in (hot : HotIn A ps) (I ax : Addr) (hne : ax ≠ I) (nI : ∀ p ∈ ps, p.1 ≠ I) (items : Array Value) :
    Walks prog w A I (I :: ax :: ps.map (·.1)) [I] items.size (fun i v => items[i]? = some v) (fun i h => (h.IsListIter I ax i ∧ h.IsList ax items) ∧ Stand ps h) where
  sub := fun b hb => by simp at hb; simp [hb]
  frame := fun _ _ _ st hk => ⟨⟨st.1.1.at fun o e => hk I (by simp) o e, st.1.2.at fun o e => hk ax (by simp) o e⟩, fun p hp => hk p.1 (by simp; exact .inr (.inr ⟨_, hp⟩)) _ (st.2 p hp)⟩
  item := fun i s Q E hi st hQ => by
    refine wpAny_pyNext_list_item st.1.1 st.1.2 (x := items[i]) (by simp [hi]) fun h' hit' hs' => ?_
    have kk : ∀ b o, b ≠ I → s.heap.get? b = some o → h'.get? b = some o := hs'.extBut
    exact hQ _ h' s.toks (by simp [hi]) ⟨⟨hit', st.1.2.extBut kk hne⟩, fun p hp => kk _ _ (nI p hp) (st.2 p hp)⟩ fun b o hb e => kk b o (fun h => hb (by simp [h])) e
  done := fun s Q E st hQ => next_end_in hot st.2 nI st.1.1 st.1.2 (by simp) fun h' he' => hQ h' s.toks fun b o hb e => he' b o (fun h => hb (by simp [h])) e
  self := fun _ _ _ _ st hQ => wpAny_pyIter_listiter st.1.1 hQ
/-- sum of a list of ints there -/
theorem sum_in {l : Addr} {xs : Array (Int × Tok)} {Q : Value → Shared → Prop} (hot : HotIn A ps) (st : Stand ps s.heap) (hl : s.heap.IsList l (intItems xs))
    (h : ∀ h' tk t', (∀ b o, s.heap.get? b = some o → h'.get? b = some o) → Q (.int (preSum (numAt xs) xs.size) t') { s with heap := h', toks := tk }) : wpAny (model prog w) A (call (.builtin "sum") [.ref l]) Q E s := by
  refine call_sum_walkG (iter_intList hl fun s₂ e st' hfp hlI => ?_)
  subst e
  refine ⟨_, _, _, _, _, _, numAt xs, rfl, walks_in (A := A.in1) hot _ l hlI (fun p hp => Nat.ne_of_lt (Heap.lt_size (st p hp))) (intItems xs), ⟨st', st.up fun b o e => Heap.get?_push_of_some _ e⟩, fun b hb => ?_, (fun _ _ => intItems_at), fun h' tk t' hk => ?_⟩
  · rcases List.mem_cons.mp hb with e | hb
    · exact hfp b (by simp [e])
    · rcases List.mem_cons.mp hb with e | hb
      · exact hfp b (by simp [e])
      · obtain ⟨p, hp, e⟩ := List.mem_map.mp hb
        rw [← e]
        exact Heap.lt_size (Heap.get?_push_of_some _ (st p hp))
  · have := h h' tk t' (old_kept hk)
    simpa [intItems] using this
end
/-! ### contexts in which an exception is handled -/
structure HotX1 (X : Cx) (ps : List (Addr × Obj)) : Prop where
  hot : HotIn X.A ps
  st : Stand ps X.base
section
variable {X : Cx} {ps : List (Addr × Obj)}
theorem HotX1.at {pins : List (Addr × Obj)} {σ : L2.St} {H : Hp} {s : Shared} (h : HotX1 X ps) (I : Inv X pins σ H s) : Stand ps s.heap := h.st.up I.bk
theorem cr_sumH (hx : HotX1 X ps) : CallR X (.builtin "sum") (rSum X.K) := by
  intro pins s σ H vs us Q I r h
  obtain ⟨a, ns, rfl, hs, q⟩ := h
  obtain ⟨its, rv, hl, _⟩ := I.list hs
  rw [Vals.ref1 r]
  obtain ⟨xs, e⟩ := rv.ints.allInts.items
  have hn : numsOf (intItems xs).toList = ns := by rw [← e]; exact rv.ints.numsOf
  rw [nums_intItems] at hn
  have hl' := hl.isList
  rw [e] at hl'
  refine sum_in hx.hot (hx.at I) hl' fun h' tk t' hk => ⟨.int ns.sum, H, I.kept hk, ⟨t', ?_⟩, q⟩
  rw [preSum_eq, List.take_of_length_le (by simp), hn]
/-- [int(x) for x in xs], xs truth values -/
def tInts (K : PySem.W.Frag) (tl : TE) : TE := fun σ H Q => tl σ H fun v H1 => ∃ (a : Addr) (bs : List Bool), v = .ref a ∧ SqL K H1 a (bs.map V.bl) ∧ ∀ D, H1 D = none → Q (.ref D) (upd H1 D (.lst (bs.map fun b => V.int (if b then 1 else 0))))
theorem vals_ints2 : ∀ {bs : List Bool} {us ys : List Value}, Vals (bs.map V.bl) us → Paired (fun v y => ∃ (b : Bool) (t : Tok), v = Value.bool b ∧ y = Value.int (if b then 1 else 0) t) us ys → Vals (bs.map fun b => V.int (if b then 1 else 0)) ys
  | [], _, _, .nil, .nil => .nil
  | b :: bs, _, _, .cons r rr, .cons p pp => by
    obtain ⟨b', t, e1, e2⟩ := p
    have r' : _ = Value.bool b := r
    rw [e1] at r'
    cases r'
    exact .cons ⟨t, e2⟩ (vals_ints2 rr pp)
theorem vals_bool : ∀ {bs : List Bool} {us : List Value} {i : Nat} {v : Value}, Vals (bs.map V.bl) us → us[i]? = some v → ∃ b, v = .bool b
  | [], _, _, _, .nil, e => by simp at e
  | b :: bs, _, 0, v, .cons r rr, e => by
    have e' := Option.some.inj e
    subst e'
    exact ⟨b, r⟩
  | b :: bs, _, i + 1, v, .cons r rr, e => vals_bool (i := i) rr (by simpa using e)
theorem pe_ints {iter : Expr} {tl : TE} {x : Str} {p1 p2 p3 px pos : Pos} {scope : Scope} (hx : HotX1 X ps) (hl : PE X iter tl) (hm : X.mg "int" = none) (hfree : ∀ y ∈ scope.names, y.2 ≠ .free) (hcell : ∀ y ∈ scope.names, y.2 ≠ .cell) (hkind : scope.kind = .function)
    (hnames : ∀ y ∈ scope.names, y.2 = .local → scope.names.lookup y.1 = some .local) (hxl : scope.names.lookup x = some .local) (hgi : ∀ C, (compEnv scope C X.env).kindOf "int" = some .globalImplicit) (hxd : (x == ("__debug__" : Str)) = false) (hxc : (x == ("__classdict__" : Str)) = false)
    (hs : ∀ x, foldedSetIterable iter X.env x = pure x := by intro _; rfl) :
    PE X (.ListComp (.Call (.Name "int" p1) [.Name x p2] [] p3) [⟨.Name x px, iter, [], 0⟩] scope pos) (tInts X.K tl) := by
  refine ⟨fun pins s σ H Q I h => ?_⟩
  refine wpAny_ListComp_walk (fun _ => true) (fun v y => ∃ (b : Bool) (t : Tok), v = Value.bool b ∧ y = Value.int (if b then 1 else 0) t) hfree hcell hkind hnames hxl (thn (hl.run pins s σ H _ I h) fun v s1 ⟨z, H1, I1, r1, a, bs, e, hq, q⟩ => ?_) hs
  subst e
  cases r1
  obtain ⟨its, rv, pl, hz⟩ := I1.list hq
  have hlt : a < s1.heap.objs.size := by obtain ⟨_, e, _⟩ := pl.isList; exact Heap.lt_size e
  refine wpAny_pyIter_list pl.isList ?_
  refine ⟨s1.heap.objs.size, _, [s1.heap.objs.size], its.toArray.size, _, _, rfl, walks_in hx.hot _ a (Nat.ne_of_lt hlt) (fun p hp => Nat.ne_of_lt (Heap.lt_size (hx.at I1 p hp))) its.toArray, by rw [List.size_toArray, ← rv.length]; exact hz,
    ⟨⟨⟨_, Heap.get?_push_size _ rfl, rfl, rfl⟩, pl.isList.push _⟩, (hx.at I1).up fun b o e => Heap.get?_push_of_some _ e⟩, fun b hb => ?_, ⟨fun C i v s₃ m₃ E' _ _ _ _ _ => wpAny_pure ⟨rfl, ⟨s₃.heap, s₃.toks, rfl, fun _ _ e => e⟩⟩, fun C i v s₃ m₃ E' hP _ hn hx' hk _ => ?_⟩, fun D h' tk ys vs hD hl' hpl hlen hP hF hk => ?_⟩
  · show b < (s1.heap.push _).objs.size
    rw [Heap.size_push]
    rcases List.mem_cons.mp hb with e | hb
    · rw [e]; exact Nat.lt_succ_self _
    · rcases List.mem_cons.mp hb with e | hb
      · rw [e]; exact Nat.lt_succ_of_lt hlt
      · obtain ⟨p, hp, e⟩ := List.mem_map.mp hb
        rw [← e]
        exact Nat.lt_succ_of_lt (Heap.lt_size (hx.at I1 p hp))
  · obtain ⟨b, eb⟩ := vals_bool (i := i) rv (by simpa using hP)
    obtain ⟨mb, h1, h2⟩ := I1.mod.blt
    have kk : ∀ b o, s1.heap.get? b = some o → s₃.heap.get? b = some o := fun b o e => hk b o (by simp only [List.mem_singleton]; exact Nat.ne_of_lt (Heap.lt_size e)) (Heap.get?_push_of_some _ e)
    have kb : ∀ b o, X.base.get? b = some o → s₃.heap.get? b = some o := fun b o e => kk b o (I1.bk b o e)
    refine Call_ (Calls.Name_function_global (by exact hkind) (hgi C) (Calls.loadGlobal_builtin (by show s₃.heap.Ns X.env.globals _; rw [I1.ok.glob]; exact I1.mod.glob.keeps kb) hm (by show s₃.heap.Ns X.env.builtins _; rw [I1.ok.blt]; exact h1.keeps kb) ((h2 "int" (by decide)).trans (show bootBuiltins "int" = some (.type "int") by decide +kernel)) ?_) (by decide))
    refine PyProof.Rows.callWith_type1 (Calls.spliced_cons (wpAny_Name (wpAny_loadName_local (by exact hkind) (by exact hxl) hn hx' (Calls.spliced_nil ?_)) hxd)) rfl rfl
    subst eb
    exact call_int_bool ⟨⟨b, _, rfl, rfl⟩, ⟨s₃.heap, _, rfl, fun _ _ e => e⟩⟩
  · have e1 : vs = its := by
      refine List.ext_getElem? fun j => ?_
      by_cases hj : j < vs.length
      · have e2 := hP j _ (List.getElem?_eq_getElem hj)
        rw [List.getElem?_eq_getElem hj]
        simpa using e2.symm
      · rw [List.getElem?_eq_none (by omega), List.getElem?_eq_none (by rw [hlen, List.size_toArray] at hj; omega)]
    subst e1
    have hF2 : Paired (fun v y => ∃ (b : Bool) (t : Tok), v = Value.bool b ∧ y = Value.int (if b then 1 else 0) t) vs ys.toList := by rw [List.filter_eq_self.mpr (fun _ _ => rfl)] at hF; exact hF
    have rv2 := vals_ints2 rv hF2
    have nD : s1.heap.get? D = none := by
      cases e : s1.heap.get? D with
      | none => rfl
      | some o =>
        have := Heap.get?_push_of_some (h := s1.heap) ({ cls := .type "list_iterator", data := .fields #[.ref a, .int 0 0] } : Obj) e
        rw [hD] at this
        cases this
    obtain ⟨n, hn⟩ := hpl
    have nH : H1 D = none := I1.hok.gone nD
    refine ⟨.ref D, _, I1.laidN (t' := tk) (o := .lst (bs.map fun b => V.int (if b then 1 else 0))) (fun b o e => hk b o (by simp only [List.mem_singleton]; exact Nat.ne_of_lt (Heap.lt_size e)) (Heap.get?_push_of_some _ e)) nD nH ⟨?_, ys.toList, n, rv2, by simpa using hn⟩, rfl, q D nH⟩
    rw [List.length_map]
    simpa using hz
end
/-! ### an exception of the base -/
structure ExAt (K : PySem.W.Frag) (base : Heap) (n : Str) (a : Addr) (d : Option Addr) : Prop where
  k : ExK K n
  ob : ∃ (oe : Obj) (vs : Array Value), base.get? a = some oe ∧ oe.cls = .ref (He.ga K n) ∧ oe.dict = d ∧ oe.data = .fields vs
def rIsX (K : PySem.W.Frag) (n : Str) (a : Addr) (d : Option Addr) : List V → Hp → VK → Prop := fun xs H Q => ∃ (c : V) (u : Value) (b : Bool), xs = [.ref a, c] ∧ ClsV c u ∧ (∀ dd, d = some dd → ∃ fs, H dd = some (.xd fs)) ∧ PySem.W.kitOne K (.ref (He.ga K n)) u = some b ∧ Q (.bl b) H
theorem call_isX {X : Cx} {n : Str} {a : Addr} {d : Option Addr} (k1 : PySem.W.specialIn X.K (.builtin "object.__class__") "__get__" = some (some (.builtin "getset_descriptor.__get__"))) (k2 : PySem.W.takesIn X.K (.builtin "object.__class__") = some true)
    (e : ExAt X.K X.base n a d) : CallR X (.builtin "isinstance") (rIsX X.K n a d) := by
  intro pins s σ H xs us Q I r h
  obtain ⟨c, u, b, rfl, hc, hd, hk, q⟩ := h
  cases r with
  | cons rx rr =>
    cases rr with
    | cons rt rr =>
      cases rr
      cases rx
      rw [hc.eq rt]
      obtain ⟨oe, vs, ho, h1, h2, h3⟩ := e.ob
      have hg := I.bk _ _ ho
      have J : ∃ od, PySem.W.InstAt s.heap a oe (He.ga X.K n) od := by
        cases d with
        | none => exact ⟨none, hg, h1, by unfold PySem.W.notCls; rw [h3] <;> rfl, by rw [h2] <;> trivial⟩
        | some dd =>
          obtain ⟨fs, hf⟩ := hd dd rfl
          obtain ⟨o, ho2⟩ := objOk_get (I.hok dd _ hf)
          exact ⟨some o, hg, h1, by unfold PySem.W.notCls; rw [h3] <;> rfl, by rw [h2]; exact ho2⟩
      obtain ⟨od, J⟩ := J
      have hcl : (PySem.W.clsIn X.K (He.ga X.K n)).isSome = true := by
        obtain ⟨cd, hcd, _⟩ := PySem.W.any_some e.k.f.hd
        rw [hcd]
        rfl
      exact PySem.W.kia_one (PySem.W.kitx_exc (od := od) hcl e.k.f.ga e.k.f.gg e.k.f.sub e.k.f.ca k1 k2 e.k.f.mro) I.kIn J hk (fun z => nomatch z) fun tk => ⟨.bl b, H, I.kept (t' := tk) fun _ _ z => z, rfl, q⟩
/-! ### a base with more in it -/
theorem base_more {X : Cx} {pins : List (Addr × Obj)} {σ : L2.St} {H : Hp} {s : Shared} (I : Inv X pins σ H s) (ps : List (Addr × Obj)) (st : Stand ps s.heap) (hn : ∀ p ∈ ps, H p.1 = none ∧ p.1 ∉ frs X.stack) :
    ∃ base : Heap, (∀ b o, X.base.get? b = some o → base.get? b = some o) ∧ Stand ps base ∧ Env0 X.prog X.w X.K X.mg base X.A X.stack s H := by
  obtain ⟨e1, e2, e3, e4, e5, e6, e7, e8⟩ := I.env0
  obtain ⟨l, hl⟩ : ∃ l : List Addr, l = (List.range s.heap.objs.size).filter fun b => !((X.base.get? b).isSome || (ps.map (·.1)).contains b) := ⟨_, rfl⟩
  have inl : ∀ {b : Addr}, b ∈ l → X.base.get? b = none ∧ b ∉ ps.map (·.1) := fun {b} hb => by
    rw [hl] at hb
    have z := (List.mem_filter.mp hb).2
    simp only [Bool.not_or, Bool.and_eq_true, Bool.not_eq_true', Option.isSome_eq_false_iff, Option.isNone_iff_eq_none] at z
    refine ⟨z.1, fun hm => ?_⟩
    have z2 := z.2
    rw [List.contains_iff_mem.mpr hm] at z2
    cases z2
  have bb : ∀ b o, X.base.get? b = some o → (PySem.W.hideAll s.heap l).get? b = some o := fun b o e => PySem.W.hideAll_get l (e3 b o e).1 fun hm => by
    rw [(inl hm).1] at e
    cases e
  have bp : Stand ps (PySem.W.hideAll s.heap l) := fun p hp => PySem.W.hideAll_get l (st p hp) fun hm => (inl hm).2 (List.mem_map.mpr ⟨p, hp, rfl⟩)
  have ob : ∀ b o, (PySem.W.hideAll s.heap l).get? b = some o → s.heap.get? b = some o ∧ (X.base.get? b = some o ∨ b ∈ ps.map (·.1)) := fun b o e => by
    have e' := PySem.W.of_hideAll l e
    refine ⟨e', ?_⟩
    cases q : X.base.get? b with
    | some o' =>
      rw [(e3 b o' q).1] at e'
      exact .inl e'
    | none =>
      by_cases hm : b ∈ ps.map (·.1)
      · exact .inr hm
      · have hb : b ∈ l := by
          rw [hl]
          refine List.mem_filter.mpr ⟨List.mem_range.mpr (Heap.lt_size e'), ?_⟩
          rw [q]
          have : (ps.map (·.1)).contains b = false := by
            cases z : (ps.map (·.1)).contains b with
            | false => rfl
            | true => exact absurd (List.contains_iff_mem.mp z) hm
          rw [this]
          rfl
        rw [PySem.W.hideAll_none l hb] at e
        cases e
  have np : ∀ b ∈ ps.map (·.1), H b = none ∧ b ∉ frs X.stack := fun b hb => by
    obtain ⟨p, hp, rfl⟩ := List.mem_map.mp hb
    exact hn p hp
  refine ⟨PySem.W.hideAll s.heap l, bb, bp, e1, ⟨e2.kin.keeps bb, e2.glob.keeps bb, ?_, e2.nolimit.keeps bb⟩, fun b o e => ?_, Nat.le_of_eq (PySem.W.hideAll_size _ _), funFrames_none e5 fun L hL => ?_, e6, e7, e8⟩
  · obtain ⟨mb, h1, h2⟩ := e2.blt
    exact ⟨mb, h1.keeps bb, h2⟩
  · obtain ⟨h1, h2⟩ := ob b o e
    rcases h2 with h2 | h2
    · exact ⟨h1, (e3 b o h2).2⟩
    · exact ⟨h1, (np b h2).1⟩
  · cases q : (PySem.W.hideAll s.heap l).get? L with
    | none => rfl
    | some o =>
      obtain ⟨h1, h2⟩ := ob L o q
      rcases h2 with h2 | h2
      · have z := (e5.mem hL).1
        rw [h2] at z
        cases z
      · exact absurd hL (np L h2).2
/-! ### a def called there -/
theorem run_hot {P : Program} {w : World} {K : PySem.W.Frag} {mg : Str → Option Value} {base : Heap} {k : Nat} {f : Addr} {x qual : Str} {params : Arguments} {body : List Stmt} {scope : Scope} {dvs : List V} {kws : List (Str × V)} {fd : FuncData} {N ps : List Str}
    (F : FunD K x qual params body scope dvs kws f fd) (S : FnScope N ps scope) {A : Around} {outer : List Env} {s : Shared} {H : Hp} {us : List Value} {vs : List V} {Q : VK} {E : XK} (hr : L2H.RoomH (k + 1) A) (e0 : Env0 P w K mg base A outer s H) (hb : BindsTo s fd ⟨us, []⟩ (ps.zip us)) (r : Vals vs us) (hl : vs.length = ps.length)
    (p : Addr × Obj) (hp : L2H.PinOk outer H s p)
    (hbody : ∀ cdv, L2H.RoomH k (A.deeper (envOfC qual scope s.heap.objs.size f cdv)) → ∃ t, PSs (L2H.cxH CX0 P w K mg base N qual scope f cdv A outer s H E p) body t ∧ t { nx := fun _ H' => Q .non H', rt := Q } (L2.start N vs) H) :
    codeAny (model P w) A (.call (.ref f) ⟨us, []⟩) (CR CX0 outer P w H s Q E) s := by
  obtain ⟨oc, od, dV, kV, doc, pm, an, cdv, ct, osl, rfl, lk, hcd, _⟩ := F.ex
  have kept : ∀ b o, base.get? b = some o → s.heap.get? b = some o := fun b o e => (e0.bs b o e).1
  have KX : K.In s.heap := e0.mod.kin.keeps kept
  refine codeAny_call_function hr.depth (KX _ _ lk) rfl S.co S.gen rfl (PySem.W.codeRec_of KX hcd) (hb _ _ _ _ ?_)
  refine wpAny_newFunctionEnv_cells S.kind (fun ⟨n, v⟩ hy => ?_) fun env he s1 x => ?_
  · rcases S.par n (List.of_mem_zip hy).1 with q | q
    · exact .inl q
    · exact .inr ⟨q, PySem.W.cellsFrom_some _ _ _ (.inl q)⟩
  subst he
  refine ⟨(e0.mod.nolimit.keeps kept).keeps x.toInCall.keep, codeAny_func ?_⟩
  obtain ⟨t, ht, hq⟩ := hbody cdv (hr.deeper _)
  have I : Inv (L2H.cxH CX0 P w K mg base N qual scope f cdv A outer s H E p) [] (L2.start N vs) H s1 := L2H.inv_startH S hp e0 hl r x
  refine wpAny_mono (ht.run [] s1 (L2.start N vs) H _ I hq) (fun fl s' hs => ?_) fun e s' hs => hs
  cases fl with
  | ret u => obtain ⟨v, σ', H', J, rv, q⟩ := hs; exact ⟨v, H', J.os, J.bare, J.base, J.hok, rv, q⟩
  | next => obtain ⟨σ', H', J, q⟩ := hs; exact ⟨.non, H', J.os, J.bare, J.base, J.hok, rfl, q⟩
  | brk => obtain ⟨_, _, _, q⟩ := hs; exact q.elim
  | cont => obtain ⟨_, _, _, q⟩ := hs; exact q.elim
/-! ### exceptions as values -/
/-- at e: an exception of the class C with the dict d -/
def exv (e C : Addr) (d : Option Addr) : HO := .ext fun h => ∃ (oe : Obj) (vs : Array Value), h.get? e = some oe ∧ oe.cls = .ref C ∧ oe.dict = d ∧ oe.data = .fields vs
theorem exv_ok {P : Program} {w : World} {H : Hp} {h : Heap} {e C : Addr} {d : Option Addr} {oe : Obj} {vs : Array Value} (h0 : h.get? e = some oe) (h1 : oe.cls = .ref C) (h2 : oe.dict = d) (h3 : oe.data = .fields vs) : ObjOk P w H h e (exv e C d) :=
  ⟨⟨oe, vs, h0, h1, h2, h3⟩, ⟨_, h0⟩, fun _ _ z k => by
    obtain ⟨o, ws, q0, q⟩ := z
    exact ⟨o, ws, k _ q0, q⟩⟩
/-- what was made meanwhile is tracked from now on -/
theorem inv_adopt {X : Cx} {pins : List (Addr × Obj)} {σ : L2.St} {H : Hp} {s : Shared} {a : Addr} {o : HO} {oe : Obj} {vs : Array Value} (I : Inv X pins σ H s) (na : H a = none) (ha : s.heap.get? a = some oe) (hd : oe.data = .fields vs) (n0 : X.s_0.heap.get? a = none) (nL : a ≠ X.env.locals) (np : ∀ p ∈ X.pn ++ pins, p.1 ≠ a)
    (new : ObjOk X.prog X.w (upd H a o) s.heap a o) : Inv X pins σ (upd H a o) s := by
  have off : ∀ {b : Addr} {u : HO}, H b = some u → (upd H a o) b = some u := fun {b u} e => by
    rw [upd_ne (ne_of_none e na)]
    exact e
  refine ⟨I.ok, I.os, I.bare, ⟨I.base.keep, I.base.slot, fun b ob e n hx => ?_, I.base.there, fun b xs e => off (I.base.tups b xs e), fun b ob u e => off (I.base.frzs b ob u e), fun b ps e => ?_⟩, I.loc, I.cell, ?_, fun x c e => ?_, fun p hp => ?_, fun b u e => ?_, I.len⟩
  · have ne : b ≠ a := fun z => by rw [z, n0] at e; cases e
    rw [upd_ne ne]
    exact I.base.free b ob e n hx
  · obtain ⟨more, q⟩ := I.base.tbls b ps e
    exact ⟨more, off q⟩
  · rw [upd_ne nL.symm]
    exact I.free
  · have ne : c ≠ a := fun z => by
      obtain ⟨v, q⟩ := I.cell x c e
      obtain ⟨oc, hoc, hdc⟩ := q
      rw [z, ha] at hoc
      cases hoc
      rw [hd] at hdc
      cases hdc
    rw [upd_ne ne]
    exact I.freeC x c e
  · obtain ⟨h1, h2, h3⟩ := I.pin p hp
    refine ⟨h1, ?_, h3⟩
    rw [upd_ne (np p hp)]
    exact h2
  · by_cases hb : b = a
    · subst hb
      rw [upd_same] at e
      cases e
      exact new
    · rw [upd_ne hb] at e
      exact (I.hok b u e).stay (fun _ _ _ y => y) (fun d y => off y) fun d xs y => off y
/-- what the clause wishes -/
def wVal (K : PySem.W.Frag) (c : Value) (Wout : WX) (D : Ends) : WX := fun cls d σ H => ∃ b, PySem.W.exmOne K cls c = some b ∧ (b = true → ∃ C, cls = .ref C ∧ ∀ a, H a = none → D.rt (.ref a) (upd H a (exv a C d))) ∧ (b = false → Wout cls d σ H)
section
variable {X : Cx} {n x : Str} {i : Nat} {body : List Stmt} {c : Value} {pos pos' np rp rpos : Pos} {tb : WX → TS} {Wout : WX}
theorem try_value {pins : List (Addr × Obj)} {D : Ends} {a : Addr} {B : Heap} {sI s' : Shared} {σ' : L2.St} {H' : Hp} {cls : Value} {d : Option Addr} {h3 : Heap} (hs : X.stack = X.env :: X.outer) (hf : X.env.frame = some X.env.locals) (hN : X.N.Nodup) (hi : X.N[i]? = some n) (hln : X.env.kindOf n = some .local) (hvn : Vis X.env.scope n) (hex : X.ex = [])
    (tk : L2N.Takes X Wout) (J : Inv X pins σ' H' sI) (nb : ∀ b o, sI.heap.get? b = some o → b ∉ frs X.stack → B.get? b = some o) (up : sI.heap.UpToSlots h3) (fl : HandSPX.FlyingZ B (X.env :: X.outer) a (L2N.Zn cls d) h3) (na : H' a = none) (os : s'.os = sI.os) (ag : AllBare s'.gens) (hc : Names X x c)
    (hd1 : (n == ("__debug__" : Str)) = false) (hd2 : (n == ("__classdict__" : Str)) = false) (w : wVal X.K c Wout D cls d σ' H') : wpAny (model X.prog X.w) X.A (handleBy (.ref a) X.env [.ExceptHandler (some (.Name x np)) (some n) [.Return (some (.Name n rp)) rpos] pos']) (SP X pins D) X.xe { s' with heap := h3 } := by
  have ok := J.ok
  have nofr : ∀ {h : Heap}, HandSPX.FlyingZ B (X.env :: X.outer) a (L2N.Zn cls d) h → a ≠ X.env.locals ∧ a ∉ X.fs ∧ a ∉ frs (X.env :: X.outer) := fun {h} f => by
    obtain ⟨oe, vs, he, _, hd⟩ := f.there
    have no : a ∉ frs (X.env :: X.outer) := fun hm => by
      obtain ⟨_, o', e', hnf⟩ := f.2.2.1.mem hm
      rw [he] at e'
      cases e'
      exact hnf _ hd
    exact ⟨fun z => no (List.mem_filterMap.mpr ⟨X.env, List.mem_cons_self, by rw [hf, z]⟩), fun hm => no (by
      obtain ⟨e, he', q⟩ := List.mem_filterMap.mp hm
      exact List.mem_filterMap.mpr ⟨e, List.mem_cons_of_mem _ he', q⟩), no⟩
  have J3 : Inv X pins σ' H' { s' with heap := h3 } := J.landed nb fl.1 up os ag
  obtain ⟨oe3, vs3, he3, hz3, hd3⟩ := id fl.there
  have S3 := J3.suite he3 hd3 na (nofr fl).1 (nofr fl).2.1
  have nI : sI.heap.get? a = none := by
    cases q : sI.heap.get? a with
    | none => rfl
    | some o =>
      have z := nb a o q (by rw [hs]; exact (nofr fl).2.2)
      rw [fl.2.1] at z
      cases z
  have n0 : X.s_0.heap.get? a = none := by
    cases q : X.s_0.heap.get? a with
    | none => rfl
    | some o =>
      obtain ⟨o', z⟩ := J.base.there a o q (by rw [hex]; simp)
      rw [nI] at z
      cases z
  have np' : ∀ p ∈ X.pn ++ pins, p.1 ≠ a := fun p hp z => by
    have q := (J.pin p hp).1
    rw [z, nI] at q
    cases q
  obtain ⟨b, hb1, hyes, hno⟩ := w
  refine wpAny_handleBy_cons (codeAny_handlers_test ?_) (by intro q; cases q)
  have LT : PySem.W.Looks (model X.prog X.w) h3 (typeOf (.ref a)) cls := fun A Q E s k q => wpAny_typeOf_ref (k _ _ he3) (by rw [hz3.1]; exact q)
  have LM := PySem.W.exm_one (M := model X.prog X.w) J3.kIn LT hb1
  have test : ∀ {Q : Value → Shared → Prop} {E : Value → Shared → Prop}, Q c { s' with heap := h3 } → wpAny (model X.prog X.w) (X.A.mark (some (.ref a))) (eval (.Name x np) X.env) Q E { s' with heap := h3 } := fun {Q E} q => by
    obtain ⟨hg, hdbg, hm | ⟨hm, hv, hnn⟩⟩ := hc
    · exact ld_glob (X := X.suite a ((a, oe3) :: (X.pn ++ pins))) S3 hg hm q hdbg
    · exact ld_blt (X := X.suite a ((a, oe3) :: (X.pn ++ pins))) S3 hg hm hv q hnn hdbg
  refine test (LM.here ?_)
  cases b with
  | false =>
    refine wpAny_handleBy_nil ?_
    have w := hno rfl
    obtain ⟨_, _, _, oe, vs, T, oT, ts', he, _, hd, h1, _⟩ := id fl
    unfold PySem.passOn
    refine wpAny_bind (wpAny_field he hd h1 ?_)
    rw [if_neg (show ¬ ((Value.ref T == Value.none) = true) from by simp)]
    have fin : wpAny (model X.prog X.w) X.A (setFlight (.ref a) X.env.frame) (fun _ s4 => wpAny (model X.prog X.w) X.A (throw (.ref a) : Sem Flow) (SP X pins D) X.xe s4) X.xe { s' with heap := h3 } := by
      rw [hf]
      exact HandSPX.setFlight_upZ fl fun h4 hh4 up4 => wpAny_throw (tk _ _ ⟨a, B, sI, pins, σ', H', cls, d, rfl, J, nb, up.trans up4, .inr (.inr (by rw [hs]; exact hh4)), na, os, ag, w⟩)
    first
      | exact wpAny_bind (wpAny_pure (wpAny_bind fin))
      | exact wpAny_bind fin
  | true =>
    obtain ⟨C, hcl, q⟩ := hyes rfl
    refine codeAny_handlers_suite_as (HandSPX.lands_againZ fl fun h4 fl4 up4 => ?_)
    have J4 : Inv X pins σ' H' { s' with heap := h4 } := J.landed nb fl4.1 (up.trans up4) os ag
    obtain ⟨oe4, vs4, he4, hz4, hd4⟩ := id fl4.there
    have S4 := J4.suite he4 hd4 na (nofr fl4).1 (nofr fl4).2.1
    refine store_ok (X := X.suite a ((a, oe4) :: (X.pn ++ pins))) (v := .ref a) S4 hN hi (.inl hln) rfl (fun s5 S5 => ?_) (.inr hln)
    have hsl : (σ'.set i (some (V.ref a)))[i]? = some (some (.ref a)) := List.getElem?_set_self (by rw [J.len]; exact (List.getElem?_eq_some_iff.mp hi).1)
    have hsu : PSs (X.suite a ((a, oe4) :: (X.pn ++ pins))) [.Return (some (.Name n rp)) rpos] (tRet (tVar i)) := pss_one (ps_ret (pe_var (X := X.suite a ((a, oe4) :: (X.pn ++ pins))) (i := i) hi hvn hd1 hd2))
    refine wpAny_mono (hsu.run [] s5 _ H' { nx := fun _ _ => False, rt := fun v H6 => v = .ref a ∧ H6 = H' } S5 ⟨_, hsl, rfl, rfl⟩) (fun f s6 hsp => ?_) (fun _ _ z => z.elim)
    cases f with
    | next => obtain ⟨_, _, _, z⟩ := hsp; exact z.elim
    | brk => obtain ⟨_, _, _, z⟩ := hsp; exact z.elim
    | cont => obtain ⟨_, _, _, z⟩ := hsp; exact z.elim
    | ret u =>
      obtain ⟨v6, σ6, H6, S6, r6, ev, eH⟩ := hsp
      subst ev eH
      have p6 := S6.pin (a, oe4) (List.mem_append_left _ List.mem_cons_self)
      have J6 : Inv X ((a, oe4) :: pins) σ6 H6 s6 := (S6.unsuite ok).pins_of fun p hp => by
        rcases List.mem_cons.mp hp with h | h
        · rw [h]; exact p6
        · exact (S6.unsuite ok).pin p (List.mem_append_right _ h)
      refine gone_ok J6 hN hi hln fun s7 J7 => ?_
      obtain ⟨g1, g2, g3, g4, g5⟩ := J7.pin (a, oe4) (List.mem_append_right _ List.mem_cons_self)
      have J8 : Inv X pins (σ6.set i none) H6 s7 := J7.pins_of fun p hp => J7.pin p (List.mem_append_right _ (List.mem_cons_of_mem _ hp))
      exact ⟨.ref a, _, _, inv_adopt J8 na g1 hd4 n0 g3 np' (exv_ok g1 (by rw [hz4.1]; exact hcl) hz4.2.1 hd4), r6, q a na⟩
theorem ps_try_val (hs : X.stack = X.env :: X.outer) (hf : X.env.frame = some X.env.locals) (hN : X.N.Nodup) (hi : X.N[i]? = some n) (hln : X.env.kindOf n = some .local) (hvn : Vis X.env.scope n) (hex : X.ex = []) (tk : L2N.Takes X Wout)
    (hb : ∀ (W : WX) (pn : List (Addr × Obj)) (xe : Value → Shared → Prop), L2N.Takes (X.tr pn xe) W → PassesOwn (model X.prog X.w) X.A X.env xe → PSs (X.tr pn xe) body (tb W))
    (hc : Names X x c) (hd1 : (n == ("__debug__" : Str)) = false := by decide) (hd2 : (n == ("__classdict__" : Str)) = false := by decide) : PS X (.Try body [.ExceptHandler (some (.Name x np)) (some n) [.Return (some (.Name n rp)) rpos] pos'] [] [] pos) (fun D σ H => tb (wVal X.K c Wout D) D σ H) := by
  refine ⟨fun pins s σ H D I h => ?_⟩
  have ok := I.ok
  refine wpAny_Try_except (wpAny_mono ((hb (wVal X.K c Wout D) (X.pn ++ pins) (fun e s₁ => wpAny (model X.prog X.w) X.A (noteFrame e X.env) (fun _ s₂ => wpAny (model X.prog X.w) X.A (setFlight e none) (fun _ s₃ =>
    wpAny (model X.prog X.w) X.A (handleBy e X.env [.ExceptHandler (some (.Name x np)) (some n) [.Return (some (.Name n rp)) rpos] pos']) (SP X pins D) X.xe s₃) X.xe s₂) X.xe s₁) (fun u s' xx => ?_) PassesOwn.looking).run [] s σ H D (I.toTry _) h) (fun f s1 hsp => ?_) (fun e s1 he => he))
  · obtain ⟨a, B, sI, pins', σ', H', cls, d, rfl, J', nb, up, sky, na, os, ag, w⟩ := xx
    show wpAny (model X.prog X.w) X.A (noteFrame (.ref a) X.env) _ _ _
    refine L2N.Sky.land L2N.Zn.steady (by rw [ok.frames, hs]) hf (by rw [← hs]; exact sky) fun h3 fl3 up3 => ?_
    exact try_value hs hf hN hi hln hvn hex tk (J'.ofTry ok) nb (up.trans up3) fl3 na os ag hc hd1 hd2 w
  · cases f with
    | next => obtain ⟨σ', H', J', q⟩ := hsp; exact wpAny_execs_nil ⟨σ', H', J'.ofTry ok, q⟩
    | brk => obtain ⟨σ', H', J', q⟩ := hsp; exact ⟨σ', H', J'.ofTry ok, q⟩
    | cont => obtain ⟨σ', H', J', q⟩ := hsp; exact ⟨σ', H', J'.ofTry ok, q⟩
    | ret u => obtain ⟨v, σ', H', J', r, q⟩ := hsp; exact ⟨v, σ', H', J'.ofTry ok, r, q⟩
end
/-- an exception that is told -/
structure ExV (K : PySem.W.Frag) (H : Hp) (n : Str) (a : Addr) (d : Option Addr) : Prop where
  at' : H a = some (exv a (He.ga K n) d)
  dict : ∀ dd, d = some dd → ∃ fs, H dd = some (.xd fs)
theorem ExV.inst {X : Cx} {pins : List (Addr × Obj)} {σ : L2.St} {H : Hp} {s : Shared} {n : Str} {a : Addr} {d : Option Addr} (e : ExV X.K H n a d) (I : Inv X pins σ H s) : ∃ oe od, PySem.W.InstAt s.heap a oe (He.ga X.K n) od := by
  obtain ⟨⟨oe, vs, hg, h1, h2, h3⟩, _⟩ := I.hok a _ e.at'
  cases d with
  | none => exact ⟨oe, none, hg, h1, by unfold PySem.W.notCls; rw [h3] <;> rfl, by rw [h2] <;> trivial⟩
  | some dd =>
    obtain ⟨fs, hf⟩ := e.dict dd rfl
    obtain ⟨o, ho2⟩ := objOk_get (I.hok dd _ hf)
    exact ⟨oe, some o, hg, h1, by unfold PySem.W.notCls; rw [h3] <;> rfl, by rw [h2]; exact ho2⟩
def rIsV (K : PySem.W.Frag) : List V → Hp → VK → Prop := fun xs H Q => ∃ (n : Str) (a : Addr) (d : Option Addr) (c : V) (u : Value) (b : Bool), xs = [.ref a, c] ∧ ExK K n ∧ ExV K H n a d ∧ ClsV c u ∧ PySem.W.kitOne K (.ref (He.ga K n)) u = some b ∧ Q (.bl b) H
theorem call_isV {X : Cx} (k1 : PySem.W.specialIn X.K (.builtin "object.__class__") "__get__" = some (some (.builtin "getset_descriptor.__get__"))) (k2 : PySem.W.takesIn X.K (.builtin "object.__class__") = some true) : CallR X (.builtin "isinstance") (rIsV X.K) := by
  intro pins s σ H xs us Q I r h
  obtain ⟨n, a, d, c, u, b, rfl, ek, ev, hc, hk, q⟩ := h
  cases r with
  | cons rx rr =>
    cases rr with
    | cons rt rr =>
      cases rr
      cases rx
      rw [hc.eq rt]
      obtain ⟨oe, od, J⟩ := ev.inst I
      have hcl : (PySem.W.clsIn X.K (He.ga X.K n)).isSome = true := by
        obtain ⟨cd, hcd, _⟩ := PySem.W.any_some ek.f.hd
        rw [hcd]
        rfl
      exact PySem.W.kia_one (PySem.W.kitx_exc (od := od) hcl ek.f.ga ek.f.gg ek.f.sub ek.f.ca k1 k2 ek.f.mro) I.kIn J hk (fun z => nomatch z) fun tk => ⟨.bl b, H, I.kept (t' := tk) fun _ _ z => z, rfl, q⟩
/-- e.f, a field of such an exception -/
def tXv (K : PySem.W.Frag) (f : Str) (te : TE) : TE := fun σ H Q => te σ H fun x H1 => ∃ (n : Str) (a dd : Addr) (fs : List (Str × V)) (v : V), x = .ref a ∧ ExK K n ∧ PySem.W.findIn K (.ref (He.ga K n)) f = some none ∧ H1 a = some (exv a (He.ga K n) (some dd)) ∧ H1 dd = some (.xd fs) ∧ fs.lookup f = some v ∧ Q v H1
theorem pe_xv {X : Cx} {e : Expr} {te : TE} {pos : Pos} {f : Str} (he : PE X e te) (hb : attributeBase e f X.env (eval e X.env) = eval e X.env := by rfl) : PE X (.Attribute e f pos) (tXv X.K f te) := by
  refine ⟨fun pins s σ H Q I h => ?_⟩
  refine attr_of hb (thn (he.run pins s σ H _ I h) fun u s1 hh => ?_)
  obtain ⟨x, H1, I1, rx, n, a, dd, fs, v, ex, ek, hno, ha, ea, l, q⟩ := hh
  subst ex
  obtain rfl : u = Value.ref a := rx
  obtain ⟨⟨oe, vs, hg, h1, h2, h3⟩, _⟩ := I1.hok a _ ha
  have hx : ObjOk X.prog X.w H1 s1.heap dd (.xd fs) := I1.hok dd _ ea
  obtain ⟨mA, hns, hr⟩ := hx
  obtain ⟨od, ho, hl⟩ := lookIn_ns hns
  obtain ⟨u, hu, ru⟩ := RelO.some_of (v := v) (o := mA f) (by rw [← l]; exact hr f)
  have J : PySem.W.InstAt s1.heap a oe (He.ga X.K n) (some od) := ⟨hg, h1, by unfold PySem.W.notCls; rw [h3] <;> rfl, by rw [h2]; exact ho⟩
  exact HandSPX.exc_get I1.kIn J ek.f.ga ek.f.gg ek.f.sub (PySem.W.findObj_own ek.f.hd hno rfl (by rw [hl, hu])) (handed_of ru) ⟨v, H1, I1.tok _, ru, q⟩
/-! ### a lambda without parameters that may raise where nothing is handled -/
/-- its context -/
def lamCxN (X : Cx) (A : Around) (outer : List Env) (s : Shared) (H : Hp) (E : XK) (scope : Scope) (f c' : Addr) : Cx :=
  (LamX.lamCx X A outer s H E scope f c').wish fun e s' => wpAny (model X.prog X.w) (A.deeper (LamX.lamEnv X scope s.heap.objs.size f c')) (leaving (LamX.lamEnv X scope s.heap.objs.size f c') e) (fun _ s2 => L2N.CX X.prog X.w outer H s E e s2) (fun e' s2 => L2N.CX X.prog X.w outer H s E e' s2) s'
section
variable {X : Cx} {pins : List (Addr × Obj)} {σ : L2.St} {H : Hp} {s : Shared}
/-- a(), where the slot i holds the lambda -/
theorem pe_actN {CXg : CXT} {Eg : XK} {Ng : List Str} {qg : Str} {sg : Scope} {g f c' : Addr} {cdg pm ctv : Value} {params : Arguments} {body : Expr} {scope : Scope} {k i : Nat} {a : Str} {pn : List (Addr × Obj)} {xe : Value → Shared → Prop} {W : WX} {E : XK} {tb : TE} {p1 p2 : Pos}
    (I : Inv X pins σ H s) (L : LamX.LamS X.env.scope scope) (hf : s.heap.get? f = some (PySem.W.kla_obj "<lambda>" (X.env.qual ++ "<lambda>") params body scope (cloFrom X.env.cells scope.names []) pm c' ctv)) (hfn : H f = none) (hfr : f ∉ frs X.stack)
    (hbind : bindArgs (PySem.W.kla_fn "<lambda>" (X.env.qual ++ "<lambda>") params body scope (cloFrom X.env.cells scope.names []) pm (.ref c') ctv) ⟨[], []⟩ = pure [])
    (tk : L2N.Takes ((cxOf CXg X.prog X.w X.K X.mg X.base Ng qg sg g cdg X.A X.stack s H Eg).tr pn xe) W) (hW : ∀ cls d σ' H', E cls d H' → W cls d σ' H') (hr : Room (k + 1) (X.A.deeper (envOfC qg sg s.heap.objs.size g cdg)))
    (hbody : ∀ (A : Around) (outer : List Env) (s : Shared) (H : Hp), Room k (A.deeper (LamX.lamEnv X scope s.heap.objs.size f c')) → PE (lamCxN X A outer s H E scope f c') body tb)
    (hN : Ng[i]? = some a) (hv : Vis sg a) (hd : (a == ("__debug__" : Str)) = false := by decide) (hcd : (a == ("__classdict__" : Str)) = false := by decide) :
    PE ((cxOf CXg X.prog X.w X.K X.mg X.base Ng qg sg g cdg X.A X.stack s H Eg).tr pn xe) (.Call (.Name a p1) [] [] p2)
      (fun σZ HZ Q => σZ[i]? = some (some (.ref f)) ∧ HZ c' = some (LamX.CodeO c' (X.env.qual ++ "<lambda>")) ∧ tb σ HZ Q) := by
  refine ⟨fun pinsZ sZ σZ HZ Q IZ ⟨hs, hc, ht⟩ => ?_⟩
  refine wpAny_Call_Name_kw (thn ((pe_var (pos := p1) (i := i) hN hv hd hcd).run pinsZ sZ σZ HZ (fun v H1 => v = .ref f ∧ H1 = HZ) IZ ⟨.ref f, hs, rfl, rfl⟩) fun u s1 ⟨v, H1, I1, r1, ev, eH⟩ => ?_)
  subst ev eH
  obtain rfl : u = Value.ref f := r1
  have of1 := I1.base.keep f _ hf hfn hfr (fun z => nomatch (show f ∈ ([] : List Addr) from z))
  refine PySem.W.callWith_F0 ⟨_, _, _, _, of1⟩ ?_
  obtain ⟨⟨oc, vs, t, hoc, hdc, hvc⟩, _, _⟩ := I1.hok c' _ hc
  have go : codeAny (model X.prog X.w) (X.A.deeper (envOfC qg sg s.heap.objs.size g cdg)) (.call (.ref f) ⟨[], []⟩) (CR (L2N.CX X.prog X.w) (envOfC qg sg s.heap.objs.size g cdg :: X.stack) X.prog X.w H1 s1 Q E) s1 := by
    refine PySem.W.kla_callFunE hr.depth of1 rfl L.co L.gen rfl ⟨c', oc, vs, t, rfl, hoc, hdc, hvc⟩ ?_
    rw [hbind]
    refine wpAny_pure (wpAny_newFunctionEnv (fun y hy => (L.own y hy).2) (fun y hy => absurd hy (by simp)) (fun h₁ hns hsb => ⟨I1.nolimit.fresh _ hsb, ?_⟩) L.kind)
    have J := LamX.lam_start2 (A := X.A.deeper (envOfC qg sg s.heap.objs.size g cdg)) (outer := envOfC qg sg s.heap.objs.size g cdg :: X.stack) (E := E) (f := f) (c' := c') (tk := s1.toks + ([] : List (Str × Value)).length) I L I1.env0 hr.hd I1.base hns (fun b o e => hsb.extBut b o (Nat.ne_of_lt (Heap.lt_size e)) (Heap.get?_push_of_some _ e))
    refine PySem.W.kla_codeExpr (wpAny_mono ((hbody _ _ s1 H1 (hr.deeper _)).run [] _ _ H1 Q (J.wish _) ht) (fun v s' hq => ?_) fun e s' hq => hq)
    obtain ⟨w', H', J', rv, q⟩ := hq
    exact ⟨w', H', J'.os, J'.bare, J'.base, J'.hok, rv, q⟩
  refine wpAny_call (codeAny_mono go fun r s' hq => ?_)
  cases r with
  | error e => exact L2N.passes_call tk hW pinsZ σZ H1 s1 e s' I1 hq
  | ok fl =>
    cases fl with
    | ret u => exact I1.after hq
    | next => exact hq.elim
    | brk => exact hq.elim
    | cont => exact hq.elim
end
/-- the def that calls what it got, at the level k -/
def GivesN (X : Cx) (k : Nat) (Ng : List Str) (x : Str) (sg : Scope) (g : Addr) (cdg : Value) (bg : List Stmt) (a : Str) (q : Str) (TT : (XK → Hp → VK → Prop) → Hp → VK → Prop) : Prop :=
  ∀ (f c' : Addr) (s : Shared) (H : Hp) (Q : VK) (tl : XK → Hp → VK → Prop), Room (k + 1) (X.A.deeper (envOfC x sg s.heap.objs.size g cdg)) →
    (∀ (W : WX) (pn : List (Addr × Obj)) (xe : Value → Shared → Prop) (E : XK) (p1 p2 : Pos), L2N.Takes ((cxOf CX0 X.prog X.w X.K X.mg X.base Ng x sg g cdg X.A X.stack s H E0).tr pn xe) W → (∀ cls d σ' H', E cls d H' → W cls d σ' H') →
      PE ((cxOf CX0 X.prog X.w X.K X.mg X.base Ng x sg g cdg X.A X.stack s H E0).tr pn xe) (.Call (.Name a p1) [] [] p2) (fun σZ HZ Q => σZ[0]? = some (some (.ref f)) ∧ HZ c' = some (LamX.CodeO c' q) ∧ tl E HZ Q)) →
    H c' = some (LamX.CodeO c' q) → TT tl H Q →
    ∃ t, PSs (cxOf CX0 X.prog X.w X.K X.mg X.base Ng x sg g cdg X.A X.stack s H E0).nox bg t ∧ t { nx := fun _ H' => Q .non H', rt := Q } (L2.start Ng [.ref f]) H
/-- x(lambda: body), x such a def of the text -/
theorem pe_lamcallN {X : Cx} {T : List (Addr × Str)} {TT : (XK → Hp → VK → Prop) → Hp → VK → Prop} {x a : Str} {g c P : Addr} {k : Nat} {pg : Arguments} {bg : List Stmt} {sg : Scope} {fd : FuncData} {Ng : List Str}
    {params : Arguments} {body : Expr} {scope : Scope} {t : XK → TE} {p lpos pos : Pos} (F : FunD X.K x x pg bg sg [] [] g fd) (hg : Gl X x) (hm : X.mg x = some (.ref g)) (hb : L2.Binds X.K fd [a] []) (Sg : FnScope Ng [a] sg) (hNg : Ng[0]? = some a) (hva : Vis sg a)
    (hG : ∀ cdg, GivesN X k Ng x sg g cdg bg a (X.env.qual ++ "<lambda>") TT)
    (TB : LamX.TabB X.base X.mg c P) (hcode : X.env.code = .ref c) (hmT : (P, X.env.qual ++ "<lambda>") ∈ T) (hu : ∀ p ∈ T, p.1 = P → p.2 = X.env.qual ++ "<lambda>") (hr : Room (k + 2) X.A) (L : LamX.LamS X.env.scope scope) (hdef : defaultsOf params X.env = ([], []))
    (hbind : ∀ (q : Str) (cl : List (Str × Addr)) (pm cv ctv : Value), bindArgs (PySem.W.kla_fn "<lambda>" q params body scope cl pm cv ctv) ⟨[], []⟩ = pure [])
    (hbody : ∀ (A : Around) (outer : List Env) (s : Shared) (H : Hp) (E : XK) (f c' : Addr), Room k (A.deeper (LamX.lamEnv X scope s.heap.objs.size f c')) → PE (lamCxN X A outer s H E scope f c') body (t E))
    (hdb : (x == ("__debug__" : Str)) = false := by decide) (hd : (a == ("__debug__" : Str)) = false := by decide) (hcd : (a == ("__classdict__" : Str)) = false := by decide) :
    PE X (.Call (.Name x p) [.Lambda params body scope lpos] [] pos) (LamX.tLam T TT t) := by
  refine ⟨fun pins s σ H Q I ⟨hT, h⟩ => ?_⟩
  refine wpAny_Call_Name_kw (ld_glob I hg hm ?_ hdb)
  refine PySem.W.callWith_K (h₀ := X.base) I.ok.mod.kin F.kp ?_ (by rfl) (by rfl)
  show wpAny _ _ (spliced ((false, eval (.Lambda params body scope lpos) X.env) :: backTo pos (starEach [] X.env))) _ _ s
  refine Calls.spliced_cons (LamX.lam_make2 I TB hcode hmT hu hT hdef (L.has I.ok) fun f c' pm' ctv H1 s' I1 eN T1 hf hfn hfr hco => Calls.spliced_nil ⟨I1.kIn, ?_⟩)
  obtain ⟨oc, od, dV, kV, doc, pm, an, cdv, ct, osl, rfl, lk, hcg, _⟩ := F.ex
  have rc : codeAny (model X.prog X.w) X.A (.call (.ref g) ⟨[.ref f], []⟩) (CR CX0 X.stack X.prog X.w H1 s' Q E0) s' := by
    refine LamX.run_ofS (N := Ng) (ps := [a]) (us := [.ref f]) (vs := [.ref f]) lk hcg Sg hr I1.env0 (hb s' [.ref f] I1.kIn rfl) (.cons rfl .nil) rfl fun hr' => ?_
    obtain ⟨t', ht', hq'⟩ := hG cdv f c' s' H1 Q (fun E H' Q' => t E σ H' Q') hr' (fun W pn xe E p1 p2 tk hW => pe_actN (i := 0) I1 L hf hfn hfr (hbind _ _ _ _ _) tk hW hr' (fun A outer s H hr2 => hbody A outer s H E f c' hr2) hNg hva hd hcd) hco (h H1 eN T1)
    exact ⟨t', ht'.nox, hq'⟩
  refine wpAny_call (codeAny_mono rc fun r s2 hq => ?_)
  cases r with
  | error e => exact (show False from hq).elim
  | ok fl =>
    cases fl with
    | ret u => exact I1.after hq
    | next => exact hq.elim
    | brk => exact hq.elim
    | cont => exact hq.elim
/-! ### bars -/
structure Bar where
  w : Int
  b : Int
  r : Bool
  deriving DecidableEq
def barD (x : Bar) : PyData := .tuple [.int x.w, .int x.b, .bool x.r]
def barV (x : Bar) : List V := [.int x.w, .int x.b, .bl x.r]
def BarOk (x : Bar) : Prop := 1 ≤ x.w ∧ x.w ≤ 40 ∧ 1 ≤ x.b ∧ x.b ≤ 16
abbrev barsD (bs : List Bar) : List PyData := bs.map barD
theorem isT_bar (x : Bar) : isT (barD x) = true := rfl
theorem isTs_bars : ∀ bs : List Bar, isTs (barsD bs) = true
  | [] => rfl
  | x :: r => by
    show (isT (barD x) && isTs (barsD r)) = true
    rw [isTs_bars r]
    rfl
section
variable {K : PySem.W.Frag} {H H' : Hp}
theorem dp_bar {v : V} {x : Bar} (h : Dp K H v (barD x)) : ∃ p, v = .ref p ∧ SqT K H p (barV x) := by
  cases h with
  | tup s a =>
    cases a with
    | cons d0 r =>
      cases r with
      | cons d1 r =>
        cases r with
        | cons d2 r =>
          cases r
          cases d0
          cases d1
          cases d2
          exact ⟨_, rfl, s⟩
theorem dp_bar_of {p : Addr} {x : Bar} (h : SqT K H p (barV x)) : Dp K H (.ref p) (barD x) := .tup h (.cons (.int _) (.cons (.int _) (.cons (.bl _) .nil)))
theorem bar_at {vs : List V} {bs : List Bar} {i : Nat} {v : V} (h : DpAll K H vs (barsD bs)) (e : vs[i]? = some v) : ∃ x p, bs[i]? = some x ∧ v = .ref p ∧ SqT K H p (barV x) := by
  obtain ⟨d, e1, hd⟩ := dpa_at h e
  rw [List.getElem?_map] at e1
  cases q : bs[i]? with
  | none =>
    rw [q] at e1
    cases e1
  | some x =>
    rw [q] at e1
    have e2 : barD x = d := Option.some.inj e1
    subst e2
    obtain ⟨p, rfl, s⟩ := dp_bar hd
    exact ⟨x, p, rfl, rfl, s⟩
/-- a list of bars at an address -/
def RowAt (K : PySem.W.Frag) (H : Hp) (r : Addr) (bs : List Bar) : Prop := ∃ vs, H r = some (.lst vs) ∧ DpAll K H vs (barsD bs)
theorem RowAt.dp {r : Addr} {bs : List Bar} (h : RowAt K H r bs) : Dp K H (.ref r) (.list (barsD bs)) := by
  obtain ⟨vs, e, a⟩ := h
  exact .lst (.of e) a
theorem RowAt.same {r : Addr} {bs : List Bar} (h : RowAt K H r bs) (s : Same H H') : RowAt K H' r bs := by
  obtain ⟨vs, e, a⟩ := h
  exact ⟨vs, s _ _ e, dpa_same s a⟩
theorem RowAt.fr {ds : List Addr} {r : Addr} {bs : List Bar} (h : RowAt K H r bs) (s : Fr ds H H') (n : r ∉ ds) : RowAt K H' r bs := by
  obtain ⟨vs, e, a⟩ := h
  exact ⟨vs, s.keep _ _ n e, s.dpa a (isTs_bars bs)⟩
theorem lst_bars {a : Addr} {bs : List Bar} (h : Dp K H (.ref a) (.list (barsD bs))) : ∃ vs, SqL K H a vs ∧ DpAll K H vs (barsD bs) := by
  cases h with
  | lst s d => exact ⟨_, s, d⟩
theorem bars_len {vs : List V} {bs : List Bar} (h : DpAll K H vs (barsD bs)) : vs.length = bs.length := by
  rw [dpa_len h, List.length_map]
end
/-- the beats of the first bars, as long as they rest -/
def beatsOf : List Bar → Int
  | [] => 0
  | x :: r => if x.r = true then x.b + beatsOf r else 0
def restOf (bs : List Bar) (k : Nat) : Int := beatsOf (bs.take k).reverse + beatsOf (bs.drop k)
theorem drop_at {α : Type} {l : List α} {i : Nat} {x : α} (h : l[i]? = some x) : l.drop i = x :: l.drop (i + 1) := by
  obtain ⟨hi, e⟩ := List.getElem?_eq_some_iff.mp h
  rw [List.drop_eq_getElem_cons hi, e]
theorem take_at {α : Type} {l : List α} {i : Nat} {x : α} (h : l[i]? = some x) : l.take (i + 1) = l.take i ++ [x] := by
  rw [List.take_add_one, h]
  rfl
theorem units65 {k : Nat} {A : Around} (h : Room k A) : A.units + 65 < cLine := by
  have := h.un
  omega
def rLenK (K : PySem.W.Frag) : List V → Hp → VK → Prop := fun xs H Q => ∃ x n, xs = [x] ∧ LenV K x H n ∧ Q (.int (n : Nat)) H
section
variable {X : Cx}
/-- sum of a tuple of ints -/
def rSumT (K : PySem.W.Frag) : List V → Hp → VK → Prop := fun vs H Q => ∃ (a : Addr) (ns : List Int), vs = [V.ref a] ∧ SqT K H a (ns.map V.int) ∧ Q (.int ns.sum) H
theorem cr_sumT (hc : X.calm = true) : CallR X (.builtin "sum") (rSumT X.K) := by
  intro pins s σ H vs us Q I r h
  obtain ⟨a, ns, rfl, hs, q⟩ := h
  obtain ⟨its, rv, hl, _⟩ := I.tuple hs
  rw [Vals.ref1 r]
  have hi : IntsAre its ns := rv.ints
  obtain ⟨xs, e⟩ := hi.allInts.items
  have hn : numsOf (intItems xs).toList = ns := by rw [← e]; exact hi.numsOf
  rw [nums_intItems] at hn
  have hT : s.heap.IsTuple a (intItems xs) := by rw [← e]; exact hl
  have hlt : a < s.heap.objs.size := hl.lt
  refine call_sum_walkG (wpAny_pyIter_tuple hT ?_)
  refine ⟨_, [s.heap.objs.size, a], [s.heap.objs.size], _, _, _, numAt xs, rfl, Walks.tuple (A := X.A.in1) (I.ok.hd hc) _ a (Nat.ne_of_lt hlt) (intItems xs),
    ⟨⟨_, Heap.get?_push_size _ rfl, rfl, rfl⟩, hT.push _⟩, fun c hcc => ?_, (fun _ _ => intItems_at), fun h' tk t' hk => ?_⟩
  · show c < (s.heap.push _).objs.size
    rw [Heap.size_push]
    rcases List.mem_cons.mp hcc with rfl | hcc
    · exact Nat.lt_succ_self _
    · have e : c = a := by simpa using hcc
      rw [e]
      exact Nat.lt_succ_of_lt hlt
  · have hk2 : ∀ b o, s.heap.get? b = some o → h'.get? b = some o := fun b o e => hk b o (by
      intro hb
      have e2 : b = s.heap.objs.size := by simpa using hb
      have lt := Heap.lt_size e
      rw [e2] at lt
      exact Nat.lt_irrefl _ lt) (Heap.get?_push_of_some _ e)
    refine ⟨.int ns.sum, H, I.kept hk2, ⟨t', ?_⟩, q⟩
    rw [preSum_eq, List.take_of_length_le (by simp [intItems]), hn]
/-- t.count(x) of data -/
def rCntD (K : PySem.W.Frag) : V → List V → Hp → VK → Prop := fun x xs H Q => ∃ (p : Addr) (y : V) (ds : List PyData) (d : PyData), x = .ref p ∧ xs = [y] ∧ Dp K H (.ref p) (.tuple ds) ∧ Dp K H y d ∧ SeqAt.shaped (.tuple ds) = true ∧ SeqAt.shaped d = true ∧ Q (.int ((ds.countP fun z => PyData.eqv z d : Nat) : Int)) H
theorem mt_tcount (hu : X.A.units + 65 < cLine) : MtR X "tuple.count" (rCntD X.K) := by
  intro pins s σ H x xs v us Q I rx rxs h
  obtain ⟨p, y, ds, d, rfl, rfl, hl, hy, sl, sd, q⟩ := h
  cases rx
  obtain ⟨u, rfl, ru⟩ := rxs.one
  obtain ⟨bs, r1⟩ := Dp.reads I d y u hy ru
  cases hl with
  | tup hs ha =>
    obtain ⟨its, rv, hT, _⟩ := I.tuple hs
    obtain ⟨as, h4⟩ := Dp.readsAll I ds _ its ha rv
    exact SeqAt.count_tuple_data (vs := its.toArray) hT (by simpa using h4) r1 (PyData.plain_of_canLay0 (.tuple ds) (SeqAt.canLay_of_shaped sl)) (PyData.plain_of_canLay0 _ (SeqAt.canLay_of_shaped sd)) (room_in_shaped sd hu) ⟨.int _, H, I.tok _, ⟨_, rfl⟩, q⟩
def rInDT (K : PySem.W.Frag) : R2 := fun x y H Q => ∃ d ds, Dp K H x d ∧ Dp K H y (.tuple ds) ∧ SeqAt.shaped d = true ∧ SeqAt.shaped (.tuple ds) = true ∧ Q (.bl (ds.any fun z => PyData.eqv z d)) H
def rNotInDT (K : PySem.W.Frag) : R2 := fun x y H Q => ∃ d ds, Dp K H x d ∧ Dp K H y (.tuple ds) ∧ SeqAt.shaped d = true ∧ SeqAt.shaped (.tuple ds) = true ∧ Q (.bl (!ds.any fun z => PyData.eqv z d)) H
theorem op_inDT (hu : X.A.units + 65 < cLine) : OpR X (compareOp .In) (rInDT X.K) := by
  intro pins s σ H x y v u Q I rx ry h
  obtain ⟨d, ds, hd, he, sd, se, q⟩ := h
  obtain ⟨as, r1⟩ := Dp.reads I d x v hd rx
  obtain ⟨bs, r2⟩ := Dp.reads I (.tuple ds) y u he ry
  exact SeqAt.in_tuple_reads r2 r1 (SeqAt.canLay_of_shaped se) (SeqAt.canLay_of_shaped sd) (room_in_shaped sd hu) ⟨.bl _, H, I, rfl, q⟩
theorem op_notInDT (hu : X.A.units + 65 < cLine) : OpR X (compareOp .NotIn) (rNotInDT X.K) := by
  intro pins s σ H x y v u Q I rx ry h
  obtain ⟨d, ds, hd, he, sd, se, q⟩ := h
  obtain ⟨as, r1⟩ := Dp.reads I d x v hd rx
  obtain ⟨bs, r2⟩ := Dp.reads I (.tuple ds) y u he ry
  exact SeqAt.notIn_tuple_reads r2 r1 (SeqAt.canLay_of_shaped se) (SeqAt.canLay_of_shaped sd) (room_in_shaped sd hu) ⟨.bl _, H, I, rfl, q⟩
end
section
variable {X : Cx}
/-- t[lo:hi] of a tuple, whether or not it is the same object -/
def rSlU (K : PySem.W.Frag) : V → Option Int → Option Int → Hp → VK → Prop := fun x lo hi H Q => ∃ a xs, x = .ref a ∧ SqT K H a xs ∧ ∀ c H', Same H H' → SqT K H' c (cutV xs lo hi) → Q (.ref c) H'
theorem cut_all {xs : List V} {lo hi : Option Int} (h : HT.sIx xs.length 0 lo = 0 ∧ HT.sIx xs.length xs.length hi = xs.length) : cutV xs lo hi = xs := by
  unfold cutV
  rw [h.1, h.2, List.drop_zero, Nat.sub_zero, List.take_length]
theorem sl_tupU : SlR X (rSlU X.K) := by
  intro pins s σ H x v vl vu lo hi sl Q I rx hsl pl pu q
  obtain ⟨a, xs, e, hs, k⟩ := q
  exact sl_tupA pins s σ H x v vl vu lo hi sl Q I rx hsl pl pu ⟨a, xs, e, hs, fun c => k a H (Same.refl H) (by rw [cut_all c]; exact hs), fun _ p np => k p _ (same_upd np) (.of upd_same)⟩
/-- t + u of tuples, whether or not it is one of them -/
def rCatU (K : PySem.W.Frag) : R2 := fun x y H Q => ∃ a b xs ys, x = .ref a ∧ y = .ref b ∧ SqT K H a xs ∧ SqT K H b ys ∧ xs.length + ys.length ≤ sizeLine ∧ ∀ c H', Same H H' → SqT K H' c (xs ++ ys) → Q (.ref c) H'
theorem op_catU : OpR X (binaryOp .Add) (rCatU X.K) := by
  intro pins s σ H x y v u Q I rx ry q
  obtain ⟨a, b, xs, ys, e1, e2, h1, h2, hl, k⟩ := q
  refine op_catA pins s σ H x y v u Q I rx ry ⟨a, b, xs, ys, e1, e2, h1, h2, hl, fun e => k b H (Same.refl H) (by rw [e]; exact h2), fun _ e => k a H (Same.refl H) (by rw [e, List.append_nil]; exact h1), fun _ _ p np => k p _ (same_upd np) (.of upd_same)⟩
end
theorem exPl : ∀ n ∈ exPlain, n ∈ exNames ∧ n ≠ "BadLayout" ∧ n ≠ "Unlike" := by decide +kernel
section
variable {P : Program} {w : World} {K : PySem.W.Frag} {mg : Str → Option Value} {base : Heap} {f : Addr} {fd : FuncData} {ps : List Str} {k : Nat} {sp sp2 : Sp}
theorem okLift {CX : CXT} (F : FnOk P w K mg base CX0 k f fd ps sp) : FnOk P w K mg base CX k f fd ps sp :=
  ⟨F.len, fun A outer s H args us vs Q E hr e0 hb r h => codeAny_mono (F.run A outer s H args us vs Q E hr e0 hb r h) fun r s' hq => by
    cases r with
    | error e => exact (show False from hq).elim
    | ok fl => cases fl <;> exact hq⟩
theorem okOr {CX : CXT} (F : FnOk P w K mg base CX k f fd ps sp) (G : FnOk P w K mg base CX k f fd ps sp2) : FnOk P w K mg base CX k f fd ps (fun vs H Q E => sp vs H Q E ∨ sp2 vs H Q E) :=
  ⟨fun vs H Q E h => h.elim (F.len vs H Q E) (G.len vs H Q E), fun A outer s H args us vs Q E hr e0 hb r h => h.elim (F.run A outer s H args us vs Q E hr e0 hb r) (G.run A outer s H args us vs Q E hr e0 hb r)⟩
end
/-- what a callee lets out goes out -/
theorem passN {X : Cx} {E : XK} (hs : X.stack = X.env :: X.outer) (hf : X.env.frame = some X.env.locals) (hex : X.ex = []) {E₁ : Value → Shared → Prop}
    (hx : X.xe = fun e s' => wpAny (model X.prog X.w) X.A (leaving X.env e) (fun _ s'' => L2N.CX X.prog X.w X.outer X.H_0 X.s_0 E e s'') E₁ s') : Passes (L2N.CX X.prog X.w) X E := L2N.passes_call (L2N.takes_of hs hf hex hx) fun _ _ _ _ h => h
/-- raise x('..') -/
theorem ps_rais {X : Cx} (T : Txt X.K X.mg) {W : WX} {n m : Str} {j : Nat} {p p2 p3 pos : Pos} (hn : n ∈ exPlain) (gn : X.mg n = some (.ref (He.ga X.K n))) (hg : Gl X n) (tk : L2N.Takes X W) (hc : X.calm = true) (hdb : (n == ("__debug__" : Str)) = false := by decide) :
    PS X (.Raise (some (.Call (.Name n p) [.Constant (.str m) j p2] [] p3)) none pos) (fun _ σ H => W (.ref (He.ga X.K n)) none σ H) := by
  have e := (exAll_ok T.k_exc n (exPl n hn).1).f
  exact L2N.ps_raise hc tk (L2N.pmk_own PySem.F.excBase_ValueError (exPlain_ok T.k_plain n hn) gn e.kp (raises_own e.sub e.ty) hg hdb)
/-! ### tables stay -/
abbrev TabL (K : PySem.W.Frag) (x : Str) : List (Addr × Str) := [((He.cT K (x, none)).2, x ++ ".<locals>." ++ "<lambda>")]
theorem Tabs.same {Tb : List (Addr × Str)} {H H' : Hp} (t : LamX.Tabs Tb H) (s : Same H H') : LamX.Tabs Tb H' := t.ext s
theorem Tabs.fr {Tb : List (Addr × Str)} {H H' : Hp} {ds : List Addr} (t : LamX.Tabs Tb H) (f : Fr ds H H') (hd : ∀ d ∈ ds, ∃ o, H d = some o ∧ (∀ ps, o ≠ .tbl ps) ∧ ∀ φ, o ≠ .ext φ) : LamX.Tabs Tb H' := fun p hp => by
  obtain ⟨ps, h1, h2, h3⟩ := t p hp
  have nd : ∀ b o, H b = some o → ((∃ ps, o = .tbl ps) ∨ ∃ φ, o = .ext φ) → b ∉ ds := fun b o e z hb => by
    obtain ⟨o', e', z1, z2⟩ := hd b hb
    rw [e] at e'
    cases e'
    rcases z with ⟨ps, z⟩ | ⟨φ, z⟩
    · exact z1 ps z
    · exact z2 φ z
  refine ⟨ps, f.keep _ _ (nd _ _ h1 (.inl ⟨_, rfl⟩)) h1, h2, fun pos cv hc => ?_⟩
  obtain ⟨c, e1, e2⟩ := h3 pos cv hc
  exact ⟨c, e1, f.keep _ _ (nd _ _ e2 (.inr ⟨_, rfl⟩)) e2⟩
theorem ext_sqt {K : PySem.W.Frag} {H H' : Hp} {a : Addr} {xs : List V} (e : LamX.ExtN H H') (h : SqT K H a xs) : SqT K H' a xs := by
  rcases h with (h | ⟨o, h⟩) | h
  · exact .inl (.inl (e _ _ h fun ps z => by cases z))
  · exact .inl (.inr ⟨o, e _ _ h fun ps z => by cases z⟩)
  · exact .inr h
theorem ext_sql {K : PySem.W.Frag} {H H' : Hp} {a : Addr} {xs : List V} (e : LamX.ExtN H H') (h : SqL K H a xs) : SqL K H' a xs := by
  rcases h with (h | ⟨o, h⟩) | h
  · exact .inl (.inl (e _ _ h fun ps z => by cases z))
  · exact .inl (.inr ⟨o, e _ _ h fun ps z => by cases z⟩)
  · exact .inr h
section
variable {K : PySem.W.Frag} {H H' : Hp}
mutual
theorem dp_ext (e : LamX.ExtN H H') : ∀ {v : V} {d : PyData}, Dp K H v d → Dp K H' v d
  | _, _, .non => .non
  | _, _, .bl b => .bl b
  | _, _, .int i => .int i
  | _, _, .str x => .str x
  | _, _, .lst s a => .lst (ext_sql e s) (dpa_ext e a)
  | _, _, .tup s a => .tup (ext_sqt e s) (dpa_ext e a)
theorem dpa_ext (e : LamX.ExtN H H') : ∀ {vs : List V} {ds : List PyData}, DpAll K H vs ds → DpAll K H' vs ds
  | _, _, .nil => .nil
  | _, _, .cons d r => .cons (dp_ext e d) (dpa_ext e r)
end
end
/-- a def whose lambdas are made: its code object is the one of the table -/
theorem okC {P : Program} {w : World} {K : PySem.W.Frag} {mg : Str → Option Value} {base : Heap} {p : Str × Option Str} {x q : Str} {st : Stmt} {dv : List V} {N ps : List Str} {k : Nat} {sp : Sp} (F : Df K p x q st dv) (S : FnScope N ps (defScope st)) (len : ∀ vs H Q E, sp vs H Q E → vs.length = ps.length)
    (hbody : ∀ (A : Around) (outer : List Env) (s : Shared) (H : Hp) (vs : List V) (Q : VK) (E : XK), Room k (A.deeper (envOfC q (defScope st) s.heap.objs.size (He.fAd K p) (.ref (He.cT K p).1))) → sp vs H Q E →
      ∃ t, PSs (cxOf CX0 P w K mg base N q (defScope st) (He.fAd K p) (.ref (He.cT K p).1) A outer s H E).nox (defBody st) t ∧ t { nx := fun _ H' => Q .non H', rt := Q } (start N vs) H) : OkF P w K mg base CX0 (k + 1) p ps sp := by
  obtain ⟨oc, od, dV, kV, doc, pm, an, cdv, ct, osl, e, lk, hcd, _⟩ := id F.ex
  rw [e] at lk
  obtain ⟨c, rfl⟩ := He.codeIn_ref hcd
  have ec : He.codeOf K p = c := He.codeOf_eq lk rfl
  have ec2 : (He.cT K p).1 = c := ec
  unfold OkF
  rw [e]
  refine fn_of lk hcd S len fun A outer s H vs Q E hr hsp => ?_
  rw [← ec2] at hr ⊢
  obtain ⟨t, h, q⟩ := hbody A outer s H vs Q E hr hsp
  exact ⟨t, h.nox, q⟩
theorem sc__law_met : FnScope ["deed", "e"] ["deed"] (defScope s__law_met) := ⟨rfl, rfl, rfl, by decide +kernel, rfl, by decide +kernel, by decide +kernel⟩
section
variable {K : PySem.W.Frag} {mg : Str → Option Value}
theorem b__law_met (T : Txt K mg) : Binds K (fdOf K ("_law_met", none)) ["deed"] [] := T._law_met.bindsN fun _ _ _ _ _ _ us hl => match us, hl with | [_], _ => rfl
end
/-- what _law_met makes of a refusal -/
def MetX (K : PySem.W.Frag) (cls : Value) (d : Option Addr) (H : Hp) (Q : VK) : Prop := ∃ n ∈ exNames, cls = .ref (He.ga K n) ∧ ∀ a, H a = none → Q (.ref a) (upd H a (exv a (He.ga K n) d))
def TMet (K : PySem.W.Frag) : (XK → Hp → VK → Prop) → Hp → VK → Prop := fun tl H Q => tl (fun cls d H' => MetX K cls d H' Q) H (fun _ H' => Q .non H')
theorem met_gives {X : Cx} (T : Txt X.K X.mg) {k : Nat} {q : Str} (cdg : Value) : GivesN X k ["deed", "e"] "_law_met" (defScope s__law_met) (He.fAd X.K ("_law_met", none)) cdg (defBody s__law_met) "deed" q (TMet X.K) := by
  intro f c' s H Q tl hr act hc h
  have exs := exAll_ok T.k_exc
  refine ⟨_, pss_cons (ps_try_val (i := 1) (X := (cxOf CX0 X.prog X.w X.K X.mg X.base ["deed", "e"] "_law_met" (defScope s__law_met) (He.fAd X.K ("_law_met", none)) cdg X.A X.stack s H E0).nox)
      (tb := fun W D σ H => ∃ Ech : XK, (∀ cls d σ' H', Ech cls d H' → W cls d σ' H') ∧ σ[0]? = some (some (.ref f)) ∧ H c' = some (LamX.CodeO c' q) ∧ tl Ech H (fun _ H' => D.nx σ H'))
      rfl rfl sc__law_met.nd rfl rfl (Or.inl rfl) rfl (Wout := fun _ _ _ _ => False) (fun _ _ x => by obtain ⟨_, _, _, _, _, _, _, _, _, _, _, _, _, _, _, _, z⟩ := x; exact z.elim) (fun W pn xe tk _ => ?_) ⟨rfl, by decide, .inl T.g_LeafError⟩) (pss_one (ps_ret pe_non)), ?_⟩
  · refine ⟨fun pins s' σ H' D I ⟨Ech, hW, h1, h2, h3⟩ => ?_⟩
    exact (pss_one (ps_expr (act W pn xe Ech _ _ tk hW))).run pins s' σ H' D I ⟨h1, h2, h3⟩
  · refine ⟨fun cls d H' => MetX X.K cls d H' Q, fun cls d σ' H' hE => ?_, rfl, hc, h⟩
    obtain ⟨n, hn, ec, z⟩ := hE
    exact ⟨true, by rw [ec]; exact (exs n hn).leaf, fun _ => ⟨_, ec, fun a na => z a na⟩, fun q => Bool.noConfusion q⟩
/-- _law_met(lambda: body) -/
theorem pe_met {X : Cx} (T : Txt X.K X.mg) {c P : Addr} {k : Nat} {params : Arguments} {body : Expr} {scope : Scope} {t : XK → TE} {p lpos pos : Pos} (TB : LamX.TabB X.base X.mg c P) (hcode : X.env.code = .ref c) (hr : Room (k + 2) X.A) (hg : Gl X "_law_met")
    (L : LamX.LamS X.env.scope scope) (hdef : defaultsOf params X.env = ([], [])) (hbind : ∀ (q : Str) (cl : List (Str × Addr)) (pm cv ctv : Value), bindArgs (PySem.W.kla_fn "<lambda>" q params body scope cl pm cv ctv) ⟨[], []⟩ = pure [])
    (hbody : ∀ (A : Around) (outer : List Env) (s : Shared) (H : Hp) (E : XK) (f c' : Addr), Room k (A.deeper (LamX.lamEnv X scope s.heap.objs.size f c')) → PE (lamCxN X A outer s H E scope f c') body (t E)) :
    PE X (.Call (.Name "_law_met" p) [.Lambda params body scope lpos] [] pos) (LamX.tLam [(P, X.env.qual ++ "<lambda>")] (TMet X.K) t) :=
  pe_lamcallN T._law_met hg T.g__law_met (b__law_met T) sc__law_met rfl (by first | exact Or.inl rfl | exact Or.inr (Or.inl rfl)) (fun cdg => met_gives T cdg) TB hcode (List.mem_singleton.mpr rfl) (fun p hp _ => by cases List.mem_singleton.mp hp; rfl) hr L hdef hbind hbody
/-! ### the shape of data -/
def Shp (n : Nat) (d : PyData) : Prop := d.canLay0 = true ∧ d.depth ≤ n
def ShpA (n : Nat) (ds : List PyData) : Prop := PyData.canLayAll0 ds = true ∧ PyData.depthAll ds ≤ n
theorem shpA_nil {n : Nat} : ShpA n [] := ⟨by simp [PyData.canLayAll0], by simp [PyData.depthAll]⟩
theorem shpA_cons {n : Nat} {d : PyData} {ds : List PyData} (h : Shp n d) (t : ShpA n ds) : ShpA n (d :: ds) := by
  refine ⟨?_, ?_⟩
  · simp only [PyData.canLayAll0, h.1, t.1, Bool.and_self]
  · simp only [PyData.depthAll]
    exact Nat.max_le.mpr ⟨h.2, t.2⟩
theorem shpA_all {n : Nat} : ∀ {ds : List PyData}, (∀ d ∈ ds, Shp n d) → ShpA n ds
  | [], _ => shpA_nil
  | d :: ds, h => shpA_cons (h d List.mem_cons_self) (shpA_all fun e he => h e (List.mem_cons_of_mem _ he))
theorem shp_list {n : Nat} {ds : List PyData} (h : ShpA n ds) : Shp (n + 1) (.list ds) := ⟨by simp only [PyData.canLay0]; exact h.1, by simp only [PyData.depth]; exact Nat.succ_le_succ h.2⟩
theorem shp_tup {n : Nat} {ds : List PyData} (h : ShpA n ds) : Shp (n + 1) (.tuple ds) := ⟨by simp only [PyData.canLay0]; exact h.1, by simp only [PyData.depth]; exact Nat.succ_le_succ h.2⟩
theorem shp_int {n : Nat} (i : Int) : Shp n (.int i) := ⟨by simp [PyData.canLay0], by simp [PyData.depth]⟩
theorem shp_bool {n : Nat} (b : Bool) : Shp n (.bool b) := ⟨by simp [PyData.canLay0], by simp [PyData.depth]⟩
theorem shp_none {n : Nat} : Shp n .none := ⟨by simp [PyData.canLay0], by simp [PyData.depth]⟩
theorem shp_str {n : Nat} {x : Str} (h : PyData.strOk x = true) : Shp n (.str x) := ⟨by simp only [PyData.canLay0]; exact h, by simp [PyData.depth]⟩
theorem Shp.ok {n : Nat} {d : PyData} (h : Shp n d) (hn : n ≤ 64) : SeqAt.shaped d = true := by
  unfold SeqAt.shaped
  rw [h.1, decide_eq_true (Nat.le_trans h.2 hn)]
  rfl
theorem Shp.mono {n m : Nat} {d : PyData} (h : Shp n d) (hn : n ≤ m) : Shp m d := ⟨h.1, Nat.le_trans h.2 hn⟩
theorem ShpA.mono {n m : Nat} {ds : List PyData} (h : ShpA n ds) (hn : n ≤ m) : ShpA m ds := ⟨h.1, Nat.le_trans h.2 hn⟩
/-! ### == of lists by their items -/
theorem eqvAll_map {α : Type} {f : α → PyData} (hf : ∀ a b : α, PyData.eqv (f a) (f b) = true ↔ a = b) : ∀ xs ys : List α, PyData.eqvAll (xs.map f) (ys.map f) = true ↔ xs = ys
  | [], [] => by simp [PyData.eqvAll]
  | [], _ :: _ => by simp [PyData.eqvAll]
  | _ :: _, [] => by simp [PyData.eqvAll]
  | x :: xs, y :: ys => by
    simp only [List.map_cons, PyData.eqvAll, Bool.and_eq_true, hf x y, eqvAll_map hf xs ys, List.cons.injEq]
theorem eqv_listM {α : Type} {f : α → PyData} (hf : ∀ a b : α, PyData.eqv (f a) (f b) = true ↔ a = b) (xs ys : List α) : PyData.eqv (.list (xs.map f)) (.list (ys.map f)) = true ↔ xs = ys := by
  simp only [PyData.eqv]
  exact eqvAll_map hf xs ys
theorem eqv_tupM {α : Type} {f : α → PyData} (hf : ∀ a b : α, PyData.eqv (f a) (f b) = true ↔ a = b) (xs ys : List α) : PyData.eqv (.tuple (xs.map f)) (.tuple (ys.map f)) = true ↔ xs = ys := by
  simp only [PyData.eqv]
  exact eqvAll_map hf xs ys
theorem eqv_int (i j : Int) : PyData.eqv (.int i) (.int j) = true ↔ i = j := by simp [PyData.eqv]
theorem eqv_nil {xs : List PyData} : PyData.eqv (.list xs) (.list []) = true ↔ xs = [] := by
  cases xs <;> simp [PyData.eqv, PyData.eqvAll]
theorem dpa_ints {K : PySem.W.Frag} {H : Hp} : ∀ ns : List Int, DpAll K H (ns.map V.int) (ns.map PyData.int)
  | [] => .nil
  | n :: r => .cons (.int n) (dpa_ints r)
theorem shp_ints (ns : List Int) : Shp 1 (.list (ns.map PyData.int)) := shp_list (shpA_all fun d hd => by
  obtain ⟨i, _, rfl⟩ := List.mem_map.mp hd
  exact shp_int i)
theorem shp_nil {n : Nat} : Shp (n + 1) (.list []) := shp_list shpA_nil
/-! ### parts -/
abbrev pC (K : PySem.W.Frag) : Addr := He.ga K "Part"
def pf (r q : Addr) : List (Str × V) := [("row", .ref r), ("past", .ref q)]
theorem pf_row {r q : Addr} : (pf r q).lookup ("row" : Str) = some (.ref r) := rfl
theorem pf_past {r q : Addr} : (pf r q).lookup ("past" : Str) = some (.ref q) := by
  show (match (("past" : Str) == ("row" : Str)) with | true => some (V.ref r) | false => ([("past", .ref q)] : List (Str × V)).lookup ("past" : Str)) = some (.ref q)
  rw [show (("past" : Str) == ("row" : Str)) = false by decide +kernel]
  rfl
theorem pf_no {r q : Addr} {x : Str} (h1 : (x == ("row" : Str)) = false) (h2 : (x == ("past" : Str)) = false) : (pf r q).lookup x = none := by
  show (match (x == ("row" : Str)) with | true => some (V.ref r) | false => (match (x == ("past" : Str)) with | true => some (V.ref q) | false => none)) = none
  rw [h1, h2]
theorem pf_len {r q : Addr} : (pf r q).length < 1000 := by
  show (2 : Nat) < 1000
  decide
theorem put_row {r q r' : Addr} : putF ("row" : Str) (.ref r') (pf r q) = pf r' q := rfl
section
variable {K : PySem.W.Frag} {H H' : Hp}
def Rows (K : PySem.W.Frag) (H : Hp) (q : Addr) : List V → List (List Bar) → Prop := Paired fun v bs => ∃ r, v = .ref r ∧ r ≠ q ∧ RowAt K H r bs
/-- the part at p: its bars, what it was (its list at q) -/
def PartX (K : PySem.W.Frag) (H : Hp) (p q : Addr) (bs : List Bar) (past : List (List Bar)) : Prop :=
  ∃ dx r ws, H p = some (.ins (pC K) dx (pf r q)) ∧ r ≠ q ∧ RowAt K H r bs ∧ H q = some (.lst ws) ∧ Rows K H q ws past
theorem Rows.imp {q : Addr} {ws : List V} {past : List (List Bar)} (h : Rows K H q ws past) (f : ∀ r bs, r ≠ q → RowAt K H r bs → RowAt K H' r bs) : Rows K H' q ws past :=
  Paired.mapP h fun v bs ⟨r, e, n, z⟩ => ⟨r, e, n, f r bs n z⟩
theorem Rows.snoc {q : Addr} {r : Addr} {bs : List Bar} : ∀ {ws : List V} {past : List (List Bar)}, Rows K H q ws past → r ≠ q → RowAt K H r bs → Rows K H q (ws ++ [.ref r]) (past ++ [bs])
  | _, _, .nil, n, h => .cons ⟨r, rfl, n, h⟩ .nil
  | _, _, .cons a t, n, h => .cons a (Rows.snoc t n h)
theorem Rows.len {q : Addr} {ws : List V} {past : List (List Bar)} (h : Rows K H q ws past) : ws.length = past.length := Paired.length h
theorem PartX.same {p q : Addr} {bs : List Bar} {past : List (List Bar)} (h : PartX K H p q bs past) (s : Same H H') : PartX K H' p q bs past := by
  obtain ⟨dx, r, ws, h1, n, h2, h3, h4⟩ := h
  exact ⟨dx, r, ws, s _ _ h1, n, h2.same s, s _ _ h3, h4.imp fun _ _ _ z => z.same s⟩
/-- a die -/
def Dice (H : Hp) (d : Addr) : Prop := ∃ a b : Int, H d = some (.lst [.int a, .int b])
theorem RowAt.ne_dice {r d : Addr} {bs : List Bar} (h : RowAt K H r bs) (hd : Dice H d) : r ≠ d := by
  obtain ⟨vs, e, a⟩ := h
  obtain ⟨i, j, e2⟩ := hd
  intro z
  subst z
  rw [e] at e2
  injection e2 with e3
  injection e3 with e4
  subst e4
  cases bs with
  | nil => cases a
  | cons b r =>
    cases a with
    | cons d _ => cases d
theorem PartX.fr {p q d : Addr} {bs : List Bar} {past : List (List Bar)} (h : PartX K H p q bs past) (hd : Dice H d) (s : Fr [d] H H') : PartX K H' p q bs past := by
  obtain ⟨dx, r, ws, h1, n, h2, h3, h4⟩ := h
  obtain ⟨i, j, e2⟩ := id hd
  have np : p ≠ d := ne_of h1 e2 (by intro z; cases z)
  have nq : q ≠ d := by
    intro z
    subst z
    rw [h3] at e2
    injection e2 with e3
    injection e3 with e4
    subst e4
    cases h4 with
    | cons a _ =>
      obtain ⟨r, e, _⟩ := a
      cases e
  exact ⟨dx, r, ws, s.keep _ _ (by simp [np]) h1, n, h2.fr s (by simp [h2.ne_dice hd]), s.keep _ _ (by simp [nq]) h3, h4.imp fun r bs _ z => z.fr s (by simp [z.ne_dice hd])⟩
theorem Fr.step {ds es : List Addr} {H0 H1 H2 : Hp} (a : Fr ds H0 H1) (b : Fr es H1 H2) (h : ∀ e ∈ es, H0 e = none ∨ e ∈ ds) : Fr ds H0 H2 := by
  refine ⟨fun c o n e => b.keep c o (fun z => ?_) (a.keep c o n e), fun c xs e => b.tu c xs (a.tu c xs e), fun c o u e => b.fz c o u (a.fz c o u e)⟩
  rcases h c z with q | q
  · rw [q] at e
    cases e
  · exact n q
end
theorem cut_take {xs : List V} {k : Nat} : cutV xs none (some (k : Int)) = xs.take k := by
  unfold cutV
  rw [HT.sIx_none, HT.sIx_nat]
  show (xs.drop 0).take (min k xs.length - 0) = xs.take k
  rw [List.drop_zero, Nat.sub_zero, List.take_eq_take_min]
  all_goals simp
theorem cut_drop {xs : List V} {k : Nat} : cutV xs (some (k : Int)) none = xs.drop k := by
  unfold cutV
  rw [HT.sIx_none, HT.sIx_nat]
  by_cases h : k ≤ xs.length
  · rw [Nat.min_eq_left h, List.take_of_length_le (by rw [List.length_drop]; omega)]
  · rw [Nat.min_eq_right (by omega), List.drop_length, List.drop_eq_nil_of_le (by omega)]
    exact List.take_nil
theorem sc_is_number : FnScope ["thing", "low", "high"] ["thing", "low", "high"] (defScope s_is_number) := ⟨rfl, rfl, rfl, by decide +kernel, rfl, by decide +kernel, by decide +kernel⟩
section
variable {K : PySem.W.Frag} {mg : Str → Option Value}
theorem b_is_number (T : Txt K mg) : Binds K (fdOf K ("is_number", none)) ["thing", "low", "high"] [] := T.is_number.bindsN fun _ _ _ _ _ _ us hl => match us, hl with | [_, _, _], _ => rfl
end
/-- a whole number between -/
def isNum : PyData → Int → Int → Bool
  | .int i, lo, hi => decide (lo ≤ i) && decide (i ≤ hi)
  | _, _, _ => false
def sp_is_number (K : PySem.W.Frag) : Sp := fun vs H Q _ => ∃ (x : V) (d : PyData) (lo hi : Int), vs = [x, .int lo, .int hi] ∧ Dp K H x d ∧ Q (.bl (isNum d lo hi)) H
theorem ok_is_number {P : Program} {w : World} {K : PySem.W.Frag} {mg : Str → Option Value} {base : Heap} (T : Txt K mg) : OkF P w K mg base CX0 1 ("is_number", none) ["thing", "low", "high"] (sp_is_number K) := by
  refine okN T.is_number sc_is_number (fun vs H Q E h => ?_) (fun cdv A outer s H vs Q E hr h => ?_)
  · obtain ⟨x, d, lo, hi, rfl, _⟩ := h
    rfl
  · obtain ⟨x, d, lo, hi, rfl, hd, q⟩ := h
    refine ⟨_, (pss_one (ps_ret (pe_and (pe_callB call_isi (by rfl) T.b_isinstance (by decide +kernel) (pa_cons (pv 0) (pa_cons (pe_bltn (v := .ty "int") (by rfl) T.b_int (by decide +kernel) rfl) pa_nil))) (pe_and (pe_not (pe_callB call_isi (by rfl) T.b_isinstance (by decide +kernel) (pa_cons (pv 0) (pa_cons (pe_bltn (v := .ty "bool") (by rfl) T.b_bool (by decide +kernel) rfl) pa_nil)))) (pe_one (pe_chain op_le op_le (pv 1) (pv 0) (pv 2))))))), ?_⟩
    refine ⟨_, rfl, _, _, _, _, _, rfl, .ty _, dp_ty hd, kit_int d, _, rfl, ?_⟩
    cases d with
    | int i =>
      cases hd
      refine iteT ⟨_, rfl, _, _, _, _, _, rfl, .ty _, dp_ty (.int i), kit_bool (.int i), _, rfl, _, rfl, iteT ⟨_, rfl, _, rfl, _, _, rfl, rfl, _, rfl, ?_⟩⟩
      replace q : Q (.bl (decide (lo ≤ i) && decide (i ≤ hi))) H := q
      refine ite2 (fun h => ?_) (fun h => ?_)
      · rw [h] at q
        exact ⟨_, rfl, _, _, rfl, rfl, q⟩
      · rw [Bool.eq_false_iff.mpr h] at q
        exact q
    | bool b =>
      cases hd
      exact iteT ⟨_, rfl, _, _, _, _, _, rfl, .ty _, dp_ty (.bl b), kit_bool (.bool b), _, rfl, _, rfl, iteF q⟩
    | _ => exact iteF q
theorem sc_is_bar : FnScope ["thing"] ["thing"] (defScope s_is_bar) := ⟨rfl, rfl, rfl, by decide +kernel, rfl, by decide +kernel, by decide +kernel⟩
section
variable {K : PySem.W.Frag} {mg : Str → Option Value}
theorem b_is_bar (T : Txt K mg) : Binds K (fdOf K ("is_bar", none)) ["thing"] [] := T.is_bar.bindsN fun _ _ _ _ _ _ us hl => match us, hl with | [_], _ => rfl
end
def isBar : PyData → Bool
  | .tuple [a, b, .bool _] => isNum a 1 40 && isNum b 1 16
  | _ => false
theorem isBar_len {ds : List PyData} (h : ds.length ≠ 3) : isBar (.tuple ds) = false := by
  unfold isBar
  split
  · rename_i e
    injection e with e
    subst e
    exact absurd rfl h
  · rfl
theorem isBar_bar {x : Bar} (h : BarOk x) : isBar (barD x) = true := by
  obtain ⟨h1, h2, h3, h4⟩ := h
  show ((decide (1 ≤ x.w) && decide (x.w ≤ 40)) && (decide (1 ≤ x.b) && decide (x.b ≤ 16))) = true
  rw [decide_eq_true h1, decide_eq_true h2, decide_eq_true h3, decide_eq_true h4]
  rfl
def sp_is_bar (K : PySem.W.Frag) : Sp := fun vs H Q _ => ∃ (x : V) (d : PyData), vs = [x] ∧ Dp K H x d ∧ Q (.bl (isBar d)) H
theorem ok_is_bar {P : Program} {w : World} {K : PySem.W.Frag} {mg : Str → Option Value} {base : Heap} (T : Txt K mg) : OkF P w K mg base CX0 2 ("is_bar", none) ["thing"] (sp_is_bar K) := by
  refine okN T.is_bar sc_is_bar (fun vs H Q E h => ?_) (fun cdv A outer s H vs Q E hr h => ?_)
  · obtain ⟨x, d, rfl, _⟩ := h
    rfl
  · obtain ⟨x, d, rfl, hd, q⟩ := h
    refine ⟨_, (pss_cons (ps_if (PW.pt (pw_or (pt_not (pt_val (pe_callB call_isi (by rfl) T.b_isinstance (by decide +kernel) (pa_cons (pv 0) (pa_cons (pe_bltn (v := .ty "tuple") (by rfl) T.b_tuple (by decide +kernel) rfl) pa_nil))))) (pw_or (pt_cmpR op_ne (pe_callB call_len (by rfl) T.b_len PySem.boot_len (pa_cons (pv 0) pa_nil)) pe_int (nomark _)) (pw_or1 (pt_not (pt_val (pe_callB call_isi (by rfl) T.b_isinstance (by decide +kernel) (pa_cons (pe_ix ix_tup (pv 0) pe_int (fun _ _ => rfl)) (pa_cons (pe_bltn (v := .ty "bool") (by rfl) T.b_bool (by decide +kernel) rfl) pa_nil))))))))) (pss_one (ps_ret pe_bl)) pss_nil)
      (pss_one (ps_ret (pe_and (pe_call (ok_is_number T) (hr.mono (by decide)) (by rfl) T.g_is_number T.is_number.kp (b_is_number T) .nil pass0 (pa_cons (pe_ix ix_tup (pv 0) pe_int (fun _ _ => rfl)) (pa_cons pe_int (pa_cons pe_int pa_nil)))) (pe_one (pe_call (ok_is_number T) (hr.mono (by decide)) (by rfl) T.g_is_number T.is_number.kp (b_is_number T) .nil pass0 (pa_cons (pe_ix ix_tup (pv 0) pe_int (fun _ _ => rfl)) (pa_cons pe_int (pa_cons pe_int pa_nil))))))))), ?_⟩
    refine ⟨_, rfl, _, _, _, _, _, rfl, .ty _, dp_ty hd, kit_tup d, _, rfl, ?_⟩
    cases d with
    | tuple ds =>
      cases hd with
      | tup hs ha =>
        refine iteF ⟨_, rfl, _, _, rfl, .inr ⟨_, hs, rfl⟩, rfl, _, rfl, ?_⟩
        by_cases hl : ds.length = 3
        · obtain ⟨d0, d1, d2, rfl⟩ := len3 hl
          obtain ⟨v0, v1, v2, rfl, h0, h1, h2⟩ := dpa3 ha
          refine iteNNQ rfl ⟨_, rfl, _, _, _, _, rfl, rfl, hs, rfl, _, _, _, _, _, rfl, .ty _, dp_ty h2, kit_bool d2, _, rfl, ?_⟩
          cases d2 with
          | bool r =>
            refine iteF ⟨_, rfl, _, _, _, _, rfl, rfl, hs, rfl, _, d0, _, _, rfl, h0, _, rfl, ?_⟩
            replace q : Q (.bl (isNum d0 1 40 && isNum d1 1 16)) H := q
            refine ite2 (fun e => ?_) (fun e => ?_)
            · rw [e] at q
              exact ⟨_, rfl, _, _, _, _, rfl, rfl, hs, rfl, _, d1, _, _, rfl, h1, q⟩
            · rw [Bool.eq_false_iff.mpr e] at q
              exact q
          | _ => exact iteT q
        · rw [isBar_len hl] at q
          exact iteNEQ (by rw [dpa_len ha]; omega) q
    | _ => exact iteT q
theorem sc_Part_init : FnScope ["self", "bars", "one"] ["self", "bars"] (defScope s_Part_init) := ⟨rfl, rfl, rfl, by decide +kernel, rfl, by decide +kernel, by decide +kernel⟩
section
variable {K : PySem.W.Frag} {mg : Str → Option Value}
theorem b1_Part (T : Txt K mg) : Binds K (fdOf K ("Part", some "__init__")) ["self", "bars"] [] := by
  obtain ⟨ds, v, b⟩ := T.Part_init.binds1 (ps := ["self", "bars"]) 2 1 (by simp) rfl fun T kV doc pm an cdv ct us its h1 h2 => match us, its, h1, h2 with | [_, _], [_], _, _ => ⟨_, rfl, rfl⟩
  cases v
  exact b
theorem b0_Part (T : Txt K mg) : ∃ ds, Vals [.non] ds ∧ Binds K (fdOf K ("Part", some "__init__")) ["self", "bars"] ds :=
  T.Part_init.binds1 (ps := ["self", "bars"]) 1 0 (by simp) rfl fun T kV doc pm an cdv ct us its h1 h2 => match us, its, h1, h2 with | [_], [_], _, _ => ⟨_, rfl, rfl⟩
end
def sp_Part_init (K : PySem.W.Frag) : Sp := fun vs H Q _ => ∃ (x dx : Addr) (v : V) (bs : List Bar), vs = [.ref x, v] ∧ H x = some (.ins (pC K) dx []) ∧ (v = .non ∧ bs = [] ∨ ∃ a, v = .ref a ∧ Dp K H (.ref a) (.list (barsD bs))) ∧ (∀ b ∈ bs, BarOk b) ∧ bs.length ≤ 40 ∧
  ∀ H' q, Fr [x] H H' → H q = none → PartX K H' x q bs [] → Q .non H'
theorem isBars : ∀ {bs : List Bar}, (∀ b ∈ bs, BarOk b) → (bs.map fun b => isBar (barD b)).all id = true
  | [], _ => rfl
  | x :: r, h => by
    show (isBar (barD x) && ((r.map fun b => isBar (barD b)).all id)) = true
    rw [isBar_bar (h x List.mem_cons_self), isBars fun b hb => h b (List.mem_cons_of_mem _ hb)]
    rfl
theorem ok_Part_init {P : Program} {w : World} {K : PySem.W.Frag} {mg : Str → Option Value} {base : Heap} (T : Txt K mg) : OkF P w K mg base CX0 3 ("Part", some "__init__") ["self", "bars"] (sp_Part_init K) := by
  refine okN T.Part_init sc_Part_init (fun vs H Q E h => ?_) (fun cdv A outer s H vs Q E hr h => ?_)
  · obtain ⟨x, dx, v, bs, rfl, _⟩ := h
    rfl
  · obtain ⟨x, dx, v, bs, rfl, hx, hv, ok, hl, z⟩ := h
    refine ⟨_, (pss_cons (ps_if (PW.pt (pw_and (pt_cmp (pc_notN (pv 1))) (pw_and1 (PW.pt (pw_or (pt_not (pt_val (pe_callB call_isi (by rfl) T.b_isinstance (by decide +kernel) (pa_cons (pv 1) (pa_cons (pe_bltn (v := .ty "list") (by rfl) T.b_list (by decide +kernel) rfl) pa_nil))))) (pw_or1 (pt_not (pt_val (pe_callB (cr_all rfl) (by rfl) T.b_all (by decide +kernel) (pa_cons (pe_lc (own := [("one", 2)]) (g := (gName 2)) (tt := tYes)  (by rfl) sc_Part_init.nd (pi_list (pv 1)) (blkOk_by (own := [("one", 2)]) (N := ["self", "bars", "one"]) (sc := defScope s_Part_init) (by decide +kernel)) (fun _ _ _ _ _ => (pg_name (i := 2) sc_Part_init.nd rfl (by first | exact Or.inl rfl | exact Or.inr rfl))) (fun _ _ _ _ _ => pts_nil) (fun _ _ _ _ _ => (pe_call (ok_is_bar T) (hr.mono (by decide)) (by rfl) T.g_is_bar T.is_bar.kp (b_is_bar T) .nil pass0 (pa_cons (pv 2) pa_nil)))) pa_nil)))))))))) pss_never pss_nil)
      (pss_cons (ps_fld (pv 0) (pe_ifExp (pt_cmp (pc_notN (pv 1))) (pe_callTy call_list_of (by rfl) T.b_list (by decide +kernel) (pa_cons (pv 1) pa_nil)) (pe_lst pa_nil)) rfl)
      (pss_cons (ps_if (pt_cmpR op_gt (pe_callB call_len (by rfl) T.b_len PySem.boot_len (pa_cons (pe_fld (pv 0) rfl) pa_nil)) (pe_glob (v := .int 40) (by rfl) T.c_MOST.choose_spec ⟨_, rfl⟩) (nomark _)) pss_never pss_nil)
      (pss_one (ps_fld (pv 0) (pe_lst pa_nil) rfl))))), ?_⟩
    -- what follows the row's store
    have tail : ∀ (H1 : Hp) (r : Addr) (vs : List V), Fr [x] H H1 → H1 x = some (.ins (pC K) dx []) → H r = none → H1 r = some (.lst vs) → DpAll K H1 vs (barsD bs) →
        ∀ (H2 : Hp), H2 = upd H1 x (.ins (pC K) dx [("row", .ref r)]) → (H2 x = some (.ins (pC K) dx [("row", .ref r)]) ∧ H2 r = some (.lst vs) ∧ Fr [x] H H2 ∧ DpAll K H2 vs (barsD bs)) := by
      intro H1 r vs f h1 nr h2 h3 H2 e
      subst e
      have f2 : Fr [x] H1 (upd H1 x (.ins (pC K) dx [("row", .ref r)])) := Fr.upd h1 trivial (by simp)
      refine ⟨upd_same, ?_, f.trans f2, f2.dpa h3 (isTs_bars bs)⟩
      rw [upd_ne (ne_of h2 h1 (by intro z; cases z))]
      exact h2
    have fin : ∀ (H2 : Hp) (r q : Addr) (vs : List V), H2 x = some (.ins (pC K) dx [("row", .ref r)]) → H2 r = some (.lst vs) → Fr [x] H H2 → DpAll K H2 vs (barsD bs) → H2 q = none →
        Q .non (upd (upd H2 q (.lst [])) x (.ins (pC K) dx (pf r q))) := by
      intro H2 r q vs h1 h2 f h3 nq
      have s : Same H2 (upd H2 q (.lst [])) := same_upd nq
      have nqx : x ≠ q := ne_of_none h1 nq
      have nqr : r ≠ q := ne_of_none h2 nq
      have h1' : (upd H2 q (.lst [])) x = some (.ins (pC K) dx [("row", .ref r)]) := s _ _ h1
      have f2 : Fr [x] (upd H2 q (.lst [])) (upd (upd H2 q (.lst [])) x (.ins (pC K) dx (pf r q))) := Fr.upd h1' trivial (by simp)
      have f3 := (f.trans (Fr.of s _)).trans f2
      have nq0 : H q = none := by
        cases e : H q with
        | none => rfl
        | some o =>
          have := f.keep q o (by simp [nqx.symm]) e
          rw [nq] at this
          cases this
      refine z _ q f3 nq0 ⟨dx, r, [], upd_same, nqr, ⟨vs, ?_, f2.dpa (dpa_same s h3) (isTs_bars bs)⟩, ?_, .nil⟩
      · rw [upd_ne (ne_of (s _ _ h2) h1' (by intro z; cases z))]
        exact s _ _ h2
      · rw [upd_ne nqx.symm, upd_same]
    rcases hv with ⟨rfl, rfl⟩ | ⟨a, rfl, hd⟩
    · refine ⟨_, rfl, _, rfl, ?_⟩
      refine iteF ⟨_, rfl, _, rfl, iteF ⟨by decide, fun r nr => ?_⟩⟩
      have s : Same H (upd H r (.lst [])) := same_upd nr
      refine ⟨_, rfl, x, _, dx, _, rfl, s _ _ hx, T.cl_Part, T.n_row, by decide, ?_⟩
      obtain ⟨h1, h2, h3, h4⟩ := tail _ r [] (Fr.of s _) (s _ _ hx) nr upd_same .nil _ rfl
      refine ⟨_, rfl, x, _, dx, _, _, rfl, h1, T.cl_Part, T.n_row, rfl, _, _, rfl, .inl ⟨_, .of h2, rfl⟩, _, _, rfl, rfl, _, rfl, iteN (by decide) ?_⟩
      exact ⟨by decide, fun q nq => ⟨_, rfl, x, _, dx, [("row", .ref r)], rfl, by rw [upd_ne (ne_of_none h1 nq)]; exact h1, T.cl_Part, T.n_past, by show (1 : Nat) < 1000; decide, fin _ r q [] h1 h2 h3 h4 nq⟩⟩
    · obtain ⟨vs, hs, ha⟩ := lst_bars hd
      refine ⟨_, rfl, _, rfl, ?_⟩
      refine iteT ⟨_, rfl, _, _, _, _, _, rfl, .ty _, dp_ty hd, kit_lst _, _, rfl, iteF ?_⟩
      refine ⟨_, rfl, a, rfl, ⟨_, hs⟩, fun D hD => lc_list (K := K) (a := a) (xs := vs) (fun i H' => Same H H' ∧ H' D = some (.lst (((bs.take i).map fun b => isBar (barD b)).map V.bl))) ⟨same_upd hD, ?_⟩ ?_ ?_ ?_⟩
      · rw [upd_same]
        rfl
      · rintro i H' _ ⟨s, _⟩
        exact s.seq hs
      · rintro i v H' hv ⟨s, e⟩
        obtain ⟨b, p, hb, rfl, hp⟩ := bar_at ha hv
        refine ⟨rfl, _, rfl, _, _, rfl, dp_bar_of (same_sqt s hp), _, e, ?_, ?_, ?_⟩
        · rw [List.length_map, List.length_map, List.length_take]
          exact small1000 (by omega)
        · exact same_updR s hD
        · rw [upd_same, take_at hb, List.map_append, List.map_append]
          rfl
      · rintro H1 ⟨s1, e1⟩
        rw [bars_len ha, List.take_length] at e1
        refine ⟨D, _, rfl, .of e1, _, rfl, ?_⟩
        rw [isBars ok]
        refine iteF ⟨_, rfl, _, rfl, iteT ⟨_, rfl, a, vs, rfl, .inl (s1.seq hs), fun r nr => ?_⟩⟩
        have s2 := s1.trans (same_upd (o := .lst vs) nr)
        refine ⟨_, rfl, x, _, dx, _, rfl, s2 _ _ hx, T.cl_Part, T.n_row, by decide, ?_⟩
        obtain ⟨h1, h2, h3, h4⟩ := tail _ r vs (Fr.of s2 _) (s2 _ _ hx) (s1.free nr) upd_same (dpa_same s2 ha) _ rfl
        refine ⟨_, rfl, x, _, dx, _, _, rfl, h1, T.cl_Part, T.n_row, rfl, _, _, rfl, .inl ⟨_, .of h2, rfl⟩, _, _, rfl, rfl, _, rfl, iteN (by rw [bars_len ha]; omega) ?_⟩
        exact ⟨by decide, fun q nq => ⟨_, rfl, x, _, dx, [("row", .ref r)], rfl, by rw [upd_ne (ne_of_none h1 nq)]; exact h1, T.cl_Part, T.n_past, by show (1 : Nat) < 1000; decide, fin _ r q vs h1 h2 h3 h4 nq⟩⟩
theorem sc__law_cell : FnScope ["script", "k"] ["script", "k"] (defScope s__law_cell) := ⟨rfl, rfl, rfl, by decide +kernel, rfl, by decide +kernel, by decide +kernel⟩
section
variable {K : PySem.W.Frag} {mg : Str → Option Value}
theorem b__law_cell (T : Txt K mg) : Binds K (fdOf K ("_law_cell", none)) ["script", "k"] [] := T._law_cell.bindsN fun _ _ _ _ _ _ us hl => match us, hl with | [_, _], _ => rfl
end
def sp__law_cell (K : PySem.W.Frag) : Sp := fun vs H Q _ => ∃ (a : Addr) (ns : List Int) (k : Nat), vs = [.ref a, .int (k : Int)] ∧ SqL K H a (ns.map V.int) ∧ ns.length ≤ 63 ∧ k ≤ 1000 ∧ ∀ H' i, Same H H' → Q (.int i) H'
theorem ok__law_cell {P : Program} {w : World} {K : PySem.W.Frag} {mg : Str → Option Value} {base : Heap} (T : Txt K mg) : OkF P w K mg base CX0 1 ("_law_cell", none) ["script", "k"] (sp__law_cell K) := by
  refine okN T._law_cell sc__law_cell (fun vs H Q E h => ?_) (fun cdv A outer s H vs Q E hr h => ?_)
  · obtain ⟨a, ns, k, rfl, _⟩ := h
    rfl
  · obtain ⟨a, ns, k, rfl, hs, hl, hk, z⟩ := h
    refine ⟨_, (pss_cons (ps_if (pt_cmpR (op_eqD hr.units) (pv 0) (pe_lst pa_nil) (nomark _)) (pss_one (ps_ret (pe_op op_mul (pv 1) pe_int))) pss_nil)
      (pss_one (ps_ret (pe_op op_add (pe_ix ix_list (pv 0) (pe_op op_mod (pv 1) (pe_callB call_len (by rfl) T.b_len PySem.boot_len (pa_cons (pv 0) pa_nil))) (fun _ _ => rfl)) (pe_op op_mul (pe_op op_fdiv (pv 1) (pe_callB call_len (by rfl) T.b_len PySem.boot_len (pa_cons (pv 0) pa_nil))) pe_int))))), ?_⟩
    refine ⟨_, rfl, by decide, fun e ne => ?_⟩
    have s1 : Same H (upd H e (.lst [])) := same_upd ne
    refine ⟨_, _, .lst (s1.seq hs) (dpa_ints ns), .lst (.of upd_same) .nil, (shp_ints ns).ok (by decide), (shp_nil (n := 0)).ok (by decide), _, rfl, ?_⟩
    refine ite2 (fun h => ?_) (fun h => ?_)
    · exact ⟨_, rfl, _, _, rfl, rfl, .inr ⟨by decide, by decide⟩, z _ _ s1⟩
    · have hn : ns ≠ [] := fun e => h (eqv_nil.mpr (by rw [e]; rfl))
      have hpos : 0 < ns.length := List.length_pos_iff.mpr hn
      have hb := Int.emod_nonneg (k : Int) (b := (ns.length : Int)) (by omega)
      have hb2 := Int.emod_lt_of_pos (k : Int) (b := (ns.length : Int)) (by omega)
      have hi : ((k : Int) % (ns.length : Int)).toNat < ns.length := by omega
      refine ⟨_, rfl, _, rfl, _, rfl, _, _, rfl, .inl ⟨_, s1.seq hs, rfl⟩, _, _, rfl, rfl, by rw [List.length_map]; omega, ?_⟩
      rw [List.length_map]
      refine ⟨a, _, _, .int ns[((k : Int) % (ns.length : Int)).toNat], rfl, rfl, s1.seq hs, at_of (j := ((k : Int) % (ns.length : Int)).toNat) (by omega) (by rw [List.getElem?_map, List.getElem?_eq_getElem hi]; rfl), ?_⟩
      refine ⟨_, rfl, _, rfl, _, _, rfl, .inl ⟨_, s1.seq hs, rfl⟩, _, _, rfl, rfl, ⟨by rw [List.length_map]; omega, by rw [List.length_map]; omega⟩, ?_⟩
      exact ⟨_, _, rfl, rfl, .inr ⟨by decide, by decide⟩, _, _, rfl, rfl, z _ _ s1⟩
theorem sc__law_rounds : FnScope ["script", "most", "k"] ["script", "most"] (defScope s__law_rounds) := ⟨rfl, rfl, rfl, by decide +kernel, rfl, by decide +kernel, by decide +kernel⟩
section
variable {K : PySem.W.Frag} {mg : Str → Option Value}
theorem b__law_rounds (T : Txt K mg) : Binds K (fdOf K ("_law_rounds", none)) ["script", "most"] [] := T._law_rounds.bindsN fun _ _ _ _ _ _ us hl => match us, hl with | [_, _], _ => rfl
end
def sp__law_rounds (K : PySem.W.Frag) : Sp := fun vs H Q _ => ∃ (a : Addr) (ns : List Int) (most : Nat), vs = [.ref a, .int (most : Int)] ∧ SqL K H a (ns.map V.int) ∧ ns.length ≤ 63 ∧ most ≤ 1000 ∧
  ∀ H' (R : Addr) (ds : List Addr), Same H H' → H R = none → H' R = some (.lst (ds.map V.ref)) → (∀ d ∈ ds, Dice H' d ∧ d ≠ R) → ds.length ≤ 1000 → Q (.ref R) H'
theorem ok__law_rounds {P : Program} {w : World} {K : PySem.W.Frag} {mg : Str → Option Value} {base : Heap} (T : Txt K mg) : OkF P w K mg base CX0 2 ("_law_rounds", none) ["script", "most"] (sp__law_rounds K) := by
  refine okN T._law_rounds sc__law_rounds (fun vs H Q E h => ?_) (fun cdv A outer s H vs Q E hr h => ?_)
  · obtain ⟨a, ns, most, rfl, _⟩ := h
    rfl
  · obtain ⟨a, ns, most, rfl, hs, hl, hm, z⟩ := h
    refine ⟨_, (pss_one (ps_ret (pe_lc (own := [("k", 2)]) (g := (gName 2)) (tt := tYes)  (by rfl) sc__law_rounds.nd (pi_range1 (by rfl) T.b_range (pa_cons (pe_callB (call_max2 rfl) (by rfl) T.b_max (by decide +kernel) (pa_cons pe_int (pa_cons (pe_callB (call_min2 rfl) (by rfl) T.b_min (by decide +kernel) (pa_cons (pv 1) (pa_cons (pe_callB call_len (by rfl) T.b_len PySem.boot_len (pa_cons (pv 0) pa_nil)) pa_nil))) pa_nil))) pa_nil)) (blkOk_by (own := [("k", 2)]) (N := ["script", "most", "k"]) (sc := defScope s__law_rounds) (by decide +kernel)) (fun _ _ _ _ _ => (pg_name (i := 2) sc__law_rounds.nd rfl (by first | exact Or.inl rfl | exact Or.inr rfl))) (fun _ _ _ _ _ => pts_nil) (fun _ _ _ _ _ => (pe_lst (pa_cons (pe_call (ok__law_cell T) (hr.mono (by decide)) (by rfl) T.g__law_cell T._law_cell.kp (b__law_cell T) .nil pass0 (pa_cons (pv 0) (pa_cons (pv 2) pa_nil))) (pa_cons pe_int pa_nil))))))), ?_⟩
    refine ⟨_, rfl, _, rfl, _, _, rfl, .inl ⟨_, hs, rfl⟩, _, _, rfl, _, _, rfl, _, rfl, ?_⟩
    rw [List.length_map]
    have hb : ∃ n : Nat, (if (if (ns.length : Int) < (most : Int) then (ns.length : Int) else (most : Int)) > 1 then (if (ns.length : Int) < (most : Int) then (ns.length : Int) else (most : Int)) else 1) = (n : Int) ∧ n ≤ 1000 := by
      by_cases h1 : (ns.length : Int) < (most : Int)
      · rw [if_pos h1]
        by_cases h2 : (ns.length : Int) > 1
        · exact ⟨ns.length, if_pos h2, by omega⟩
        · exact ⟨1, if_neg h2, by omega⟩
      · rw [if_neg h1]
        by_cases h2 : (most : Int) > 1
        · exact ⟨most, if_pos h2, by omega⟩
        · exact ⟨1, if_neg h2, by omega⟩
    obtain ⟨n, en, hn⟩ := hb
    rw [en]
    refine ⟨by omega, by omega, fun D hD => lc_range (lo := 0) (n := n) (fun i H' => Same H H' ∧ ∃ ds : List Addr, H' D = some (.lst (ds.map V.ref)) ∧ ds.length = i ∧ ∀ d ∈ ds, Dice H' d ∧ d ≠ D) ⟨same_upd hD, [], upd_same, rfl, fun _ h => nomatch h⟩ ?_ ?_⟩
    · rintro i H1 hi ⟨s1, ds, e1, hlen, hds⟩
      refine ⟨rfl, _, rfl, _, rfl, a, ns, i, ?_, s1.seq hs, hl, by omega, fun H2 c s2 => ⟨by show (2 : Nat) ≤ sizeLine; decide, fun d nd => ?_⟩⟩
      · show [V.ref a, V.int (0 + (i : Int))] = [V.ref a, V.int (i : Int)]
        rw [Int.zero_add]
      have s3 := s2.trans (same_upd (o := .lst [.int c, .int 0]) nd)
      have e3 := s3 _ _ e1
      refine ⟨_, e3, ?_, ?_, ds ++ [d], ?_, ?_, ?_⟩
      · rw [List.length_map]
        exact small1000 (by omega)
      · exact same_updR (s1.trans s3) hD
      · rw [upd_same, List.map_append]
        rfl
      · rw [List.length_append, hlen]
        rfl
      · intro x hx
        have nD : d ≠ D := fun e => by
          rw [e] at nd
          rw [s2 _ _ e1] at nd
          cases nd
        rcases List.mem_append.mp hx with hx | hx
        · obtain ⟨⟨p, q, hp⟩, nx⟩ := hds x hx
          exact ⟨⟨p, q, by rw [upd_ne nx]; exact s3 _ _ hp⟩, nx⟩
        · have ex : x = d := by simpa using hx
          subst ex
          exact ⟨⟨c, 0, by rw [upd_ne nD, upd_same]⟩, nD⟩
    · rintro H1 ⟨s1, ds, e1, hlen, hds⟩
      exact z H1 D ds s1 hD e1 hds (by omega)
theorem sc__law_drawn : FnScope ["cell", "k", "more"] ["cell", "k"] (defScope s__law_drawn) := ⟨rfl, rfl, rfl, by decide +kernel, rfl, by decide +kernel, by decide +kernel⟩
section
variable {K : PySem.W.Frag} {mg : Str → Option Value}
theorem b__law_drawn (T : Txt K mg) : Binds K (fdOf K ("_law_drawn", none)) ["cell", "k"] [] := T._law_drawn.bindsN fun _ _ _ _ _ _ us hl => match us, hl with | [_, _], _ => rfl
end
theorem mod_abs {x M : Int} {a : Nat} (h : 0 < M) (hM : M.natAbs < 2 ^ a) : (x % M).natAbs < 2 ^ a := by
  have h1 := Int.emod_nonneg x (b := M) (by omega)
  have h2 := Int.emod_lt_of_pos x h
  exact Nat.lt_of_le_of_lt (by omega) hM
theorem mod1_abs {x M : Int} {a : Nat} (h : 0 < M) (hM : M.natAbs < 2 ^ a) : (x % M + 1).natAbs < 2 ^ a := by
  have h1 := Int.emod_nonneg x (b := M) (by omega)
  have h2 := Int.emod_lt_of_pos x h
  exact Nat.lt_of_le_of_lt (by omega) hM
theorem div1_abs {x M P : Int} {a : Nat} (h : 0 < M) (hP : 0 < P) (hM : M.natAbs < 2 ^ a) : (x % M / P + 1).natAbs < 2 ^ a := by
  have h1 := Int.emod_nonneg x (b := M) (by omega)
  have h2 := Int.emod_lt_of_pos x h
  have h3 : 0 ≤ x % M / P := Int.ediv_nonneg h1 (by omega)
  have h4 : x % M / P ≤ x % M := Int.ediv_le_self P h1
  exact Nat.lt_of_le_of_lt (by omega) hM
def sp__law_drawn : Sp := fun vs H Q _ => ∃ c k : Int, vs = [.int c, .int k] ∧ ∀ r : Int, Q (.int r) H
theorem ok__law_drawn {P : Program} {w : World} {K : PySem.W.Frag} {mg : Str → Option Value} {base : Heap} (T : Txt K mg) : OkF P w K mg base CX0 1 ("_law_drawn", none) ["cell", "k"] sp__law_drawn := by
  refine okN T._law_drawn sc__law_drawn (fun vs H Q E h => ?_) (fun cdv A outer s H vs Q E hr h => ?_)
  · obtain ⟨c, k, rfl, _⟩ := h
    rfl
  · obtain ⟨c, k, rfl, z⟩ := h
    refine ⟨_, (pss_cons (ps_set (i := 2) sc__law_drawn.nd rfl (by first | exact Or.inl rfl | exact Or.inr rfl) (pe_op op_mod (pe_op op_add (pe_op op_mul (pv 0) pe_int) (pe_op op_mul (pe_op op_add (pv 1) pe_int) pe_int)) pe_int))
      (pss_cons (ps_set (i := 2) sc__law_drawn.nd rfl (by first | exact Or.inl rfl | exact Or.inr rfl) (pe_op op_mod (pe_op op_mulW (pv 2) (pv 2)) pe_int))
      (pss_cons (ps_set (i := 2) sc__law_drawn.nd rfl (by first | exact Or.inl rfl | exact Or.inr rfl) (pe_op op_mulW (pe_op op_mulW (pe_op op_add (pe_op op_mod (pv 2) pe_int) pe_int) (pe_op op_add (pe_op op_fdivW (pv 2) pe_int) pe_int)) (pv 2)))
      (pss_one (ps_ret (pe_op op_mod (pv 2) pe_int)))))), ?_⟩
    refine ⟨_, rfl, _, _, rfl, rfl, .inr ⟨by decide, by decide⟩, _, rfl, _, _, rfl, rfl, _, _, rfl, rfl, .inr ⟨by decide, by decide⟩, _, _, rfl, rfl, _, _, rfl, rfl, (by show (0 : Int) < 340282366920938463463374607431768211507; decide), ?_⟩
    refine ⟨_, rfl, _, rfl, _, _, rfl, rfl, wide_mul (a := 129) (b := 129) (mod_abs (by decide) (by decide)) (mod_abs (by decide) (by decide)) (by decide) (by decide) (by decide), _, _, rfl, rfl, (by show (0 : Int) < 340282366920938463463374607431768211297; decide), ?_⟩
    refine ⟨_, rfl, _, _, rfl, rfl, (by show (0 : Int) < 18446744073709551557; decide), _, _, rfl, rfl, _, rfl, _, _, rfl, rfl, ⟨by decide, by decide +kernel⟩, _, _, rfl, rfl, _, _, rfl, rfl, ?_, ?_⟩
    · exact wide_mul (a := 129) (b := 129) (mod1_abs (by decide) (by decide)) (div1_abs (by decide) (by decide) (by decide)) (by decide) (by decide) (by decide)
    · refine ⟨_, rfl, _, _, rfl, rfl, wide_mul (a := 258) (b := 129) (wide_lt (a := 129) (b := 129) (mod1_abs (by decide) (by decide)) (div1_abs (by decide) (by decide) (by decide))) (mod_abs (by decide) (by decide)) (by decide) (by decide) (by decide), ?_⟩
      exact ⟨_, rfl, _, _, rfl, rfl, (by show (0 : Int) < 340282366920938463463374607431768211507; decide), z _⟩
theorem sc__law_roll : FnScope ["dice", "many", "told"] ["dice", "many"] (defScope s__law_roll) := ⟨rfl, rfl, rfl, by decide +kernel, rfl, by decide +kernel, by decide +kernel⟩
section
variable {K : PySem.W.Frag} {mg : Str → Option Value}
theorem b__law_roll (T : Txt K mg) : Binds K (fdOf K ("_law_roll", none)) ["dice", "many"] [] := T._law_roll.bindsN fun _ _ _ _ _ _ us hl => match us, hl with | [_, _], _ => rfl
end
def sp__law_roll : Sp := fun vs H Q _ => ∃ (d : Addr) (many : Int), vs = [.ref d, .int many] ∧ Dice H d ∧ 0 < many ∧ many < 1073741824 ∧ ∀ H' (r : Int), Fr [d] H H' → Dice H' d → 0 ≤ r → r < many → Q (.int r) H'
theorem ok__law_roll {P : Program} {w : World} {K : PySem.W.Frag} {mg : Str → Option Value} {base : Heap} (T : Txt K mg) : OkF P w K mg base CX0 2 ("_law_roll", none) ["dice", "many"] sp__law_roll := by
  refine okN T._law_roll sc__law_roll (fun vs H Q E h => ?_) (fun cdv A outer s H vs Q E hr h => ?_)
  · obtain ⟨d, many, rfl, _⟩ := h
    rfl
  · obtain ⟨d, many, rfl, ⟨a, b, hd⟩, h1, h2, z⟩ := h
    refine ⟨_, (pss_cons (ps_if (pt_cmpR op_ge (pe_ix ix_list (pv 0) pe_int (fun _ _ => rfl)) (pe_op op_pow pe_int pe_int) (nomark _)) (pss_cons (ps_set (i := 2) sc__law_roll.nd rfl (by first | exact Or.inl rfl | exact Or.inr rfl) (pe_op op_mod (pe_ix ix_list (pv 0) pe_int (fun _ _ => rfl)) (pv 1)))
      (pss_cons (ps_asg (pe_op op_fdiv (pe_ix ix_list (pv 0) pe_int (fun _ _ => rfl)) (pv 1)) (pg_sub (pv 0) pe_int set_list))
      (pss_one (ps_ret (pv 2))))) pss_nil)
      (pss_cons (ps_asg (pe_op op_add (pe_ix ix_list (pv 0) pe_int (fun _ _ => rfl)) pe_int) (pg_sub (pv 0) pe_int set_list))
      (pss_one (ps_ret (pe_op op_mod (pe_op op_fdiv (pe_call (ok__law_drawn T) (hr.mono (by decide)) (by rfl) T.g__law_drawn T._law_drawn.kp (b__law_drawn T) .nil pass0 (pa_cons (pe_ix ix_list (pv 0) pe_int (fun _ _ => rfl)) (pa_cons (pe_ix ix_list (pv 0) pe_int (fun _ _ => rfl)) pa_nil))) pe_int) (pv 1)))))), ?_⟩
    refine ⟨_, rfl, d, _, _, _, rfl, rfl, .of hd, rfl, _, _, rfl, rfl, ⟨by decide, by decide, by decide⟩, _, _, rfl, rfl, _, rfl, ?_⟩
    refine ite2 (fun h => ?_) (fun h => ?_)
    · refine ⟨_, rfl, d, _, _, _, rfl, rfl, .of hd, rfl, _, rfl, _, _, rfl, rfl, h1, ?_⟩
      refine ⟨_, rfl, d, _, _, _, rfl, rfl, .of hd, rfl, _, rfl, _, _, rfl, rfl, ⟨h1, h2⟩, _, rfl, d, _, _, 0, rfl, rfl, hd, rfl, ?_⟩
      exact ⟨_, rfl, z _ _ (Fr.upd hd trivial (by simp)) ⟨_, _, upd_same⟩ (Int.emod_nonneg _ (by omega)) (Int.emod_lt_of_pos _ h1)⟩
    · refine ⟨_, rfl, d, _, _, _, rfl, rfl, .of hd, rfl, _, _, rfl, rfl, _, rfl, d, _, _, 1, rfl, rfl, hd, rfl, ?_⟩
      refine ⟨_, rfl, d, _, _, _, rfl, rfl, .of upd_same, rfl, _, rfl, d, _, _, _, rfl, rfl, .of upd_same, rfl, _, _, rfl, fun r => ?_⟩
      exact ⟨_, _, rfl, rfl, ⟨by decide, by decide⟩, _, rfl, _, _, rfl, rfl, h1, z _ _ (Fr.upd hd trivial (by simp)) ⟨_, _, upd_same⟩ (Int.emod_nonneg _ (by omega)) (Int.emod_lt_of_pos _ h1)⟩
def sp_law (K : PySem.W.Frag) : Sp := fun vs H Q _ => ∃ (a : Addr) (ns : List Int), vs = [.ref a] ∧ SqL K H a (ns.map V.int) ∧ ns.length ≤ 63 ∧ ∀ H', Q (.bl true) H'
/-- the dice of all rounds -/
def Rnd (H : Hp) (R : Addr) (ds : List Addr) : Prop := H R = some (.lst (ds.map V.ref)) ∧ ∀ d ∈ ds, Dice H d ∧ d ≠ R
theorem Rnd.turn {H0 H1 : Hp} {R d : Addr} {ds : List Addr} (h : Rnd H0 R ds) (hd : d ∈ ds) (f : Fr [d] H0 H1) (hd1 : Dice H1 d) : Rnd H1 R ds := by
  obtain ⟨h1, h2⟩ := h
  refine ⟨f.keep _ _ (by simp [(h2 d hd).2.symm]) h1, fun x hx => ⟨?_, (h2 x hx).2⟩⟩
  by_cases e : x = d
  · rw [e]
    exact hd1
  · obtain ⟨⟨a, b, z⟩, _⟩ := h2 x hx
    exact ⟨a, b, f.keep _ _ (by simp [e]) z⟩
theorem Rnd.at {H : Hp} {R : Addr} {ds : List Addr} (h : Rnd H R ds) {i : Nat} {v : V} (e : (ds.map V.ref)[i]? = some v) : ∃ d, v = .ref d ∧ d ∈ ds ∧ Dice H d := by
  rw [List.getElem?_map] at e
  cases q : ds[i]? with
  | none =>
    rw [q] at e
    cases e
  | some d =>
    rw [q] at e
    exact ⟨d, (Option.some.inj e).symm, List.mem_of_getElem? q, (h.2 d (List.mem_of_getElem? q)).1⟩
theorem Dice.fr {H H' : Hp} {d x : Addr} (h : Dice H x) (f : Fr [d] H H') (n : x ≠ d) : Dice H' x := by
  obtain ⟨a, b, z⟩ := h
  exact ⟨a, b, f.keep _ _ (by simp [n]) z⟩
theorem Dice.same {H H' : Hp} {d : Addr} (h : Dice H d) (s : Same H H') : Dice H' d := by
  obtain ⟨a, b, z⟩ := h
  exact ⟨a, b, s _ _ z⟩
theorem Fr.then {ds : List Addr} {H0 H1 H2 : Hp} (a : Fr ds H0 H1) (s : Same H1 H2) : Fr ds H0 H2 := a.trans (Fr.of s ds)
theorem Dice.keep {H H' : Hp} {d : Addr} {es : List Addr} (h : Dice H d) (f : Fr es H H') (n : d ∉ es) : Dice H' d := by
  obtain ⟨a, b, z⟩ := h
  exact ⟨a, b, f.keep _ _ n z⟩
/-- a new part -/
theorem make_part {K : PySem.W.Frag} {H : Hp} {v : V} {bs : List Bar} {Q : Addr → Hp → Prop} (hv : v = .non ∧ bs = [] ∨ ∃ a, v = .ref a ∧ Dp K H (.ref a) (.list (barsD bs))) (ok : ∀ b ∈ bs, BarOk b) (hl : bs.length ≤ 40)
    (k : ∀ H' p q, Same H H' → H p = none → H q = none → p ≠ q → PartX K H' p q bs [] → Q p H') :
    ∀ x dx, H x = none → H dx = none → dx ≠ x → sp_Part_init K [.ref x, v] (upd (upd H dx (.own x)) x (.ins (pC K) dx [])) (fun v H2 => v = .non ∧ Q x H2) E0 := by
  intro x dx nx nd ne
  have s : Same H (upd (upd H dx (.own x)) x (.ins (pC K) dx [])) := fun b o e => by
    rw [upd_ne (ne_of_none e nx), upd_ne (ne_of_none e nd)]
    exact e
  refine ⟨x, dx, v, bs, rfl, upd_same, ?_, ok, hl, fun H' q f nq hp => ?_⟩
  · rcases hv with h | ⟨a, e, h⟩
    · exact .inl h
    · exact .inr ⟨a, e, dp_same s h⟩
  · have nqx : x ≠ q := fun e => by
      rw [← e, upd_same] at nq
      cases nq
    have nq0 : H q = none := s.free nq
    exact ⟨rfl, k H' x q (fun b o e => f.keep b o (by simp [ne_of_none e nx]) (s b o e)) nx nq0 nqx hp⟩
/-- a bar appended -/
theorem row_app {K : PySem.W.Frag} {H : Hp} {B : Addr} {bs : List Bar} {v : V} {b : Bar} {vs : List V} (h1 : H B = some (.lst vs)) (h2 : DpAll K H vs (barsD bs)) (hv : Dp K H v (barD b)) : RowAt K (upd H B (.lst (vs ++ [v]))) B (bs ++ [b]) ∧ Fr [B] H (upd H B (.lst (vs ++ [v]))) := by
  have f : Fr [B] H (upd H B (.lst (vs ++ [v]))) := Fr.upd h1 trivial (by simp)
  refine ⟨⟨_, upd_same, ?_⟩, f⟩
  show DpAll K _ _ ((bs ++ [b]).map barD)
  rw [List.map_append]
  exact dpa_app (f.dpa h2 (isTs_bars bs)) (.cons (f.dp hv (isT_bar b)) .nil)
theorem new_ne {H : Hp} {d L : Addr} (hD : Dice H d) (nL : H L = none) : L ≠ d := fun e => by
  obtain ⟨i, j, q⟩ := hD
  rw [e, q] at nL
  cases nL
/-- what follows a statement, asked once -/
theorem seq_cont {t u : TS} {D : Ends} {σ : L2.St} {H : Hp} (C : L2.St → Hp → Prop) (h1 : (∀ σ' H', C σ' H' → u D σ' H') → t { D with nx := u D } σ H) (h2 : ∀ σ' H', C σ' H' → u D σ' H') : tSeq t u D σ H := h1 h2
theorem Fr.freeD {ds : List Addr} {H H' : Hp} {l : Addr} (f : Fr ds H H') (n : l ∉ ds) (h : H' l = none) : H l = none := by
  cases e : H l with
  | none => rfl
  | some o =>
    rw [f.keep _ _ n e] at h
    cases h
theorem ixN_nat {n i : Nat} (h : i < n) : ixN n (i : Int) = some i := by
  unfold ixN
  rw [if_pos (by omega), if_pos (by omega), Int.toNat_natCast]
theorem sc__law_alone : FnScope ["e", "own", "some", "at"] ["e", "own"] (defScope s__law_alone) := ⟨rfl, rfl, rfl, by decide +kernel, rfl, by decide +kernel, by decide +kernel⟩
section
variable {K : PySem.W.Frag} {mg : Str → Option Value}
theorem b__law_alone (T : Txt K mg) : Binds K (fdOf K ("_law_alone", none)) ["e", "own"] [] := T._law_alone.bindsN fun _ _ _ _ _ _ us hl => match us, hl with | [_, _], _ => rfl
end
abbrev exFl (n : Str) : List Bool := exNames.map fun m => decide (n = m)
theorem dpa_bls {K : PySem.W.Frag} {H : Hp} : ∀ bs : List Bool, DpAll K H (bs.map V.bl) (bs.map PyData.bool)
  | [] => .nil
  | b :: bs => .cons (.bl b) (dpa_bls bs)
theorem shp_bls (bs : List Bool) : Shp 1 (.list (bs.map PyData.bool)) := shp_list (shpA_all fun d hd => by
  obtain ⟨b, _, rfl⟩ := List.mem_map.mp hd
  exact shp_bool b)
theorem ExV.same {K : PySem.W.Frag} {H H' : Hp} {n : Str} {a : Addr} {d : Option Addr} (e : ExV K H n a d) (s : Same H H') : ExV K H' n a d := ⟨s _ _ e.at', fun dd h => by
  obtain ⟨fs, q⟩ := e.dict dd h
  exact ⟨fs, s _ _ q⟩⟩
theorem exIx9 : ∀ n ∈ exNames, ∃ j, j < 9 ∧ exNames[j]? = some n ∧ exFl n = (List.range 9).map fun m => decide (m = j) := by decide +kernel
theorem exNames_nd : exNames.Nodup := by decide +kernel
theorem exNames_inj {n : Str} {i j : Nat} (hi : exNames[i]? = some n) (hj : exNames[j]? = some n) : i = j := by
  obtain ⟨h1, e1⟩ := List.getElem?_eq_some_iff.mp hi
  exact (List.getElem?_inj h1 exNames_nd).mp (hi.trans hj.symm)
def sp__law_alone (K : PySem.W.Frag) : Sp := fun vs H Q _ => ∃ (a : Addr) (d : Option Addr) (n : Str) (j : Nat), vs = [.ref a, .int (j : Int)] ∧ n ∈ exNames ∧ exNames[j]? = some n ∧ ExV K H n a d ∧ ∀ H', Same H H' → Q (.bl true) H'
theorem ok__law_alone {P : Program} {w : World} {K : PySem.W.Frag} {mg : Str → Option Value} {base : Heap} (T : Txt K mg) : OkF P w K mg base CX0 2 ("_law_alone", none) ["e", "own"] (sp__law_alone K) := by
  refine okN T._law_alone sc__law_alone (fun vs H Q E h => ?_) (fun cdv A outer s H vs Q E hr h => ?_)
  · obtain ⟨a, d, n, j, rfl, _⟩ := h
    rfl
  · obtain ⟨a, d, n, j, rfl, hn, hj, hx, z⟩ := h
    have ek := exAll_ok T.k_exc n hn
    have kit : ∀ m ∈ exNames, PySem.W.kitOne K (.ref (He.ga K n)) (.ref (He.ga K m)) = some (decide (n = m)) := ek.kit
    refine ⟨_, (pss_cons (ps_set (i := 2) sc__law_alone.nd rfl (by first | exact Or.inl rfl | exact Or.inr rfl) (pe_lst (pa_cons (pe_callB (call_isV T.k_get T.k_takes) (by rfl) T.b_isinstance (by decide +kernel) (pa_cons (pv 0) (pa_cons (pe_glob (v := .ref (He.ga K "BadBar")) (by rfl) T.g_BadBar rfl) pa_nil))) (pa_cons (pe_callB (call_isV T.k_get T.k_takes) (by rfl) T.b_isinstance (by decide +kernel) (pa_cons (pv 0) (pa_cons (pe_glob (v := .ref (He.ga K "BadPlace")) (by rfl) T.g_BadPlace rfl) pa_nil))) (pa_cons (pe_callB (call_isV T.k_get T.k_takes) (by rfl) T.b_isinstance (by decide +kernel) (pa_cons (pv 0) (pa_cons (pe_glob (v := .ref (He.ga K "BadDesk")) (by rfl) T.g_BadDesk rfl) pa_nil))) pa_nil)))))
      (pss_cons (ps_set (i := 2) sc__law_alone.nd rfl (by first | exact Or.inl rfl | exact Or.inr rfl) (pe_op op_cat (pv 2) (pe_lst (pa_cons (pe_callB (call_isV T.k_get T.k_takes) (by rfl) T.b_isinstance (by decide +kernel) (pa_cons (pv 0) (pa_cons (pe_glob (v := .ref (He.ga K "BadLayout")) (by rfl) T.g_BadLayout rfl) pa_nil))) pa_nil))))
      (pss_cons (ps_set (i := 2) sc__law_alone.nd rfl (by first | exact Or.inl rfl | exact Or.inr rfl) (pe_op op_cat (pv 2) (pe_lst (pa_cons (pe_callB (call_isV T.k_get T.k_takes) (by rfl) T.b_isinstance (by decide +kernel) (pa_cons (pv 0) (pa_cons (pe_glob (v := .ref (He.ga K "BadRepeats")) (by rfl) T.g_BadRepeats rfl) pa_nil))) (pa_cons (pe_callB (call_isV T.k_get T.k_takes) (by rfl) T.b_isinstance (by decide +kernel) (pa_cons (pv 0) (pa_cons (pe_glob (v := .ref (He.ga K "Unlike")) (by rfl) T.g_Unlike rfl) pa_nil))) (pa_cons (pe_callB (call_isV T.k_get T.k_takes) (by rfl) T.b_isinstance (by decide +kernel) (pa_cons (pv 0) (pa_cons (pe_glob (v := .ref (He.ga K "Full")) (by rfl) T.g_Full rfl) pa_nil))) pa_nil))))))
      (pss_cons (ps_set (i := 2) sc__law_alone.nd rfl (by first | exact Or.inl rfl | exact Or.inr rfl) (pe_op op_cat (pv 2) (pe_lst (pa_cons (pe_callB (call_isV T.k_get T.k_takes) (by rfl) T.b_isinstance (by decide +kernel) (pa_cons (pv 0) (pa_cons (pe_glob (v := .ref (He.ga K "Nothing")) (by rfl) T.g_Nothing rfl) pa_nil))) pa_nil))))
      (pss_cons (ps_expr (pe_bm PySem.F.plainAttrs_list PySem.F.slot_list_append PySem.F.type_list_append mt_append (pv 2) (pa_cons (pe_callB (call_isV T.k_get T.k_takes) (by rfl) T.b_isinstance (by decide +kernel) (pa_cons (pv 0) (pa_cons (pe_glob (v := .ref (He.ga K "BadText")) (by rfl) T.g_BadText rfl) pa_nil))) pa_nil)))
      (pss_one (ps_ret (pe_and (pe_callB (call_isV T.k_get T.k_takes) (by rfl) T.b_isinstance (by decide +kernel) (pa_cons (pv 0) (pa_cons (pe_bltn (v := .ty "ValueError") (by rfl) T.b_ValueError (by decide +kernel) rfl) pa_nil))) (pe_one (pe_cmpR (op_eqD hr.units) (pv 2) (pe_lc (own := [("at", 3)]) (g := (gName 3)) (tt := tYes)  (by rfl) sc__law_alone.nd (pi_range1 (by rfl) T.b_range (pa_cons pe_int pa_nil)) (blkOk_by (own := [("at", 3)]) (N := ["e", "own", "some", "at"]) (sc := defScope s__law_alone) (by decide +kernel)) (fun _ _ _ _ _ => (pg_name (i := 3) sc__law_alone.nd rfl (by first | exact Or.inl rfl | exact Or.inr rfl))) (fun _ _ _ _ _ => pts_nil) (fun _ _ _ _ _ => (pe_cmpR op_eq (pv 3) (pv 1) (nomark _)))) (nomark _))))))))))), ?_⟩
    with_reducible refine seq_cont (fun σ' G => ∃ l, σ' = [some (.ref a), some (.int (j : Int)), some (.ref l), none] ∧ Same H G ∧ G l = some (.lst [.bl (decide (n = "BadBar")), .bl (decide (n = "BadPlace")), .bl (decide (n = "BadDesk"))]) ∧ H l = none) (fun cont => ?_) ?_
    · exact ⟨_, rfl, n, a, d, _, _, _, rfl, ek, hx, .own _, kit "BadBar" (by decide +kernel), _, rfl, n, a, d, _, _, _, rfl, ek, hx, .own _, kit "BadPlace" (by decide +kernel), _, rfl, n, a, d, _, _, _, rfl, ek, hx, .own _, kit "BadDesk" (by decide +kernel), by show (3 : Nat) ≤ sizeLine; decide, fun l nl => cont _ _ ⟨l, rfl, same_upd nl, upd_same, nl⟩⟩
    rintro σ' G0 ⟨l0, rfl, s0, h0, n0⟩
    with_reducible refine seq_cont (fun σ' G => ∃ l, σ' = [some (.ref a), some (.int (j : Int)), some (.ref l), none] ∧ Same H G ∧ G l = some (.lst [.bl (decide (n = "BadBar")), .bl (decide (n = "BadPlace")), .bl (decide (n = "BadDesk")), .bl (decide (n = "BadLayout"))]) ∧ H l = none) (fun cont => ?_) ?_
    · refine ⟨_, rfl, _, rfl, n, a, d, _, _, _, rfl, ek, (hx.same s0), .own _, kit "BadLayout" (by decide +kernel), by show (1 : Nat) ≤ sizeLine; decide, fun m nm => ?_⟩
      have sm := same_upd (o := .lst [.bl (decide (n = "BadLayout"))]) nm
      exact ⟨_, _, _, _, rfl, rfl, sm _ _ h0, upd_same, by show (4 : Nat) ≤ sizeLine; decide, fun l nl => cont _ _ ⟨l, rfl, (s0.trans sm).trans (same_upd nl), upd_same, (s0.trans sm).free nl⟩⟩
    rintro σ' G1 ⟨l1, rfl, s1, h1, n1⟩
    with_reducible refine seq_cont (fun σ' G => ∃ l, σ' = [some (.ref a), some (.int (j : Int)), some (.ref l), none] ∧ Same H G ∧ G l = some (.lst [.bl (decide (n = "BadBar")), .bl (decide (n = "BadPlace")), .bl (decide (n = "BadDesk")), .bl (decide (n = "BadLayout")), .bl (decide (n = "BadRepeats")), .bl (decide (n = "Unlike")), .bl (decide (n = "Full"))]) ∧ H l = none) (fun cont => ?_) ?_
    · refine ⟨_, rfl, _, rfl, n, a, d, _, _, _, rfl, ek, (hx.same s1), .own _, kit "BadRepeats" (by decide +kernel), _, rfl, n, a, d, _, _, _, rfl, ek, (hx.same s1), .own _, kit "Unlike" (by decide +kernel), _, rfl, n, a, d, _, _, _, rfl, ek, (hx.same s1), .own _, kit "Full" (by decide +kernel), by show (3 : Nat) ≤ sizeLine; decide, fun m nm => ?_⟩
      have sm := same_upd (o := .lst [.bl (decide (n = "BadRepeats")), .bl (decide (n = "Unlike")), .bl (decide (n = "Full"))]) nm
      exact ⟨_, _, _, _, rfl, rfl, sm _ _ h1, upd_same, by show (7 : Nat) ≤ sizeLine; decide, fun l nl => cont _ _ ⟨l, rfl, (s1.trans sm).trans (same_upd nl), upd_same, (s1.trans sm).free nl⟩⟩
    rintro σ' G2 ⟨l2, rfl, s2, h2, n2⟩
    with_reducible refine seq_cont (fun σ' G => ∃ l, σ' = [some (.ref a), some (.int (j : Int)), some (.ref l), none] ∧ Same H G ∧ G l = some (.lst [.bl (decide (n = "BadBar")), .bl (decide (n = "BadPlace")), .bl (decide (n = "BadDesk")), .bl (decide (n = "BadLayout")), .bl (decide (n = "BadRepeats")), .bl (decide (n = "Unlike")), .bl (decide (n = "Full")), .bl (decide (n = "Nothing"))]) ∧ H l = none) (fun cont => ?_) ?_
    · refine ⟨_, rfl, _, rfl, n, a, d, _, _, _, rfl, ek, (hx.same s2), .own _, kit "Nothing" (by decide +kernel), by show (1 : Nat) ≤ sizeLine; decide, fun m nm => ?_⟩
      have sm := same_upd (o := .lst [.bl (decide (n = "Nothing"))]) nm
      exact ⟨_, _, _, _, rfl, rfl, sm _ _ h2, upd_same, by show (8 : Nat) ≤ sizeLine; decide, fun l nl => cont _ _ ⟨l, rfl, (s2.trans sm).trans (same_upd nl), upd_same, (s2.trans sm).free nl⟩⟩
    rintro σ' G3 ⟨l3, rfl, s3, h3, n3⟩
    with_reducible refine seq_cont (fun σ' G => σ' = [some (.ref a), some (.int (j : Int)), some (.ref l3), none] ∧ Same H G ∧ G l3 = some (.lst ((exFl n).map V.bl))) (fun cont => ?_) ?_
    · exact ⟨_, rfl, .inl ⟨rfl, _, .of h3⟩, _, rfl, n, a, d, _, _, _, rfl, ek, (hx.same s3), .own _, kit "BadText" (by decide +kernel), l3, _, _, rfl, rfl, h3, by show (8 : Nat) < sizeLine; decide, cont _ _ ⟨rfl, same_updR s3 n3, upd_same⟩⟩
    rintro σ' G4 ⟨rfl, s4, h4⟩
    obtain ⟨j', hj9, hj', hfl⟩ := exIx9 n hn
    have ej : j' = j := exNames_inj hj' hj
    subst ej
    refine ⟨_, rfl, n, a, d, _, _, _, rfl, ek, hx.same s4, .ty _, ek.val, _, rfl, iteT ⟨_, rfl, 9, rfl, by decide, by decide, fun D nD => lc_range (lo := 0) (n := 9) (fun i H' => Same G4 H' ∧ H' D = some (.lst (((List.range i).map fun m => decide (m = j')).map V.bl))) ⟨same_upd nD, by rw [upd_same]; rfl⟩ ?_ ?_⟩⟩
    · rintro i H' hi ⟨s', hD⟩
      refine ⟨rfl, _, rfl, _, rfl, rfl, _, hD, ?_, same_updR s' nD, ?_⟩
      · rw [List.length_map, List.length_map, List.length_range]
        exact small1000 (by omega)
      · rw [upd_same, List.range_succ, List.map_append, List.map_append]
        have e : (decide (V.int (0 + (i : Int)) = V.int (j' : Int))) = decide (i = j') := by
          rw [Int.zero_add]
          exact decide_eq_decide.mpr ⟨fun h => by have := V.int.inj h; omega, fun h => by rw [h]⟩
        rw [e]
        rfl
    · rintro H5 ⟨s5, hD⟩
      have hl5 := s5 _ _ h4
      rw [← hfl] at hD
      refine ⟨_, _, .lst (.of hl5) (dpa_bls _), .lst (.of hD) (dpa_bls _), (shp_bls _).ok (by decide), (shp_bls _).ok (by decide), ?_⟩
      rw [SeqAt.eqv_refl _ (shp_bls _).1]
      exact z _ (s4.trans s5)
def sp_lawT (K : PySem.W.Frag) (x : Str) : Sp := fun vs H Q _ => ∃ (a : Addr) (ns : List Int), vs = [.ref a] ∧ SqL K H a (ns.map V.int) ∧ ns.length ≤ 63 ∧ LamX.Tabs (TabL K x) H ∧ ∀ H', Q (.bl true) H'
section
variable {K : PySem.W.Frag} {H H' : Hp}
theorem Dice.ext {d : Addr} (h : Dice H d) (e : LamX.ExtN H H') : Dice H' d := by
  obtain ⟨i, j, q⟩ := h
  exact ⟨i, j, e _ _ q fun ps z => by cases z⟩
theorem Rnd.ext {R : Addr} {ds : List Addr} (h : Rnd H R ds) (e : LamX.ExtN H H') : Rnd H' R ds := ⟨e _ _ h.1 (fun ps z => by cases z), fun d hd => ⟨(h.2 d hd).1.ext e, (h.2 d hd).2⟩⟩
theorem RowAt.ext {r : Addr} {bs : List Bar} (h : RowAt K H r bs) (e : LamX.ExtN H H') : RowAt K H' r bs := by
  obtain ⟨vs, q, da⟩ := h
  exact ⟨vs, e _ _ q (fun ps z => by cases z), dpa_ext e da⟩
theorem PartX.ext {p q : Addr} {bs : List Bar} {past : List (List Bar)} (h : PartX K H p q bs past) (e : LamX.ExtN H H') : PartX K H' p q bs past := by
  obtain ⟨dx, r, ws, h1, n, h2, h3, h4⟩ := h
  exact ⟨dx, r, ws, e _ _ h1 (fun ps z => by cases z), n, h2.ext e, e _ _ h3 (fun ps z => by cases z), h4.imp fun r bs _ z => z.ext e⟩
theorem Tabs.dice {Tb : List (Addr × Str)} {d : Addr} (t : LamX.Tabs Tb H) (f : Fr [d] H H') (hd : Dice H d) : LamX.Tabs Tb H' := Tabs.fr t f fun x hx => by
  cases List.mem_singleton.mp hx
  obtain ⟨i, j, q⟩ := hd
  exact ⟨_, q, (fun ps z => by cases z), (fun φ z => by cases z)⟩
end
/-- all but a die and tables is as it was -/
structure FrN (d : Addr) (H H' : Hp) : Prop where
  keep : ∀ b o, b ≠ d → H b = some o → (∀ ps, o ≠ .tbl ps) → H' b = some o
  tu : ∀ b xs, H b = some (.tup xs) → H' b = some (.tup xs)
  fz : ∀ b o u, H b = some (.frz o u) → H' b = some (.frz o u)
section
variable {K : PySem.W.Frag} {H H' : Hp} {d : Addr}
theorem FrN.sqt {a : Addr} {xs : List V} (e : FrN d H H') (h : SqT K H a xs) : SqT K H' a xs := by
  rcases h with (h | ⟨o, h⟩) | h
  · exact .inl (.inl (e.tu _ _ h))
  · exact .inl (.inr ⟨o, e.fz _ _ _ h⟩)
  · exact .inr h
theorem RowAt.frN {r : Addr} {bs : List Bar} (h : RowAt K H r bs) (s : FrN d H H') (n : r ≠ d) : RowAt K H' r bs := by
  obtain ⟨vs, e, a⟩ := h
  exact ⟨vs, s.keep _ _ n e (fun ps z => by cases z), dpa_tu (fun _ _ z => s.sqt z) a (isTs_bars bs)⟩
theorem PartX.frN {p q : Addr} {bs : List Bar} {past : List (List Bar)} (h : PartX K H p q bs past) (hd : Dice H d) (s : FrN d H H') : PartX K H' p q bs past := by
  obtain ⟨dx, r, ws, h1, n, h2, h3, h4⟩ := h
  obtain ⟨i, j, e2⟩ := id hd
  have np : p ≠ d := ne_of h1 e2 (by intro z; cases z)
  have nq : q ≠ d := by
    intro z
    subst z
    rw [h3] at e2
    injection e2 with e3
    injection e3 with e4
    subst e4
    cases h4 with
    | cons a _ =>
      obtain ⟨r, e, _⟩ := a
      cases e
  exact ⟨dx, r, ws, s.keep _ _ np h1 (fun ps z => by cases z), n, h2.frN s (h2.ne_dice hd), s.keep _ _ nq h3 (fun ps z => by cases z), h4.imp fun r bs _ z => z.frN s (z.ne_dice hd)⟩
theorem Rnd.frN {R : Addr} {ds : List Addr} (h : Rnd H R ds) (s : FrN d H H') (hd : d ∈ ds) (hD : Dice H' d) : Rnd H' R ds := by
  obtain ⟨h1, h2⟩ := h
  refine ⟨s.keep _ _ (h2 d hd).2.symm h1 (fun ps z => by cases z), fun x hx => ⟨?_, (h2 x hx).2⟩⟩
  by_cases e : x = d
  · rw [e]
    exact hD
  · obtain ⟨⟨a, b, z⟩, _⟩ := h2 x hx
    exact ⟨a, b, s.keep _ _ e z (fun ps z => by cases z)⟩
end
section
variable {K : PySem.W.Frag} {H H1 H2 : Hp} {d : Addr}
theorem FrN.refl (d : Addr) (H : Hp) : FrN d H H := ⟨fun _ _ _ h _ => h, fun _ _ h => h, fun _ _ _ h => h⟩
theorem FrN.ext (f : FrN d H H1) (e : LamX.ExtN H1 H2) : FrN d H H2 := ⟨fun b o n h t => e b o (f.keep b o n h t) t, fun b xs h => e _ _ (f.tu b xs h) (fun ps z => by cases z), fun b o u h => e _ _ (f.fz b o u h) (fun ps z => by cases z)⟩
theorem FrN.then (f : FrN d H H1) (e : Same H1 H2) : FrN d H H2 := f.ext (.of e)
theorem FrN.fr (f : FrN d H H1) (e : Fr [d] H1 H2) : FrN d H H2 := ⟨fun b o n h t => e.keep b o (by simpa using n) (f.keep b o n h t), fun b xs h => e.tu _ _ (f.tu b xs h), fun b o u h => e.fz _ _ _ (f.fz b o u h)⟩
/-- nothing but a table, perhaps, stands there -/
def NewT (H : Hp) (l : Addr) : Prop := ∀ o, H l = some o → ¬ ∀ ps, o ≠ .tbl ps
theorem newT {l : Addr} (e : LamX.ExtN H H1) (n : H1 l = none) : NewT H l := fun o q no => by
  rw [e _ _ q no] at n
  cases n
theorem FrN.updM {M : Addr} {xs : List V} {o : HO} (f : FrN d H H1) (nM : NewT H M) (hM : H1 M = some (.lst xs)) : FrN d H (upd H1 M o) := by
  have g : Fr [M] H1 (upd H1 M o) := Fr.upd hM trivial (by simp)
  exact ⟨fun b u n h t => g.keep b u (by simpa using (fun z : b = M => nM u (by rw [← z]; exact h) t)) (f.keep b u n h t), fun b xs h => g.tu _ _ (f.tu b xs h), fun b o u h => g.fz _ _ _ (f.fz b o u h)⟩
end
/-! ### the refusals that were met, in a list -/
/-- the i-th of them -/
def Mt (K : PySem.W.Frag) (H : Hp) (i : Nat) (a : Addr) : Prop := ∃ n d, exNames[i]? = some n ∧ ExV K H n a d ∧ (i = 3 → ∃ dd, d = some dd ∧ H dd = some (.xd [("page", .int 1)])) ∧ (i = 5 → ∃ dd, d = some dd ∧ H dd = some (.xd [("bar", .int 1)]))
def MS (K : PySem.W.Frag) (H : Hp) (M : Addr) (as : List Addr) : Prop := H M = some (.lst (as.map V.ref)) ∧ ∀ i a, as[i]? = some a → Mt K H i a
section
variable {K : PySem.W.Frag} {H H' : Hp}
/-- exceptions and their dicts stay -/
def KeepX (H H' : Hp) : Prop := (∀ b φ, H b = some (.ext φ) → H' b = some (.ext φ)) ∧ ∀ b fs, H b = some (.xd fs) → H' b = some (.xd fs)
theorem Mt.imp {i : Nat} {a : Addr} (h : Mt K H i a) (k : KeepX H H') : Mt K H' i a := by
  obtain ⟨n, d, h1, ⟨h2, h3⟩, h4, h5⟩ := h
  refine ⟨n, d, h1, ⟨k.1 _ _ h2, fun dd e => ?_⟩, fun e => ?_, fun e => ?_⟩
  · obtain ⟨fs, q⟩ := h3 dd e
    exact ⟨fs, k.2 _ _ q⟩
  · obtain ⟨dd, q1, q2⟩ := h4 e
    exact ⟨dd, q1, k.2 _ _ q2⟩
  · obtain ⟨dd, q1, q2⟩ := h5 e
    exact ⟨dd, q1, k.2 _ _ q2⟩
theorem keepX_ext (e : LamX.ExtN H H') : KeepX H H' := ⟨fun b φ h => e _ _ h (fun ps z => by cases z), fun b fs h => e _ _ h (fun ps z => by cases z)⟩
theorem keepX_lst {M : Addr} {xs : List V} {o : HO} (h : H M = some (.lst xs)) : KeepX H (upd H M o) := ⟨fun b φ e => by rw [upd_ne (ne_of e h (by intro z; cases z))]; exact e, fun b fs e => by rw [upd_ne (ne_of e h (by intro z; cases z))]; exact e⟩
theorem MS.ext {M : Addr} {as : List Addr} (h : MS K H M as) (e : LamX.ExtN H H') : MS K H' M as := ⟨e _ _ h.1 (fun ps z => by cases z), fun i a q => (h.2 i a q).imp (keepX_ext e)⟩
theorem MS.fr {M d : Addr} {as : List Addr} (h : MS K H M as) (hd : Dice H d) (f : Fr [d] H H') (ha : as ≠ []) : MS K H' M as := by
  obtain ⟨i, j, hij⟩ := hd
  have nM : M ≠ d := fun z => by
    have q := h.1
    rw [z, hij] at q
    cases as with
    | nil => exact ha rfl
    | cons x r => cases q
  refine ⟨f.keep _ _ (by simpa using nM) h.1, fun i a q => (h.2 i a q).imp ⟨fun b φ e => f.keep _ _ (by simpa using ne_of e hij (by intro z; cases z)) e, fun b fs e => f.keep _ _ (by simpa using ne_of e hij (by intro z; cases z)) e⟩⟩
/-- one more -/
theorem met_push {Tb : List (Addr × Str)} {G0 F : Hp} {M a d : Addr} {as : List Addr} {n : Str} {dd : Option Addr} (f : FrN d G0 F) (nM : NewT G0 M) (ms : MS K F M as) (hD : Dice F d) (hD0 : Dice G0 d) (t : LamX.Tabs Tb F) (na : F a = none) (hj : exNames[as.length]? = some n)
    (h1 : ∀ x, dd = some x → ∃ fs, F x = some (.xd fs)) (h2 : as.length = 3 → ∃ x, dd = some x ∧ F x = some (.xd [("page", .int 1)])) (h3 : as.length = 5 → ∃ x, dd = some x ∧ F x = some (.xd [("bar", .int 1)])) :
    (upd F a (exv a (He.ga K n) dd)) M = some (.lst (as.map V.ref)) ∧ FrN d G0 (upd (upd F a (exv a (He.ga K n) dd)) M (.lst (as.map V.ref ++ [.ref a]))) ∧ Dice (upd (upd F a (exv a (He.ga K n) dd)) M (.lst (as.map V.ref ++ [.ref a]))) d ∧
      LamX.Tabs Tb (upd (upd F a (exv a (He.ga K n) dd)) M (.lst (as.map V.ref ++ [.ref a]))) ∧ MS K (upd (upd F a (exv a (He.ga K n) dd)) M (.lst (as.map V.ref ++ [.ref a]))) M (as ++ [a]) := by
  have s := same_upd (o := exv a (He.ga K n) dd) na
  have hM := s _ _ ms.1
  have nMd : d ≠ M := by
    obtain ⟨i, j, hij⟩ := hD0
    exact fun z => nM _ (by rw [← z]; exact hij) (fun ps q => by cases q)
  have g : Fr [M] (upd F a (exv a (He.ga K n) dd)) (upd (upd F a (exv a (He.ga K n) dd)) M (.lst (as.map V.ref ++ [.ref a]))) := Fr.upd hM trivial (by simp)
  refine ⟨hM, (f.then s).updM nM hM, (hD.same s).keep g (by simpa using nMd), Tabs.fr (Tabs.same t s) g (fun x hx => ?_), ⟨by rw [upd_same, List.map_append]; rfl, fun i b q => ?_⟩⟩
  · cases List.mem_singleton.mp hx
    exact ⟨_, hM, (fun ps z => by cases z), (fun φ z => by cases z)⟩
  · have kx : KeepX F (upd (upd F a (exv a (He.ga K n) dd)) M (.lst (as.map V.ref ++ [.ref a]))) := by
      have k1 := keepX_ext (LamX.ExtN.of s)
      have k2 := keepX_lst (o := .lst (as.map V.ref ++ [.ref a])) hM
      exact ⟨fun b φ e => k2.1 _ _ (k1.1 _ _ e), fun b fs e => k2.2 _ _ (k1.2 _ _ e)⟩
    by_cases hi : i < as.length
    · rw [List.getElem?_append_left hi] at q
      exact (ms.2 i b q).imp kx
    · rw [List.getElem?_append_right (by omega)] at q
      have e0 : i - as.length = 0 := by
        cases e : i - as.length with
        | zero => rfl
        | succ m => rw [e] at q; simp at q
      have ei : i = as.length := by omega
      rw [e0] at q
      cases q
      subst ei
      refine ⟨n, dd, hj, ⟨?_, fun x e => ?_⟩, fun e => ?_, fun e => ?_⟩
      · rw [upd_ne (ne_of upd_same hM (by intro z; cases z)), upd_same]
      · obtain ⟨fs, q⟩ := h1 x e
        exact ⟨fs, kx.2 _ _ q⟩
      · obtain ⟨x, q1, q2⟩ := h2 e
        exact ⟨x, q1, kx.2 _ _ q2⟩
      · obtain ⟨x, q1, q2⟩ := h3 e
        exact ⟨x, q1, kx.2 _ _ q2⟩
end
theorem sc__law_bar : FnScope ["dice", "width"] ["dice"] (defScope s__law_bar) := ⟨rfl, rfl, rfl, by decide +kernel, rfl, by decide +kernel, by decide +kernel⟩
section
variable {K : PySem.W.Frag} {mg : Str → Option Value}
theorem b__law_bar (T : Txt K mg) : Binds K (fdOf K ("_law_bar", none)) ["dice"] [] := T._law_bar.bindsN fun _ _ _ _ _ _ us hl => match us, hl with | [_], _ => rfl
end
def sp__law_bar (K : PySem.W.Frag) : Sp := fun vs H Q _ => ∃ (d : Addr), vs = [.ref d] ∧ Dice H d ∧ ∀ v H' b, Fr [d] H H' → Dice H' d → Dp K H' v (barD b) → BarOk b → Q v H'
theorem ok__law_bar {P : Program} {w : World} {K : PySem.W.Frag} {mg : Str → Option Value} {base : Heap} (T : Txt K mg) : OkF P w K mg base CX0 3 ("_law_bar", none) ["dice"] (sp__law_bar K) := by
  refine okN T._law_bar sc__law_bar (fun vs H Q E h => ?_) (fun cdv A outer s H vs Q E hr h => ?_)
  · obtain ⟨d, rfl, _⟩ := h
    rfl
  · obtain ⟨d, rfl, hD, z⟩ := h
    refine ⟨_, (pss_cons (ps_set (i := 1) sc__law_bar.nd rfl (by first | exact Or.inl rfl | exact Or.inr rfl) (pe_op op_add pe_int (pe_ix ix_list (pe_lst (pa_cons (pe_call (ok__law_roll T) (hr.mono (by decide)) (by rfl) T.g__law_roll T._law_roll.kp (b__law_roll T) .nil pass0 (pa_cons (pv 0) (pa_cons pe_int pa_nil))) (pa_cons (pe_call (ok__law_roll T) (hr.mono (by decide)) (by rfl) T.g__law_roll T._law_roll.kp (b__law_roll T) .nil pass0 (pa_cons (pv 0) (pa_cons pe_int pa_nil))) pa_nil))) (pe_op op_fdiv (pe_call (ok__law_roll T) (hr.mono (by decide)) (by rfl) T.g__law_roll T._law_roll.kp (b__law_roll T) .nil pass0 (pa_cons (pv 0) (pa_cons pe_int pa_nil))) pe_int) (fun _ _ => rfl))))
      (pss_one (ps_ret (pe_tup (pa_cons (pv 1) (pa_cons (pe_op op_add pe_int (pe_call (ok__law_roll T) (hr.mono (by decide)) (by rfl) T.g__law_roll T._law_roll.kp (b__law_roll T) .nil pass0 (pa_cons (pv 0) (pa_cons pe_int pa_nil)))) (pa_cons (pe_cmpR op_lt (pe_call (ok__law_roll T) (hr.mono (by decide)) (by rfl) T.g__law_roll T._law_roll.kp (b__law_roll T) .nil pass0 (pa_cons (pv 0) (pa_cons pe_int pa_nil))) pe_int (nomark _)) pa_nil))))))), ?_⟩
    refine ⟨_, rfl, d, 8, rfl, hD, by decide, by decide, fun H1 r1 f1 hD1 a1 b1 => ?_⟩
    refine ⟨_, rfl, d, 40, rfl, hD1, by decide, by decide, fun H2 r2 f2 hD2 a2 b2 => ⟨by show (2 : Nat) ≤ sizeLine; decide, fun L nL => ?_⟩⟩
    have sL := same_upd (o := .lst [.int r1, .int r2]) nL
    have ndL : L ≠ d := fun e => by
      obtain ⟨i, j, q⟩ := hD2
      rw [e, q] at nL
      cases nL
    refine ⟨_, rfl, d, 4, rfl, hD2.same sL, by decide, by decide, fun H3 r3 f3 hD3 a3 b3 => ?_⟩
    have hL3 := f3.keep L _ (by simp [ndL]) upd_same
    have key : ∀ width : Int, 1 ≤ width → width ≤ 40 → (tAsg (tC (.int width)) (gName 1)) { nx := (tRet (tTup (tCons (tVar 1) (tCons (tOp (rI0 fun i j => .int (i + j)) (tC (.int 1)) (tCall sp__law_roll [] E0 (tCons (tVar 0) (tCons (tC (.int 16)) tNil)))) (tCons (tOp (rI0 fun i j => .bl (decide (i < j))) (tCall sp__law_roll [] E0 (tCons (tVar 0) (tCons (tC (.int 5)) tNil))) (tC (.int 2))) tNil))))) { nx := fun _ H' => Q .non H', rt := Q }, rt := Q } [some (.ref d), none] H3 := by
      intro width w1 w2
      refine ⟨_, rfl, _, rfl, d, 16, rfl, hD3, by decide, by decide, fun H4 r4 f4 hD4 a4 b4 => ⟨_, _, rfl, rfl, ?_⟩⟩
      refine ⟨_, rfl, d, 5, rfl, hD4, by decide, by decide, fun H5 r5 f5 hD5 a5 b5 => ⟨_, _, rfl, rfl, by show (3 : Nat) ≤ sizeLine; decide, fun t nt => ?_⟩⟩
      have st := same_upd (o := .tup [.int width, .int (1 + r4), .bl (decide (r5 < 2))]) nt
      exact z _ _ ⟨width, 1 + r4, decide (r5 < 2)⟩ ((((((f1.trans f2).then sL).trans f3).trans f4).trans f5).then st) (hD5.same st) (dp_bar_of (.of upd_same)) ⟨w1, w2, by show 1 ≤ 1 + r4; omega, by show 1 + r4 ≤ 16; omega⟩
    refine ⟨_, _, rfl, rfl, ⟨by decide, by decide⟩, ?_⟩
    by_cases h3 : r3 < 3
    · refine ⟨L, _, _, .int r1, rfl, rfl, .of hL3, at_of (j := 0) (by omega) rfl, _, _, rfl, rfl, key _ (by omega) (by omega)⟩
    · refine ⟨L, _, _, .int r2, rfl, rfl, .of hL3, at_of (j := 1) (by omega) rfl, _, _, rfl, rfl, key _ (by omega) (by omega)⟩
theorem sc_Part_becomes : FnScope ["self", "row"] ["self", "row"] (defScope s_Part_becomes) := ⟨rfl, rfl, rfl, by decide +kernel, rfl, by decide +kernel, by decide +kernel⟩
section
variable {K : PySem.W.Frag} {mg : Str → Option Value}
theorem b_Part_becomes (T : Txt K mg) : Binds K (fdOf K ("Part", some "becomes")) ["self", "row"] [] := T.Part_becomes.bindsN fun _ _ _ _ _ _ us hl => match us, hl with | [_, _], _ => rfl
end
def sp_Part_becomes (K : PySem.W.Frag) : Sp := fun vs H Q _ => ∃ (p q r' : Addr) (bs bs' : List Bar) (past : List (List Bar)), vs = [.ref p, .ref r'] ∧ PartX K H p q bs past ∧ r' ≠ q ∧ RowAt K H r' bs' ∧ past.length < 1000 ∧
  ∀ H', Fr [p, q] H H' → PartX K H' p q bs' (past ++ [bs]) → Q .non H'
theorem ok_Part_becomes {P : Program} {w : World} {K : PySem.W.Frag} {mg : Str → Option Value} {base : Heap} (T : Txt K mg) : OkF P w K mg base CX0 1 ("Part", some "becomes") ["self", "row"] (sp_Part_becomes K) := by
  refine okN T.Part_becomes sc_Part_becomes (fun vs H Q E h => ?_) (fun cdv A outer s H vs Q E hr h => ?_)
  · obtain ⟨p, q, r', bs, bs', past, rfl, _⟩ := h
    rfl
  · obtain ⟨p, q, r', bs, bs', past, rfl, hp, nr, hr', hl, k⟩ := h
    obtain ⟨dx, r, ws, h1, n, h2, h3, h4⟩ := hp
    refine ⟨_, (pss_cons (ps_expr (pe_bm PySem.F.plainAttrs_list PySem.F.slot_list_append PySem.F.type_list_append mt_append (pe_fld (pv 0) rfl) (pa_cons (pe_fld (pv 0) rfl) pa_nil)))
      (pss_one (ps_fld (pv 0) (pv 1) rfl))), ?_⟩
    have npq : p ≠ q := ne_of h1 h3 (by intro z; cases z)
    have f1 : Fr [p, q] H (upd H q (.lst (ws ++ [.ref r]))) := Fr.upd h3 trivial (by simp)
    have h1' : (upd H q (.lst (ws ++ [.ref r]))) p = some (.ins (pC K) dx (pf r q)) := by
      rw [upd_ne npq]
      exact h1
    refine ⟨_, rfl, p, _, dx, _, _, rfl, h1, T.cl_Part, T.n_past, pf_past, .inl ⟨rfl, _, .of h3⟩, _, rfl, p, _, dx, _, _, rfl, h1, T.cl_Part, T.n_row, pf_row, q, ws, _, rfl, rfl, h3, ?_, ?_⟩
    · rw [h4.len]
      exact small1000 (by omega)
    · refine ⟨_, rfl, _, rfl, p, _, dx, _, rfl, h1', T.cl_Part, T.n_row, pf_len, ?_⟩
      have f2 : Fr [p, q] (upd H q (.lst (ws ++ [.ref r]))) (upd (upd H q (.lst (ws ++ [.ref r]))) p (.ins (pC K) dx (pf r' q))) := Fr.upd h1' trivial (by simp)
      have np : ∀ r bs, RowAt K H r bs → r ≠ p := fun r bs ⟨vs, z, _⟩ => ne_of z h1 (by intro z; cases z)
      have f := f1.trans f2
      refine k _ f ⟨dx, r', ws ++ [.ref r], upd_same, nr, hr'.fr f ?_, ?_, ?_⟩
      · simp [nr, np _ _ hr']
      · rw [upd_ne npq.symm, upd_same]
      · refine Rows.imp (h4.snoc n h2) fun r bs nq z => z.fr f ?_
        simp [nq, np _ _ z]
theorem sc_beats_of : FnScope ["row", "found", "width", "beats", "rests"] ["row"] (defScope s_beats_of) := ⟨rfl, rfl, rfl, by decide +kernel, rfl, by decide +kernel, by decide +kernel⟩
section
variable {K : PySem.W.Frag} {mg : Str → Option Value}
theorem b_beats_of (T : Txt K mg) : Binds K (fdOf K ("beats_of", none)) ["row"] [] := T.beats_of.bindsN fun _ _ _ _ _ _ us hl => match us, hl with | [_], _ => rfl
end
def sp_beats_of (K : PySem.W.Frag) : Sp := fun vs H Q _ => ∃ (a : Addr) (bs : List Bar), vs = [.ref a] ∧ Dp K H (.ref a) (.list (barsD bs)) ∧ Q (.int (beatsOf bs)) H
theorem ok_beats_of {P : Program} {w : World} {K : PySem.W.Frag} {mg : Str → Option Value} {base : Heap} (T : Txt K mg) : OkF P w K mg base CX0 1 ("beats_of", none) ["row"] (sp_beats_of K) := by
  refine okN T.beats_of sc_beats_of (fun vs H Q E h => ?_) (fun cdv A outer s H vs Q E hr h => ?_)
  · obtain ⟨a, bs, rfl, _⟩ := h
    rfl
  · obtain ⟨a, bs, rfl, hd, q⟩ := h
    obtain ⟨xs, hs, ha⟩ := lst_bars hd
    refine ⟨_, (pss_cons (ps_set (i := 1) sc_beats_of.nd rfl (by first | exact Or.inl rfl | exact Or.inr rfl) pe_int)
      (pss_cons (ps_for PassesOwn.never rfl (pi_list (pv 0)) (pg_tup rfl (pgs_cons (pg_name (i := 2) sc_beats_of.nd rfl (by first | exact Or.inl rfl | exact Or.inr rfl)) (pgs_cons (pg_name (i := 3) sc_beats_of.nd rfl (by first | exact Or.inl rfl | exact Or.inr rfl)) (pgs_cons (pg_name (i := 4) sc_beats_of.nd rfl (by first | exact Or.inl rfl | exact Or.inr rfl)) pgs_nil))))
      (pss_cons (ps_if (pt_not (pt_val (pv 4))) (pss_one (ps_ret (pv 1))) pss_nil)
      (pss_one (ps_set (i := 1) sc_beats_of.nd rfl (by first | exact Or.inl rfl | exact Or.inr rfl) (pe_op op_add (pv 1) (pv 3))))))
      (pss_one (ps_ret (pv 1))))), ?_⟩
    refine ⟨_, rfl, a, rfl, ⟨_, hs⟩, for_list (xs := xs) (fun i σ H' => H' = H ∧ ∃ f y2 y3 y4, σ = [some (.ref a), some (.int f), y2, y3, y4] ∧ f + beatsOf (bs.drop i) = beatsOf bs) ⟨rfl, 0, none, none, none, rfl, ?_⟩ ?_ ?_ ?_⟩
    · show 0 + beatsOf bs = beatsOf bs
      omega
    · rintro i σ H' _ ⟨rfl, _⟩
      exact hs
    · rintro i x σ H' hx ⟨rfl, f, y2, y3, y4, rfl, e⟩
      obtain ⟨b, p, hb, rfl, hp⟩ := bar_at ha hx
      refine ⟨p, _, rfl, hp, rfl, _, _, rfl, _, _, rfl, _, _, rfl, rfl, ?_⟩
      rw [drop_at hb] at e
      refine ⟨_, rfl, _, rfl, ?_⟩
      replace e : f + (if b.r = true then b.b + beatsOf (bs.drop (i + 1)) else 0) = beatsOf bs := e
      cases hr : b.r with
      | true =>
        rw [hr, if_pos rfl] at e
        refine iteF ⟨_, rfl, _, rfl, _, _, rfl, rfl, rfl, _, _, _, _, rfl, ?_⟩
        omega
      | false =>
        rw [hr, if_neg Bool.false_ne_true] at e
        refine iteT ⟨_, rfl, ?_⟩
        rw [show f = beatsOf bs by omega]
        exact q
    · rintro σ H' ⟨rfl, f, y2, y3, y4, rfl, e⟩
      rw [bars_len ha, List.drop_length] at e
      refine ⟨_, rfl, ?_⟩
      rw [show f = beatsOf bs by
        have e2 : f + 0 = beatsOf bs := e
        omega]
      exact q
theorem sc_Part_ahead : FnScope ["self", "at"] ["self", "at"] (defScope s_Part_ahead) := ⟨rfl, rfl, rfl, by decide +kernel, rfl, by decide +kernel, by decide +kernel⟩
section
variable {K : PySem.W.Frag} {mg : Str → Option Value}
theorem b_Part_ahead (T : Txt K mg) : Binds K (fdOf K ("Part", some "ahead")) ["self", "at"] [] := T.Part_ahead.bindsN fun _ _ _ _ _ _ us hl => match us, hl with | [_, _], _ => rfl
end
def sp_Part_ahead (K : PySem.W.Frag) : Sp := fun vs H Q _ => ∃ (p q : Addr) (k : Nat) (bs : List Bar) (past : List (List Bar)), vs = [.ref p, .int (k : Int)] ∧ PartX K H p q bs past ∧ ∀ H', Same H H' → Q (.int (beatsOf (bs.take k).reverse)) H'
theorem ok_Part_ahead {P : Program} {w : World} {K : PySem.W.Frag} {mg : Str → Option Value} {base : Heap} (T : Txt K mg) : OkF P w K mg base CX0 2 ("Part", some "ahead") ["self", "at"] (sp_Part_ahead K) := by
  refine okN T.Part_ahead sc_Part_ahead (fun vs H Q E h => ?_) (fun cdv A outer s H vs Q E hr h => ?_)
  · obtain ⟨p, q, k, bs, past, rfl, _⟩ := h
    rfl
  · obtain ⟨p, q, k, bs, past, rfl, hp, z⟩ := h
    obtain ⟨dx, r, ws, h1, n, ⟨vs, h2, h3⟩, _⟩ := hp
    refine ⟨_, (pss_one (ps_ret (pe_call (ok_beats_of T) (hr.mono (by decide)) (by rfl) T.g_beats_of T.beats_of.kp (b_beats_of T) .nil pass0 (pa_cons (pe_revL (pe_slice sl_list (pe_fld (pv 0) rfl) po_none (po_some (pv 1)))) pa_nil)))), ?_⟩
    refine ⟨_, rfl, p, _, dx, _, _, rfl, h1, T.cl_Part, T.n_row, pf_row, _, rfl, _, rfl, r, vs, rfl, .of h2, fun c nc => ?_⟩
    rw [cut_take]
    have s1 : Same H (upd H c (.lst (vs.take k))) := same_upd nc
    refine ⟨c, _, rfl, .of upd_same, fun e ne => ?_⟩
    have s2 := s1.trans (same_upd (o := .lst (vs.take k).reverse) ne)
    refine ⟨e, (bs.take k).reverse, rfl, .lst (.of upd_same) ?_, z _ s2⟩
    show DpAll K _ _ (((bs.take k).reverse).map barD)
    rw [List.map_reverse, List.map_take]
    exact dpa_rev (dpa_take k (dpa_same s2 h3))
theorem sc_Part_behind : FnScope ["self", "at"] ["self", "at"] (defScope s_Part_behind) := ⟨rfl, rfl, rfl, by decide +kernel, rfl, by decide +kernel, by decide +kernel⟩
section
variable {K : PySem.W.Frag} {mg : Str → Option Value}
theorem b_Part_behind (T : Txt K mg) : Binds K (fdOf K ("Part", some "behind")) ["self", "at"] [] := T.Part_behind.bindsN fun _ _ _ _ _ _ us hl => match us, hl with | [_, _], _ => rfl
end
def sp_Part_behind (K : PySem.W.Frag) : Sp := fun vs H Q _ => ∃ (p q : Addr) (k : Nat) (bs : List Bar) (past : List (List Bar)), vs = [.ref p, .int (k : Int)] ∧ PartX K H p q bs past ∧ ∀ H', Same H H' → Q (.int (beatsOf (bs.drop k))) H'
theorem ok_Part_behind {P : Program} {w : World} {K : PySem.W.Frag} {mg : Str → Option Value} {base : Heap} (T : Txt K mg) : OkF P w K mg base CX0 2 ("Part", some "behind") ["self", "at"] (sp_Part_behind K) := by
  refine okN T.Part_behind sc_Part_behind (fun vs H Q E h => ?_) (fun cdv A outer s H vs Q E hr h => ?_)
  · obtain ⟨p, q, k, bs, past, rfl, _⟩ := h
    rfl
  · obtain ⟨p, q, k, bs, past, rfl, hp, z⟩ := h
    obtain ⟨dx, r, ws, h1, n, ⟨vs, h2, h3⟩, _⟩ := hp
    refine ⟨_, (pss_one (ps_ret (pe_call (ok_beats_of T) (hr.mono (by decide)) (by rfl) T.g_beats_of T.beats_of.kp (b_beats_of T) .nil pass0 (pa_cons (pe_slice sl_list (pe_fld (pv 0) rfl) (po_some (pv 1)) po_none) pa_nil)))), ?_⟩
    refine ⟨_, rfl, p, _, dx, _, _, rfl, h1, T.cl_Part, T.n_row, pf_row, _, rfl, _, rfl, r, vs, rfl, .of h2, fun c nc => ?_⟩
    rw [cut_drop]
    have s1 : Same H (upd H c (.lst (vs.drop k))) := same_upd nc
    refine ⟨c, bs.drop k, rfl, .lst (.of upd_same) ?_, z _ s1⟩
    show DpAll K _ _ ((bs.drop k).map barD)
    rw [List.map_drop]
    exact dpa_drop k (dpa_same s1 h3)
theorem sc_Part_rest : FnScope ["self", "at"] ["self", "at"] (defScope s_Part_rest) := ⟨rfl, rfl, rfl, by decide +kernel, rfl, by decide +kernel, by decide +kernel⟩
section
variable {K : PySem.W.Frag} {mg : Str → Option Value}
theorem b_Part_rest (T : Txt K mg) : Binds K (fdOf K ("Part", some "rest")) ["self", "at"] [] := T.Part_rest.bindsN fun _ _ _ _ _ _ us hl => match us, hl with | [_, _], _ => rfl
end
def sp_Part_rest (K : PySem.W.Frag) : Sp := fun vs H Q _ => ∃ (p q : Addr) (k : Nat) (bs : List Bar) (past : List (List Bar)), vs = [.ref p, .int (k : Int)] ∧ PartX K H p q bs past ∧ k ≤ bs.length ∧ ∀ H', Same H H' → Q (.int (restOf bs k)) H'
theorem isNum_nat {k n : Nat} (h : k ≤ n) : isNum (.int (k : Int)) 0 (n : Int) = true := by
  show (decide ((0 : Int) ≤ (k : Int)) && decide ((k : Int) ≤ (n : Int))) = true
  rw [decide_eq_true (by omega), decide_eq_true (by omega)]
  rfl
theorem ok_Part_rest {P : Program} {w : World} {K : PySem.W.Frag} {mg : Str → Option Value} {base : Heap} (T : Txt K mg) : OkF P w K mg base CX0 3 ("Part", some "rest") ["self", "at"] (sp_Part_rest K) := by
  refine okN T.Part_rest sc_Part_rest (fun vs H Q E h => ?_) (fun cdv A outer s H vs Q E hr h => ?_)
  · obtain ⟨p, q, k, bs, past, rfl, _⟩ := h
    rfl
  · obtain ⟨p, q, k, bs, past, rfl, hp, hk, z⟩ := h
    obtain ⟨dx, r, ws, h1, n, ⟨vs, h2, h3⟩, _⟩ := id hp
    refine ⟨_, (pss_cons (ps_if (pt_not (pt_val (pe_call (ok_is_number T) (hr.mono (by decide)) (by rfl) T.g_is_number T.is_number.kp (b_is_number T) .nil pass0 (pa_cons (pv 1) (pa_cons pe_int (pa_cons (pe_callB call_len (by rfl) T.b_len PySem.boot_len (pa_cons (pe_fld (pv 0) rfl) pa_nil)) pa_nil)))))) pss_never pss_nil)
      (pss_one (ps_ret (pe_op op_add (pe_meth (pv 0) T.cl_Part T.m_Part_ahead (ok_Part_ahead T) (hr.mono (by decide)) (b_Part_ahead T) .nil pass0 (pa_cons (pv 1) pa_nil)) (pe_meth (pv 0) T.cl_Part T.m_Part_behind (ok_Part_behind T) (hr.mono (by decide)) (b_Part_behind T) .nil pass0 (pa_cons (pv 1) pa_nil)))))), ?_⟩
    refine ⟨_, rfl, _, rfl, p, _, dx, _, _, rfl, h1, T.cl_Part, T.n_row, pf_row, _, _, rfl, .inl ⟨_, .of h2, rfl⟩, _, .int (k : Int), _, _, rfl, .int _, _, rfl, ?_⟩
    rw [bars_len h3, isNum_nat hk]
    refine iteF ⟨_, rfl, p, dx, _, rfl, h1, pf_no (by decide +kernel) (by decide +kernel), _, rfl, p, q, k, bs, past, rfl, hp, fun H1 s1 => ?_⟩
    refine ⟨_, rfl, p, dx, _, rfl, s1 _ _ h1, pf_no (by decide +kernel) (by decide +kernel), _, rfl, p, q, k, bs, past, rfl, hp.same s1, fun H2 s2 => ?_⟩
    exact ⟨_, _, rfl, rfl, z _ (s1.trans s2)⟩
theorem sc_Part_put : FnScope ["self", "at", "bar"] ["self", "at", "bar"] (defScope s_Part_put) := ⟨rfl, rfl, rfl, by decide +kernel, rfl, by decide +kernel, by decide +kernel⟩
section
variable {K : PySem.W.Frag} {mg : Str → Option Value}
theorem b_Part_put (T : Txt K mg) : Binds K (fdOf K ("Part", some "put")) ["self", "at", "bar"] [] := T.Part_put.bindsN fun _ _ _ _ _ _ us hl => match us, hl with | [_, _, _], _ => rfl
end
def sp_Part_put (K : PySem.W.Frag) : Sp := fun vs H Q _ => ∃ (p q : Addr) (k : Nat) (v : V) (b : Bar) (bs : List Bar) (past : List (List Bar)), vs = [.ref p, .int (k : Int), v] ∧ PartX K H p q bs past ∧ k ≤ bs.length ∧ Dp K H v (barD b) ∧ BarOk b ∧ bs.length < 40 ∧ past.length < 1000 ∧
  ∀ H', Fr [p, q] H H' → PartX K H' p q (bs.take k ++ [b] ++ bs.drop k) (past ++ [bs]) → Q .non H'
theorem ok_Part_put {P : Program} {w : World} {K : PySem.W.Frag} {mg : Str → Option Value} {base : Heap} (T : Txt K mg) : OkF P w K mg base CX0 3 ("Part", some "put") ["self", "at", "bar"] (sp_Part_put K) := by
  refine okN T.Part_put sc_Part_put (fun vs H Q E h => ?_) (fun cdv A outer s H vs Q E hr h => ?_)
  · obtain ⟨p, q, k, v, b, bs, past, rfl, _⟩ := h
    rfl
  · obtain ⟨p, q, k, v, b, bs, past, rfl, hp, hk, hb, ok, hl, hpl, z⟩ := h
    obtain ⟨dx, r, ws, h1, n, ⟨vs, h2, h3⟩, h4, h5⟩ := id hp
    have hlv := bars_len h3
    refine ⟨_, (pss_cons (ps_if (pt_not (pt_val (pe_call (ok_is_number T) (hr.mono (by decide)) (by rfl) T.g_is_number T.is_number.kp (b_is_number T) .nil pass0 (pa_cons (pv 1) (pa_cons pe_int (pa_cons (pe_callB call_len (by rfl) T.b_len PySem.boot_len (pa_cons (pe_fld (pv 0) rfl) pa_nil)) pa_nil)))))) pss_never pss_nil)
      (pss_cons (ps_if (pt_not (pt_val (pe_call (ok_is_bar T) (hr.mono (by decide)) (by rfl) T.g_is_bar T.is_bar.kp (b_is_bar T) .nil pass0 (pa_cons (pv 2) pa_nil)))) pss_never pss_nil)
      (pss_cons (ps_if (pt_cmpR op_eq (pe_callB call_len (by rfl) T.b_len PySem.boot_len (pa_cons (pe_fld (pv 0) rfl) pa_nil)) (pe_glob (v := .int 40) (by rfl) T.c_MOST.choose_spec ⟨_, rfl⟩) (nomark _)) pss_never pss_nil)
      (pss_one (ps_expr (pe_meth (pv 0) T.cl_Part T.m_Part_becomes (ok_Part_becomes T) (hr.mono (by decide)) (b_Part_becomes T) .nil pass0 (pa_cons (pe_op op_cat (pe_op op_cat (pe_slice sl_list (pe_fld (pv 0) rfl) po_none (po_some (pv 1))) (pe_lst (pa_cons (pv 2) pa_nil))) (pe_slice sl_list (pe_fld (pv 0) rfl) (po_some (pv 1)) po_none)) pa_nil))))))), ?_⟩
    refine ⟨_, rfl, _, rfl, p, _, dx, _, _, rfl, h1, T.cl_Part, T.n_row, pf_row, _, _, rfl, .inl ⟨_, .of h2, rfl⟩, _, .int (k : Int), _, _, rfl, .int _, _, rfl, ?_⟩
    rw [hlv, isNum_nat hk]
    refine iteF ⟨_, rfl, _, _, rfl, hb, _, rfl, ?_⟩
    rw [isBar_bar ok]
    refine iteF ⟨_, rfl, p, _, dx, _, _, rfl, h1, T.cl_Part, T.n_row, pf_row, _, _, rfl, .inl ⟨_, .of h2, rfl⟩, rfl, _, rfl, ?_⟩
    refine iteNQ (by rw [hlv]; omega) ?_
    refine ⟨_, rfl, p, dx, _, rfl, h1, pf_no (by decide +kernel) (by decide +kernel), ?_⟩
    refine ⟨_, rfl, p, _, dx, _, _, rfl, h1, T.cl_Part, T.n_row, pf_row, _, rfl, _, rfl, r, vs, rfl, .of h2, fun c1 n1 => ?_⟩
    rw [cut_take]
    have s1 : Same H (upd H c1 (.lst (vs.take k))) := same_upd n1
    refine ⟨_, rfl, by show (1 : Nat) ≤ sizeLine; decide, fun c2 n2 => ?_⟩
    have s2 := s1.trans (same_upd (o := .lst [v]) n2)
    have ne12 : c1 ≠ c2 := ne_of_none upd_same n2
    refine ⟨c1, c2, vs.take k, [v], rfl, rfl, by rw [upd_ne ne12, upd_same], upd_same, ?_, fun c3 n3 => ?_⟩
    · rw [List.length_take]
      show min k vs.length + 1 ≤ sizeLine
      exact Nat.le_of_lt (small1000 (by omega))
    have s3 := s2.trans (same_upd (o := .lst (vs.take k ++ [v])) n3)
    refine ⟨_, rfl, p, _, dx, _, _, rfl, s3 _ _ h1, T.cl_Part, T.n_row, pf_row, _, rfl, _, rfl, r, vs, rfl, .of (s3 _ _ h2), fun c4 n4 => ?_⟩
    rw [cut_drop]
    have s4 := s3.trans (same_upd (o := .lst (vs.drop k)) n4)
    have ne34 : c3 ≠ c4 := ne_of_none upd_same n4
    refine ⟨c3, c4, vs.take k ++ [v], vs.drop k, rfl, rfl, by rw [upd_ne ne34, upd_same], upd_same, ?_, fun c5 n5 => ?_⟩
    · rw [List.length_append, List.length_take, List.length_drop]
      show min k vs.length + 1 + (vs.length - k) ≤ sizeLine
      exact Nat.le_of_lt (small1000 (by omega))
    have s5 := s4.trans (same_upd (o := .lst (vs.take k ++ [v] ++ vs.drop k)) n5)
    refine ⟨p, q, c5, bs, bs.take k ++ [b] ++ bs.drop k, past, rfl, hp.same s5, ?_, ⟨_, upd_same, ?_⟩, hpl, fun H' f hp' => z H' ?_ hp'⟩
    · exact fun e => by
        have e5 := s5.free (l := c5) 
        have := s4 _ _ h4
        rw [← e, n5] at this
        cases this
    · show DpAll K _ _ ((bs.take k ++ [b] ++ bs.drop k).map barD)
      rw [List.map_append, List.map_append, List.map_take, List.map_drop]
      exact dpa_app (dpa_app (dpa_take k (dpa_same s5 h3)) (.cons (dp_same s5 hb) .nil)) (dpa_drop k (dpa_same s5 h3))
    · exact (Fr.of s5 _).trans f
def spx_Part_put (K : PySem.W.Frag) : Sp := fun vs H _ E => ∃ (p q : Addr) (x v : V) (da db : PyData) (bs : List Bar) (past : List (List Bar)), vs = [.ref p, x, v] ∧ PartX K H p q bs past ∧ Dp K H x da ∧ Dp K H v db ∧
  ((isNum da 0 bs.length = false ∧ E (.ref (He.ga K "BadPlace")) none H) ∨ (isNum da 0 bs.length = true ∧ isBar db = false ∧ E (.ref (He.ga K "BadBar")) none H) ∨ (isNum da 0 bs.length = true ∧ isBar db = true ∧ bs.length = 40 ∧ E (.ref (He.ga K "Full")) none H))
theorem okx_Part_put {P : Program} {w : World} {K : PySem.W.Frag} {mg : Str → Option Value} {base : Heap} (T : Txt K mg) : OkF P w K mg base (L2N.CX P w) 3 ("Part", some "put") ["self", "at", "bar"] (spx_Part_put K) := by
  refine T.Part_put.ok sc_Part_put (fun vs H Q E h => ?_) (fun cdv A outer s H vs Q E hr h => ?_)
  · obtain ⟨p, q, x, v, da, db, bs, past, rfl, _⟩ := h
    rfl
  · obtain ⟨p, q, x, v, da, db, bs, past, rfl, hp, hx, hv, z⟩ := h
    obtain ⟨dx, r, ws, h1, n, ⟨vs, h2, h3⟩, _⟩ := id hp
    have hlv := bars_len h3
    refine ⟨_, (pss_cons (ps_if (pt_not (pt_val (pe_call (ok_is_number T) (hr.mono (by decide)) (by rfl) T.g_is_number T.is_number.kp (b_is_number T) .nil pass0 (pa_cons (pv 1) (pa_cons pe_int (pa_cons (pe_callB call_len (by rfl) T.b_len PySem.boot_len (pa_cons (pe_fld (pv 0) rfl) pa_nil)) pa_nil)))))) (pss_one (ps_rais T (n := "BadPlace") (by decide +kernel) T.g_BadPlace (by rfl) (L2N.takes_of rfl rfl rfl rfl) rfl)) pss_nil)
      (pss_cons (ps_if (pt_not (pt_val (pe_call (ok_is_bar T) (hr.mono (by decide)) (by rfl) T.g_is_bar T.is_bar.kp (b_is_bar T) .nil pass0 (pa_cons (pv 2) pa_nil)))) (pss_one (ps_rais T (n := "BadBar") (by decide +kernel) T.g_BadBar (by rfl) (L2N.takes_of rfl rfl rfl rfl) rfl)) pss_nil)
      (pss_cons (ps_if (pt_cmpR op_eq (pe_callB call_len (by rfl) T.b_len PySem.boot_len (pa_cons (pe_fld (pv 0) rfl) pa_nil)) (pe_glob (v := .int 40) (by rfl) T.c_MOST.choose_spec ⟨_, rfl⟩) (nomark _)) (pss_one (ps_rais T (n := "Full") (by decide +kernel) T.g_Full (by rfl) (L2N.takes_of rfl rfl rfl rfl) rfl)) pss_nil)
      pss_never))), ?_⟩
    refine ⟨_, rfl, _, rfl, p, _, dx, _, _, rfl, h1, T.cl_Part, T.n_row, pf_row, _, _, rfl, .inl ⟨_, .of h2, rfl⟩, _, da, _, _, rfl, hx, _, rfl, ?_⟩
    rw [hlv]
    rcases z with ⟨e1, z⟩ | ⟨e1, e2, z⟩ | ⟨e1, e2, e3, z⟩
    · rw [e1]
      exact iteT z
    · rw [e1]
      refine iteF ⟨_, rfl, _, db, rfl, hv, _, rfl, ?_⟩
      rw [e2]
      exact iteT z
    · rw [e1]
      refine iteF ⟨_, rfl, _, db, rfl, hv, _, rfl, ?_⟩
      rw [e2]
      refine iteF ⟨_, rfl, p, _, dx, _, _, rfl, h1, T.cl_Part, T.n_row, pf_row, _, _, rfl, .inl ⟨_, .of h2, rfl⟩, rfl, _, rfl, iteEQ (by rw [hlv, e3]; rfl) z⟩
def spx_Part_rest (K : PySem.W.Frag) : Sp := fun vs H _ E => ∃ (p q : Addr) (x : V) (da : PyData) (bs : List Bar) (past : List (List Bar)), vs = [.ref p, x] ∧ PartX K H p q bs past ∧ Dp K H x da ∧ isNum da 0 bs.length = false ∧ E (.ref (He.ga K "BadPlace")) none H
theorem okx_Part_rest {P : Program} {w : World} {K : PySem.W.Frag} {mg : Str → Option Value} {base : Heap} (T : Txt K mg) : OkF P w K mg base (L2N.CX P w) 3 ("Part", some "rest") ["self", "at"] (spx_Part_rest K) := by
  refine T.Part_rest.ok sc_Part_rest (fun vs H Q E h => ?_) (fun cdv A outer s H vs Q E hr h => ?_)
  · obtain ⟨p, q, x, da, bs, past, rfl, _⟩ := h
    rfl
  · obtain ⟨p, q, x, da, bs, past, rfl, hp, hx, e1, z⟩ := h
    obtain ⟨dx, r, ws, h1, n, ⟨vs, h2, h3⟩, _⟩ := id hp
    refine ⟨_, (pss_cons (ps_if (pt_not (pt_val (pe_call (ok_is_number T) (hr.mono (by decide)) (by rfl) T.g_is_number T.is_number.kp (b_is_number T) .nil pass0 (pa_cons (pv 1) (pa_cons pe_int (pa_cons (pe_callB call_len (by rfl) T.b_len PySem.boot_len (pa_cons (pe_fld (pv 0) rfl) pa_nil)) pa_nil)))))) (pss_one (ps_rais T (n := "BadPlace") (by decide +kernel) T.g_BadPlace (by rfl) (L2N.takes_of rfl rfl rfl rfl) rfl)) pss_nil)
      pss_never), ?_⟩
    refine ⟨_, rfl, _, rfl, p, _, dx, _, _, rfl, h1, T.cl_Part, T.n_row, pf_row, _, _, rfl, .inl ⟨_, .of h2, rfl⟩, _, da, _, _, rfl, hx, _, rfl, ?_⟩
    rw [bars_len h3, e1]
    exact iteT z
/-! ### desks, rows of numbers -/
structure Desk where
  room : Int
  turn : Int
  side : Bool
  empty : Int
def sideS (b : Bool) : Str := if b = true then Str.ofString "right" else Str.ofString "left"
def deskD (k : Desk) : PyData := .tuple [.int k.room, .int k.turn, .str (sideS k.side), .int k.empty]
def deskV (k : Desk) : List V := [.int k.room, .int k.turn, .str (sideS k.side), .int k.empty]
structure DeskOk (k : Desk) : Prop where
  r0 : 1 ≤ k.room
  r1 : k.room ≤ 200
  t0 : 0 ≤ k.turn
  t1 : k.turn ≤ 99
  e0 : 0 ≤ k.empty
  e1 : k.empty ≤ 3
theorem isT_desk (k : Desk) : isT (deskD k) = true := rfl
abbrev numsD (ns : List Nat) : List PyData := ns.map fun (n : Nat) => PyData.int (n : Int)
abbrev numsV (ns : List Nat) : List V := ns.map fun (n : Nat) => V.int (n : Int)
section
variable {K : PySem.W.Frag} {H : Hp}
theorem dp_desk {v : V} {k : Desk} (h : Dp K H v (deskD k)) : ∃ p, v = .ref p ∧ SqT K H p (deskV k) := by
  cases h with
  | tup s a =>
    obtain ⟨v0, v1, v2, v3, rfl, h0, h1, h2, h3⟩ := dpa4 a
    cases h0
    cases h1
    cases h2
    cases h3
    exact ⟨_, rfl, s⟩
theorem dp_desk_of {p : Addr} {k : Desk} (h : SqT K H p (deskV k)) : Dp K H (.ref p) (deskD k) := .tup h (.cons (.int _) (.cons (.int _) (.cons (.str _) (.cons (.int _) .nil))))
theorem dpa_nums : ∀ {ns : List Nat} {vs : List V}, DpAll K H vs (numsD ns) → vs = numsV ns
  | [], _, .nil => rfl
  | n :: r, _, .cons d t => by
    cases d
    show V.int _ :: _ = V.int _ :: numsV r
    rw [dpa_nums t]
theorem dpa_nums_of : ∀ ns : List Nat, DpAll K H (numsV ns) (numsD ns)
  | [] => .nil
  | n :: r => .cons (.int _) (dpa_nums_of r)
theorem dp_nums {v : V} {ns : List Nat} (h : Dp K H v (.tuple (numsD ns))) : ∃ p, v = .ref p ∧ SqT K H p (numsV ns) := by
  cases h with
  | tup s a =>
    rw [dpa_nums a] at s
    exact ⟨_, rfl, s⟩
theorem dp_nums_of {p : Addr} {ns : List Nat} (h : SqT K H p (numsV ns)) : Dp K H (.ref p) (.tuple (numsD ns)) := .tup h (dpa_nums_of ns)
end
theorem isTs_nums : ∀ ns : List Nat, isTs (numsD ns) = true
  | [] => rfl
  | n :: r => by
    show (isT (.int (n : Int)) && isTs (numsD r)) = true
    rw [isTs_nums r]
    rfl
theorem shp_nums (ns : List Nat) : Shp 1 (.tuple (numsD ns)) := shp_tup (shpA_all fun d hd => by
  obtain ⟨n, _, rfl⟩ := List.mem_map.mp hd
  exact shp_int _)
theorem isNum_of {i lo hi : Int} (h1 : lo ≤ i) (h2 : i ≤ hi) : isNum (.int i) lo hi = true := by
  show (decide (lo ≤ i) && decide (i ≤ hi)) = true
  rw [decide_eq_true h1, decide_eq_true h2]
  rfl
/-- whether a page is a right one -/
def isRight (k : Desk) (page : Nat) : Bool := decide (page % 2 = 0) == k.side
def wideOf (bs : List Bar) (b e : Nat) : Int := (((bs.drop b).take (e - b)).map Bar.w).sum
theorem cut_both {xs : List V} {b e : Nat} (h : b ≤ e) : cutV xs (some (b : Int)) (some (e : Int)) = (xs.drop b).take (e - b) := by
  unfold cutV
  rw [HT.sIx_nat, HT.sIx_nat]
  by_cases h1 : b ≤ xs.length
  · rw [Nat.min_eq_left h1]
    by_cases h2 : e ≤ xs.length
    · rw [Nat.min_eq_left h2]
    · rw [Nat.min_eq_right (by omega), List.take_of_length_le (by rw [List.length_drop]; omega), List.take_of_length_le (by rw [List.length_drop]; omega)]
  · rw [Nat.min_eq_right (by omega), Nat.min_eq_right (by omega), List.drop_length, List.drop_eq_nil_of_le (by omega), List.take_nil, List.take_nil]
/-- what is wrong -/
inductive Wrong where
  | wide (p : Nat) | empty (p : Nat) | turn (p : Nat) | form
def wrongD : Wrong → PyData
  | .wide p => .tuple [.str (Str.ofString "wide"), .int (p : Int)]
  | .empty p => .tuple [.str (Str.ofString "empty"), .int (p : Int)]
  | .turn p => .tuple [.str (Str.ofString "turn"), .int (p : Int)]
  | .form => .tuple [.str (Str.ofString "form")]
def faultD : Option Wrong → PyData
  | none => .none
  | some x => wrongD x
def pageFault (bs : List Bar) (k : Desk) (ns : List Nat) (page : Nat) : Option Wrong :=
  let e := (ns.take (page + 1)).sum
  let n := ns.getD page 0
  if wideOf bs (e - n) e > k.room then some (.wide page)
  else if n = 0 ∧ (page + 1 = ns.length ∨ (((ns.take (page + 1)).count 0 : Nat) : Int) > k.empty) then some (.empty page)
  else if isRight k page = true ∧ ¬ page + 1 = ns.length ∧ restOf bs e < k.turn then some (.turn page)
  else none
/-- the first fault from a page on -/
def faultFrom (bs : List Bar) (k : Desk) (ns : List Nat) (page : Nat) : Nat → Option Wrong
  | 0 => none
  | m + 1 => match pageFault bs k ns page with
    | some x => some x
    | none => faultFrom bs k ns (page + 1) m
def faultN (bs : List Bar) (k : Desk) (ns : List Nat) : Option Wrong := if ns.sum = bs.length then faultFrom bs k ns 0 ns.length else some .form
theorem numsV_ints (ns : List Nat) : numsV ns = (ns.map fun (n : Nat) => (n : Int)).map V.int := by
  rw [List.map_map]
  rfl
theorem small5000 {n : Nat} (h : n ≤ 5000) : n < sizeLine := by
  have : sizeLine = 16777216 := sizeLine_eq
  omega
theorem shp_numsL (ns : List Nat) : Shp 1 (.list (numsD ns)) := shp_list (shpA_all fun d hd => by
  obtain ⟨n, _, rfl⟩ := List.mem_map.mp hd
  exact shp_int _)
theorem sc_need_desk : FnScope ["thing"] ["thing"] (defScope s_need_desk) := ⟨rfl, rfl, rfl, by decide +kernel, rfl, by decide +kernel, by decide +kernel⟩
section
variable {K : PySem.W.Frag} {mg : Str → Option Value}
theorem b_need_desk (T : Txt K mg) : Binds K (fdOf K ("need_desk", none)) ["thing"] [] := T.need_desk.bindsN fun _ _ _ _ _ _ us hl => match us, hl with | [_], _ => rfl
end
def sp_need_desk (K : PySem.W.Frag) : Sp := fun vs H Q _ => ∃ (x : V) (k : Desk), vs = [x] ∧ Dp K H x (deskD k) ∧ DeskOk k ∧ Q .non H
theorem ok_need_desk {P : Program} {w : World} {K : PySem.W.Frag} {mg : Str → Option Value} {base : Heap} (T : Txt K mg) : OkF P w K mg base CX0 2 ("need_desk", none) ["thing"] (sp_need_desk K) := by
  refine okN T.need_desk sc_need_desk (fun vs H Q E h => ?_) (fun cdv A outer s H vs Q E hr h => ?_)
  · obtain ⟨x, k, rfl, _⟩ := h
    rfl
  · obtain ⟨x, k, rfl, hd, ok, q⟩ := h
    obtain ⟨p, rfl, hs⟩ := dp_desk hd
    refine ⟨_, (pss_cons (ps_if (PW.pt (pw_or (pt_not (pt_val (pe_callB call_isi (by rfl) T.b_isinstance (by decide +kernel) (pa_cons (pv 0) (pa_cons (pe_bltn (v := .ty "tuple") (by rfl) T.b_tuple (by decide +kernel) rfl) pa_nil))))) (pw_or (pt_cmpR op_ne (pe_callB call_len (by rfl) T.b_len PySem.boot_len (pa_cons (pv 0) pa_nil)) pe_int (nomark _)) (pw_or1 (pt_not (pt_val (pe_call (ok_is_number T) (hr.mono (by decide)) (by rfl) T.g_is_number T.is_number.kp (b_is_number T) .nil pass0 (pa_cons (pe_ix ix_tup (pv 0) pe_int (fun _ _ => rfl)) (pa_cons pe_int (pa_cons pe_int pa_nil)))))))))) pss_never pss_nil)
      (pss_cons (ps_if (PW.pt (pw_or (pt_not (pt_val (pe_call (ok_is_number T) (hr.mono (by decide)) (by rfl) T.g_is_number T.is_number.kp (b_is_number T) .nil pass0 (pa_cons (pe_ix ix_tup (pv 0) pe_int (fun _ _ => rfl)) (pa_cons pe_int (pa_cons pe_int pa_nil)))))) (pw_or (pt_not (pt_val (pe_callB call_isi (by rfl) T.b_isinstance (by decide +kernel) (pa_cons (pe_ix ix_tup (pv 0) pe_int (fun _ _ => rfl)) (pa_cons (pe_bltn (v := .ty "str") (by rfl) T.b_str (by decide +kernel) rfl) pa_nil))))) (pw_or1 (pt_cmpR op_notIn_seq (pe_ix ix_tup (pv 0) pe_int (fun _ _ => rfl)) (pe_glob (v := .ref (He.ga K "SIDES")) (by rfl) T.g_SIDES rfl) (by rfl)))))) pss_never pss_nil)
      (pss_one (ps_if (pt_not (pt_val (pe_call (ok_is_number T) (hr.mono (by decide)) (by rfl) T.g_is_number T.is_number.kp (b_is_number T) .nil pass0 (pa_cons (pe_ix ix_tup (pv 0) pe_int (fun _ _ => rfl)) (pa_cons pe_int (pa_cons pe_int pa_nil)))))) pss_never pss_nil)))), ?_⟩
    refine ⟨_, rfl, _, _, _, _, _, rfl, .ty _, dp_ty hd, kit_tup _, _, rfl, iteF ⟨_, rfl, _, _, rfl, .inr ⟨_, hs, rfl⟩, rfl, _, rfl, iteNNQ rfl ?_⟩⟩
    refine ⟨_, rfl, p, _, _, _, rfl, rfl, hs, rfl, _, .int k.room, _, _, rfl, .int _, _, rfl, ?_⟩
    rw [isNum_of ok.r0 ok.r1]
    refine iteF ⟨_, rfl, p, _, _, _, rfl, rfl, hs, rfl, _, .int k.turn, _, _, rfl, .int _, _, rfl, ?_⟩
    rw [isNum_of ok.t0 ok.t1]
    refine iteF ⟨_, rfl, p, _, _, _, rfl, rfl, hs, rfl, _, _, _, _, _, rfl, .ty _, dp_ty (.str _), kit_str (.str (sideS k.side)), _, rfl, iteF ?_⟩
    refine ⟨_, rfl, p, _, _, _, rfl, rfl, hs, rfl, _, _, rfl, .inr (tupIs_ok T.t_SIDES _), rfl, rfl, _, rfl, ?_⟩
    have e : (!inV (V.str (sideS k.side)) [.str (Str.ofString "left"), .str (Str.ofString "right")]) = false := by
      cases k.side <;> decide +kernel
    show if (!inV (V.str (sideS k.side)) [.str (Str.ofString "left"), .str (Str.ofString "right")]) = true then _ else _
    rw [e]
    refine iteF ⟨_, rfl, p, _, _, _, rfl, rfl, hs, rfl, _, .int k.empty, _, _, rfl, .int _, _, rfl, ?_⟩
    rw [isNum_of ok.e0 ok.e1]
    exact iteF q
def isSide : PyData → Bool
  | .str s => inV (.str s) [.str (Str.ofString "left"), .str (Str.ofString "right")]
  | _ => false
/-- a desk -/
def isDesk : PyData → Bool
  | .tuple [a, b, c, d] => isNum a 1 200 && (isNum b 0 99 && (isSide c && isNum d 0 3))
  | _ => false
def spx_need_desk (K : PySem.W.Frag) : Sp := fun vs H _ E => ∃ (x : V) (d : PyData), vs = [x] ∧ Dp K H x d ∧ isDesk d = false ∧ E (.ref (He.ga K "BadDesk")) none H
theorem okx_need_desk {P : Program} {w : World} {K : PySem.W.Frag} {mg : Str → Option Value} {base : Heap} (T : Txt K mg) : OkF P w K mg base (L2N.CX P w) 2 ("need_desk", none) ["thing"] (spx_need_desk K) := by
  refine T.need_desk.ok sc_need_desk (fun vs H Q E h => ?_) (fun cdv A outer s H vs Q E hr h => ?_)
  · obtain ⟨x, d, rfl, _⟩ := h
    rfl
  · obtain ⟨x, d, rfl, hd, hn, z⟩ := h
    refine ⟨_, (pss_cons (ps_if (PW.pt (pw_or (pt_not (pt_val (pe_callB call_isi (by rfl) T.b_isinstance (by decide +kernel) (pa_cons (pv 0) (pa_cons (pe_bltn (v := .ty "tuple") (by rfl) T.b_tuple (by decide +kernel) rfl) pa_nil))))) (pw_or (pt_cmpR op_ne (pe_callB call_len (by rfl) T.b_len PySem.boot_len (pa_cons (pv 0) pa_nil)) pe_int (nomark _)) (pw_or1 (pt_not (pt_val (pe_call (ok_is_number T) (hr.mono (by decide)) (by rfl) T.g_is_number T.is_number.kp (b_is_number T) .nil pass0 (pa_cons (pe_ix ix_tup (pv 0) pe_int (fun _ _ => rfl)) (pa_cons pe_int (pa_cons pe_int pa_nil)))))))))) (pss_one (ps_rais T (n := "BadDesk") (by decide +kernel) T.g_BadDesk (by rfl) (L2N.takes_of rfl rfl rfl rfl) rfl)) pss_nil)
      (pss_cons (ps_if (PW.pt (pw_or (pt_not (pt_val (pe_call (ok_is_number T) (hr.mono (by decide)) (by rfl) T.g_is_number T.is_number.kp (b_is_number T) .nil pass0 (pa_cons (pe_ix ix_tup (pv 0) pe_int (fun _ _ => rfl)) (pa_cons pe_int (pa_cons pe_int pa_nil)))))) (pw_or (pt_not (pt_val (pe_callB call_isi (by rfl) T.b_isinstance (by decide +kernel) (pa_cons (pe_ix ix_tup (pv 0) pe_int (fun _ _ => rfl)) (pa_cons (pe_bltn (v := .ty "str") (by rfl) T.b_str (by decide +kernel) rfl) pa_nil))))) (pw_or1 (pt_cmpR op_notIn_seq (pe_ix ix_tup (pv 0) pe_int (fun _ _ => rfl)) (pe_glob (v := .ref (He.ga K "SIDES")) (by rfl) T.g_SIDES rfl) (by rfl)))))) (pss_one (ps_rais T (n := "BadDesk") (by decide +kernel) T.g_BadDesk (by rfl) (L2N.takes_of rfl rfl rfl rfl) rfl)) pss_nil)
      (pss_one (ps_if (pt_not (pt_val (pe_call (ok_is_number T) (hr.mono (by decide)) (by rfl) T.g_is_number T.is_number.kp (b_is_number T) .nil pass0 (pa_cons (pe_ix ix_tup (pv 0) pe_int (fun _ _ => rfl)) (pa_cons pe_int (pa_cons pe_int pa_nil)))))) (pss_one (ps_rais T (n := "BadDesk") (by decide +kernel) T.g_BadDesk (by rfl) (L2N.takes_of rfl rfl rfl rfl) rfl)) pss_nil)))), ?_⟩
    refine ⟨_, rfl, _, _, _, _, _, rfl, .ty _, dp_ty hd, kit_tup _, _, rfl, ?_⟩
    cases hd with
    | @tup t vs ds st da =>
      refine iteF ⟨_, rfl, _, _, rfl, .inr ⟨_, st, rfl⟩, rfl, _, rfl, ?_⟩
      have hl := dpa_len da
      by_cases h4 : ds.length = 4
      · obtain ⟨d0, d1, d2, d3, rfl⟩ := len4 h4
        obtain ⟨v0, v1, v2, v3, rfl, h0, h1, h2, h3⟩ := dpa4 da
        refine iteNNQ rfl ⟨_, rfl, t, _, _, _, rfl, rfl, st, rfl, _, d0, _, _, rfl, h0, _, rfl, ?_⟩
        cases e0 : isNum d0 1 200 with
        | false => exact iteT z
        | true =>
          refine iteF ⟨_, rfl, t, _, _, _, rfl, rfl, st, rfl, _, d1, _, _, rfl, h1, _, rfl, ?_⟩
          cases e1 : isNum d1 0 99 with
          | false => exact iteT z
          | true =>
            refine iteF ⟨_, rfl, t, _, _, _, rfl, rfl, st, rfl, _, _, _, _, _, rfl, .ty _, dp_ty h2, kit_str d2, _, rfl, ?_⟩
            cases h2 with
            | str s =>
              refine iteF ⟨_, rfl, t, _, _, _, rfl, rfl, st, rfl, _, _, rfl, .inr (tupIs_ok T.t_SIDES _), rfl, rfl, _, rfl, ?_⟩
              show if (!inV (V.str s) [.str (Str.ofString "left"), .str (Str.ofString "right")]) = true then _ else _
              cases e2 : inV (V.str s) [.str (Str.ofString "left"), .str (Str.ofString "right")] with
              | false => exact iteT z
              | true =>
                refine iteF ⟨_, rfl, t, _, _, _, rfl, rfl, st, rfl, _, d3, _, _, rfl, h3, _, rfl, ?_⟩
                have e3 : isNum d3 0 3 = false := by
                  have hn' : (isNum d0 1 200 && (isNum d1 0 99 && (inV (V.str s) [.str (Str.ofString "left"), .str (Str.ofString "right")] && isNum d3 0 3))) = false := hn
                  rw [e0, e1, e2] at hn'
                  exact hn'
                rw [e3]
                exact iteT z
            | _ => exact iteT z
      · refine iteNEQ (fun e => h4 ?_) z
        rw [hl] at e
        exact Int.ofNat.inj e
    | _ => exact iteT z
theorem sc_layout : FnScope ["part", "desk"] ["part", "desk"] (defScope s_layout) := ⟨rfl, rfl, rfl, by decide +kernel, rfl, by decide +kernel, by decide +kernel⟩
section
variable {K : PySem.W.Frag} {mg : Str → Option Value}
theorem b_layout (T : Txt K mg) : Binds K (fdOf K ("layout", none)) ["part", "desk"] [] := T.layout.bindsN fun _ _ _ _ _ _ us hl => match us, hl with | [_, _], _ => rfl
end
def spxd_layout (K : PySem.W.Frag) : Sp := fun vs H _ E => ∃ (y0 : V) (x : V) (d : PyData), vs = [y0, x] ∧ Dp K H x d ∧ isDesk d = false ∧ E (.ref (He.ga K "BadDesk")) none H
theorem okxd_layout {P : Program} {w : World} {K : PySem.W.Frag} {mg : Str → Option Value} {base : Heap} (T : Txt K mg) : OkF P w K mg base (L2N.CX P w) 3 ("layout", none) ["part", "desk"] (spxd_layout K) := by
  refine T.layout.ok sc_layout (fun vs H Q E h => ?_) (fun cdv A outer s H vs Q E hr h => ?_)
  · obtain ⟨y0, x, d, rfl, _⟩ := h
    rfl
  · obtain ⟨y0, x, d, rfl, hd, hn, z⟩ := h
    refine ⟨_, (pss_cons (ps_expr (pe_call (okx_need_desk T) (hr.mono (by decide)) (by rfl) T.g_need_desk T.need_desk.kp (b_need_desk T) .nil (passN rfl rfl rfl rfl) (pa_cons (pv 1) pa_nil)))
      pss_never), ?_⟩
    exact ⟨_, rfl, x, d, rfl, hd, hn, z⟩
theorem sc_is_right : FnScope ["desk", "page"] ["desk", "page"] (defScope s_is_right) := ⟨rfl, rfl, rfl, by decide +kernel, rfl, by decide +kernel, by decide +kernel⟩
section
variable {K : PySem.W.Frag} {mg : Str → Option Value}
theorem b_is_right (T : Txt K mg) : Binds K (fdOf K ("is_right", none)) ["desk", "page"] [] := T.is_right.bindsN fun _ _ _ _ _ _ us hl => match us, hl with | [_, _], _ => rfl
end
def sp_is_right (K : PySem.W.Frag) : Sp := fun vs H Q _ => ∃ (x : V) (k : Desk) (page : Nat), vs = [x, .int (page : Int)] ∧ Dp K H x (deskD k) ∧ Q (.bl (isRight k page)) H
theorem right_eq (k : Desk) (page : Nat) : decide (V.bl (decide (V.int ((page % 2 : Nat) : Int) = V.int 0)) = V.bl (decide (V.str (sideS k.side) = V.str (Str.ofString "right")))) = isRight k page := by
  have e1 : decide (V.int ((page % 2 : Nat) : Int) = V.int 0) = decide (page % 2 = 0) := by
    rw [Bool.eq_iff_iff, decide_eq_true_iff, decide_eq_true_iff]
    refine ⟨fun h => ?_, fun h => by rw [h]; rfl⟩
    injection h with h
    omega
  have e2 : decide (V.str (sideS k.side) = V.str (Str.ofString "right")) = k.side := by
    cases k.side <;> decide +kernel
  rw [e1, e2]
  unfold isRight
  rw [dec_bl]
theorem ok_is_right {P : Program} {w : World} {K : PySem.W.Frag} {mg : Str → Option Value} {base : Heap} (T : Txt K mg) : OkF P w K mg base CX0 1 ("is_right", none) ["desk", "page"] (sp_is_right K) := by
  refine okN T.is_right sc_is_right (fun vs H Q E h => ?_) (fun cdv A outer s H vs Q E hr h => ?_)
  · obtain ⟨x, k, page, rfl, _⟩ := h
    rfl
  · obtain ⟨x, k, page, rfl, hd, q⟩ := h
    obtain ⟨p, rfl, hs⟩ := dp_desk hd
    refine ⟨_, (pss_one (ps_ret (pe_cmpR op_eq (pe_cmpR op_eq (pe_op op_odd (pv 1) pe_int) pe_int (nomark _)) (pe_cmpR op_eq (pe_ix ix_tup (pv 0) pe_int (fun _ _ => rfl)) pe_str (nomark _)) (nomark _)))), ?_⟩
    refine ⟨_, rfl, page, rfl, rfl, rfl, _, rfl, p, _, _, _, rfl, rfl, hs, rfl, rfl, rfl, ?_⟩
    rw [← right_eq] at q
    exact q
theorem sc_Part_wide : FnScope ["self", "begin", "end", "width", "beats", "rests"] ["self", "begin", "end"] (defScope s_Part_wide) := ⟨rfl, rfl, rfl, by decide +kernel, rfl, by decide +kernel, by decide +kernel⟩
section
variable {K : PySem.W.Frag} {mg : Str → Option Value}
theorem b_Part_wide (T : Txt K mg) : Binds K (fdOf K ("Part", some "wide")) ["self", "begin", "end"] [] := T.Part_wide.bindsN fun _ _ _ _ _ _ us hl => match us, hl with | [_, _, _], _ => rfl
end
def sp_Part_wide (K : PySem.W.Frag) : Sp := fun vs H Q _ => ∃ (p q : Addr) (b e : Nat) (bs : List Bar) (past : List (List Bar)), vs = [.ref p, .int (b : Int), .int (e : Int)] ∧ PartX K H p q bs past ∧ b ≤ e ∧ bs.length ≤ 1000 ∧ ∀ H', Same H H' → Q (.int (wideOf bs b e)) H'
theorem ok_Part_wide {P : Program} {w : World} {K : PySem.W.Frag} {mg : Str → Option Value} {base : Heap} (T : Txt K mg) : OkF P w K mg base CX0 1 ("Part", some "wide") ["self", "begin", "end"] (sp_Part_wide K) := by
  refine okN T.Part_wide sc_Part_wide (fun vs H Q E h => ?_) (fun cdv A outer s H vs Q E hr h => ?_)
  · obtain ⟨p, q, b, e, bs, past, rfl, _⟩ := h
    rfl
  · obtain ⟨p, q, b, e, bs, past, rfl, hp, hbe, hl, z⟩ := h
    obtain ⟨dx, r, ws, h1, n, ⟨vs, h2, h3⟩, _⟩ := hp
    refine ⟨_, (pss_one (ps_ret (pe_callB (cr_sum rfl) (by rfl) T.b_sum (by decide +kernel) (pa_cons (pe_lc (own := [("width", 3), ("beats", 4), ("rests", 5)]) (g := (gTup K 3 (gCons (gName 3) (gCons (gName 4) (gCons (gName 5) gNil))))) (tt := tYes)  (by rfl) sc_Part_wide.nd (pi_list (pe_slice sl_list (pe_fld (pv 0) rfl) (po_some (pv 1)) (po_some (pv 2)))) (blkOk_by (own := [("width", 3), ("beats", 4), ("rests", 5)]) (N := ["self", "begin", "end", "width", "beats", "rests"]) (sc := defScope s_Part_wide) (by decide +kernel)) (fun _ _ _ _ _ => (pg_tup rfl (pgs_cons (pg_name (i := 3) sc_Part_wide.nd rfl (by first | exact Or.inl rfl | exact Or.inr rfl)) (pgs_cons (pg_name (i := 4) sc_Part_wide.nd rfl (by first | exact Or.inl rfl | exact Or.inr rfl)) (pgs_cons (pg_name (i := 5) sc_Part_wide.nd rfl (by first | exact Or.inl rfl | exact Or.inr rfl)) pgs_nil))))) (fun _ _ _ _ _ => pts_nil) (fun _ _ _ _ _ => (pv 3))) pa_nil)))), ?_⟩
    refine ⟨_, rfl, p, _, dx, _, _, rfl, h1, T.cl_Part, T.n_row, pf_row, _, rfl, _, rfl, _, rfl, _, rfl, r, vs, rfl, .of h2, fun c nc => ?_⟩
    rw [cut_both hbe]
    have s1 : Same H (upd H c (.lst ((vs.drop b).take (e - b)))) := same_upd nc
    have h4 : DpAll K (upd H c (.lst ((vs.drop b).take (e - b)))) ((vs.drop b).take (e - b)) (barsD ((bs.drop b).take (e - b))) := by
      show DpAll K _ _ (((bs.drop b).take (e - b)).map barD)
      rw [List.map_take, List.map_drop]
      exact dpa_take _ (dpa_drop b (dpa_same s1 h3))
    have hlen := bars_len h4
    have hle : ((bs.drop b).take (e - b)).length ≤ 1000 := by
      rw [List.length_take, List.length_drop]
      omega
    refine ⟨c, rfl, ⟨_, .of upd_same⟩, fun D hD => lc_list (K := K) (a := c) (xs := (vs.drop b).take (e - b)) (fun i H' => Same (upd H c (.lst ((vs.drop b).take (e - b)))) H' ∧ H' D = some (.lst (((((bs.drop b).take (e - b)).take i).map Bar.w).map V.int))) ⟨same_upd hD, ?_⟩ ?_ ?_ ?_⟩
    · rw [upd_same]
      rfl
    · rintro i H' _ ⟨s, _⟩
      exact .of (s _ _ upd_same)
    · rintro i v H' hv ⟨s, e1⟩
      obtain ⟨x, t, hx, rfl, ht⟩ := bar_at h4 hv
      refine ⟨t, _, rfl, same_sqt s ht, rfl, _, _, rfl, _, _, rfl, _, _, rfl, rfl, rfl, _, rfl, _, e1, ?_, same_updR s hD, ?_⟩
      · rw [List.length_map, List.length_map, List.length_take]
        exact small1000 (by omega)
      · rw [upd_same, take_at hx, List.map_append, List.map_append]
        rfl
    · rintro H1 ⟨s2, e1⟩
      rw [hlen, List.take_length] at e1
      exact ⟨D, _, rfl, .of e1, z _ (s1.trans s2)⟩
section
variable {X : Cx}
/-- t[lo:hi].count(x), the slice not the whole tuple -/
def tSlCnt (K : PySem.W.Frag) (te : TE) (tl th : L2.St → Hp → (Option Int → Hp → Prop) → Prop) (t2 : TE) : TE := fun σ H Q => te σ H fun x H1 => tl σ H1 fun l H2 => th σ H2 fun u H3 => ∃ a xs, x = .ref a ∧ SqT K H3 a xs ∧
  ¬ (HT.sIx xs.length 0 l = 0 ∧ HT.sIx xs.length xs.length u = xs.length) ∧ ∀ p, H3 p = none → t2 σ (upd H3 p (.tup (cutV xs l u))) fun y H4 => ∃ (ds : List PyData) (d : PyData), Dp K H4 (.ref p) (.tuple ds) ∧ Dp K H4 y d ∧ SeqAt.shaped (.tuple ds) = true ∧ SeqAt.shaped d = true ∧ Q (.int ((ds.countP fun z => PyData.eqv z d : Nat) : Int)) H4
theorem pe_slCnt {e e2 : Expr} {lo hi : Option Expr} {te t2 : TE} {tl th : L2.St → Hp → (Option Int → Hp → Prop) → Prop} {p2 pos apos cpos : Pos} (hu65 : X.A.units + 65 < cLine) (he : PE X e te) (hl : PO X lo tl) (hu : PO X hi th) (h2 : PE X e2 t2)
    (hbase : attributeBase (.Subscript e (.Slice lo hi none p2) pos) "count" X.env (eval (.Subscript e (.Slice lo hi none p2) pos) X.env) = eval (.Subscript e (.Slice lo hi none p2) pos) X.env := by rfl)
    (hfew : ((backTo cpos (starEach [e2] X.env)).all (fun x => !x.1) && (backToKw cpos (keywordEach [] X.env)).all (fun x => x.1.isSome)
      && decide ([e2].length + ([] : List Keyword).length + (if ([] : List Keyword).isEmpty then 0 else 1) < 30)) = true := by rfl)
    (hline : (apos.endLine == cpos.line) = true := by rfl) (hs : starEach [e2] X.env = (false, eval e2 X.env) :: starEach [] X.env := by rfl) (hplain : (backTo cpos (starEach [] X.env)).any (·.1) = false := by rfl) :
    PE X (.Call (.Attribute (.Subscript e (.Slice lo hi none p2) pos) "count" apos) [e2] [] cpos) (tSlCnt X.K te tl th t2) := by
  refine ⟨fun pins s σ H Q I h => ?_⟩
  refine wpAny_Call_method_late hbase hfew hline rfl ?_
  refine Subscript_ (thn (he.run pins s σ H _ I h) fun v s1 ⟨x, H1, I1, r1, q1⟩ => ?_)
  refine wpAny_Slice (thn (hl.run pins s1 σ H1 _ I1 q1) fun vl s2 ⟨l, H2, I2, pl, q2⟩ => thn (hu.run pins s2 σ H2 _ I2 q2) fun vu s3 ⟨u, H3, I3, pu, q3⟩ => ?_)
  rw [evalPart_none]
  refine wpAny_pure ?_
  obtain ⟨a, xs, rfl, hx, hw, q⟩ := q3
  cases r1
  have I4 : Inv X pins σ H3 { s3 with heap := s3.heap.push { cls := .type "slice", data := .fields #[vl, vu, .none] } } := I3.kept (t' := s3.toks) fun b ob q => Heap.get?_push_of_some _ q
  obtain ⟨its, r, ht, hz⟩ := I4.tuple hx
  have hlen : its.toArray.size = xs.length := by rw [List.size_toArray]; exact r.length.symm
  show wpAny (model X.prog X.w) X.A (subscriptTail e (.Slice lo hi none p2) (.ref a) (.ref s3.heap.objs.size)) _ X.xe { s3 with heap := s3.heap.push { cls := .type "slice", data := .fields #[vl, vu, .none] } }
  refine tail_any (ops := [.ref s3.heap.objs.size, .ref a]) ht.typeIs PyProof.Rows.slot_tuple_getitem.lookup ?_ (by with_unfolding_all rfl)
  refine HT.getItem_tuple_cut ht (Heap.IsSliceOf.new ..) pl pu (by rw [hlen]; exact hw) ?_ (by rw [hlen]; exact hz)
  rw [hlen]
  generalize hS : ({ s3 with heap := s3.heap.push { cls := .type "slice", data := .fields #[vl, vu, .none] } } : Shared) = S at I4 ht ⊢
  have hfr := I4.hok.fresh (Nat.le_refl S.heap.objs.size)
  have I5 : Inv X pins σ (upd H3 S.heap.objs.size (.tup (cutV xs l u))) _ := I4.laid (t' := S.toks) (o := .tup (cutV xs l u)) (fun b ob q => Heap.get?_push_of_some _ q) (Nat.le_refl _)
    ⟨Nat.le_trans (cutV_length xs l u) hz, _, (r.drop (HT.sIx xs.length 0 l)).take (HT.sIx xs.length xs.length u - HT.sIx xs.length 0 l), IsTup.new _ _⟩
  refine ⟨"tuple", _, PySem.F.plainAttrs_tuple, PySem.F.slot_tuple_count, PySem.F.type_tuple_count, (IsTup.new _ _).typeIs, fun b e => ?_, ?_⟩
  · cases e
    exact ⟨_, Heap.get?_push_size _ rfl, rfl⟩
  · have hA := (pa_cons h2 pa_nil hs).run cpos pins _ σ _ (fun ys H4 => match ys with
      | [y] => ∃ (ds : List PyData) (d : PyData), Dp X.K H4 (.ref S.heap.objs.size) (.tuple ds) ∧ Dp X.K H4 y d ∧ SeqAt.shaped (.tuple ds) = true ∧ SeqAt.shaped d = true ∧ Q (.int ((ds.countP fun z => PyData.eqv z d : Nat) : Int)) H4
      | _ => False) I5 (q S.heap.objs.size hfr)
    rw [hs] at hA ⊢
    refine Calls.callWith_builtin (by show (false || (backTo cpos (starEach [] X.env)).any (·.1)) = false; rw [hplain] <;> rfl) (Calls.evalArgs_plain ?_)
    refine thn hA fun us s2 ⟨vs, H2, I2, r2, z⟩ => ?_
    obtain ⟨y, rfl⟩ : ∃ y, vs = [y] := by
      match vs, z with
      | [y], _ => exact ⟨y, rfl⟩
    obtain ⟨ds, d, d1, d2, sh1, sh2, q2⟩ := z
    exact mt_tcount hu65 pins s2 σ H2 (.ref S.heap.objs.size) [y] (.ref S.heap.objs.size) us Q I2 rfl r2 ⟨_, y, ds, d, rfl, rfl, d1, d2, sh1, sh2, q2⟩
end
theorem sum_take_le : ∀ (ns : List Nat) (i : Nat), (ns.take i).sum ≤ ns.sum
  | [], _ => by simp
  | n :: r, 0 => by simp
  | n :: r, i + 1 => by
    have := sum_take_le r i
    simp only [List.take_succ_cons, List.sum_cons]
    omega
theorem sum_at : ∀ {ns : List Nat} {i : Nat}, i < ns.length → ns.getD i 0 ≤ (ns.take (i + 1)).sum
  | [], _, h => by simp at h
  | n :: r, 0, _ => by simp
  | n :: r, i + 1, h => by
    have := sum_at (ns := r) (i := i) (by simpa using h)
    simp only [List.take_succ_cons, List.sum_cons, List.getD_cons_succ]
    omega
theorem numsV_at {ns : List Nat} {i : Nat} (h : i < ns.length) : (numsV ns)[i]? = some (.int ((ns.getD i 0 : Nat) : Int)) := by
  rw [List.getElem?_map, List.getElem?_eq_getElem h, List.getD_eq_getElem?_getD, List.getElem?_eq_getElem h]
  rfl
theorem numsV_sum : ∀ ns : List Nat, (ns.map fun (n : Nat) => (n : Int)).sum = ((ns.sum : Nat) : Int)
  | [] => rfl
  | n :: r => by
    simp only [List.map_cons, List.sum_cons, numsV_sum r]
    omega
theorem count_nums : ∀ ns : List Nat, (numsD ns).countP (fun z => PyData.eqv z (.int 0)) = ns.count 0
  | [] => rfl
  | n :: r => by
    have e : PyData.eqv (.int (n : Int)) (.int 0) = (n == 0) := by
      simp only [PyData.eqv]
      rw [Bool.eq_iff_iff]
      simp
    simp only [List.map_cons, List.countP_cons, List.count_cons, count_nums r, e]
def isNat0 : PyData → Bool
  | .int i => decide (0 ≤ i)
  | _ => false
def areNums : PyData → Bool
  | .tuple ds => ds.all isNat0
  | _ => false
theorem areNums_nums : ∀ ns : List Nat, areNums (.tuple (numsD ns)) = true
  | [] => rfl
  | n :: r => by
    show (decide (0 ≤ (n : Int)) && (numsD r).all isNat0) = true
    rw [decide_eq_true (Int.natCast_nonneg n), show (numsD r).all isNat0 = true from areNums_nums r]
    rfl
theorem nums_of_are : ∀ {ds : List PyData}, ds.all isNat0 = true → ∃ ns : List Nat, ds = numsD ns
  | [], _ => ⟨[], rfl⟩
  | d :: ds, h => by
    obtain ⟨h1, h2⟩ := Bool.and_eq_true_iff.mp h
    obtain ⟨ns, rfl⟩ := nums_of_are h2
    cases d with
    | int i =>
      have h3 : 0 ≤ i := of_decide_eq_true h1
      exact ⟨i.toNat :: ns, by
        show _ = PyData.int ((i.toNat : Nat) : Int) :: numsD ns
        rw [Int.toNat_of_nonneg h3]⟩
    | _ => cases h1
/-- the first fault of any thing -/
def faultAny (bs : List Bar) (k : Desk) (d : PyData) (ns : List Nat) : Option Wrong := if areNums d = true then faultN bs k ns else some .form
def natsOf : PyData → List Nat
  | .tuple ds => ds.map fun d => match d with
    | .int i => i.toNat
    | _ => 0
  | _ => []
theorem natsOf_nums (ns : List Nat) : natsOf (.tuple (numsD ns)) = ns := by
  show (numsD ns).map _ = ns
  rw [List.map_map]
  exact List.map_id'' (fun n => rfl) ns
def faultG (bs : List Bar) (k : Desk) (d : PyData) : Option Wrong := if areNums d = true then faultN bs k (natsOf d) else some .form
theorem faultFrom_step {bs : List Bar} {k : Desk} {ns : List Nat} {i m : Nat} : faultFrom bs k ns i (m + 1) = match pageFault bs k ns i with
    | some x => some x
    | none => faultFrom bs k ns (i + 1) m := rfl
theorem dp_none {K : PySem.W.Frag} {H : Hp} {v : V} (h : Dp K H v .none) : v = .non := by
  cases h
  rfl
theorem dp_wrong {K : PySem.W.Frag} {H : Hp} {v : V} {x : Wrong} (h : Dp K H v (wrongD x)) : v ≠ .non := by
  intro e
  subst e
  cases x <;> cases h
theorem sc_page_fault : FnScope ["part", "desk", "thing", "page", "end", "is_last"] ["part", "desk", "thing", "page"] (defScope s_page_fault) := ⟨rfl, rfl, rfl, by decide +kernel, rfl, by decide +kernel, by decide +kernel⟩
section
variable {K : PySem.W.Frag} {mg : Str → Option Value}
theorem b_page_fault (T : Txt K mg) : Binds K (fdOf K ("page_fault", none)) ["part", "desk", "thing", "page"] [] := T.page_fault.bindsN fun _ _ _ _ _ _ us hl => match us, hl with | [_, _, _, _], _ => rfl
end
def sp_page_fault (K : PySem.W.Frag) : Sp := fun vs H Q _ => ∃ (p q : Addr) (bs : List Bar) (past : List (List Bar)) (x y : V) (k : Desk) (ns : List Nat) (page : Nat), vs = [.ref p, x, y, .int (page : Int)] ∧ PartX K H p q bs past ∧ Dp K H x (deskD k) ∧ Dp K H y (.tuple (numsD ns)) ∧ page < ns.length ∧ ns.sum = bs.length ∧ bs.length ≤ 1000 ∧
  ∀ v H', Same H H' → Dp K H' v (faultD (pageFault bs k ns page)) → Q v H'
theorem ok_page_fault {P : Program} {w : World} {K : PySem.W.Frag} {mg : Str → Option Value} {base : Heap} (T : Txt K mg) : OkF P w K mg base CX0 5 ("page_fault", none) ["part", "desk", "thing", "page"] (sp_page_fault K) := by
  refine okN T.page_fault sc_page_fault (fun vs H Q E h => ?_) (fun cdv A outer s H vs Q E hr h => ?_)
  · obtain ⟨p, q, bs, past, x, y, k, ns, page, rfl, _⟩ := h
    rfl
  · obtain ⟨p, q, bs, past, x, y, k, ns, page, rfl, hp, hx, hy, hpg, hsum, hlen, z⟩ := h
    obtain ⟨dk, rfl, hdk⟩ := dp_desk hx
    obtain ⟨t, rfl, ht⟩ := dp_nums hy
    have he := sum_take_le ns (page + 1)
    have hn := sum_at hpg
    unfold pageFault at z
    dsimp only at z
    generalize hE : (ns.take (page + 1)).sum = e at z he hn
    generalize hN : ns.getD page 0 = n at z hn
    have htn : ∀ H', Same H H' → SqT K H' t (numsV ns) := fun H' s => same_sqt s ht
    refine ⟨_, (pss_cons (ps_set (i := 4) sc_page_fault.nd rfl (by first | exact Or.inl rfl | exact Or.inr rfl) (pe_callB (cr_sumT rfl) (by rfl) T.b_sum (by decide +kernel) (pa_cons (pe_slice sl_tupU (pv 2) po_none (po_some (pe_op op_add (pv 3) pe_int))) pa_nil)))
      (pss_cons (ps_set (i := 5) sc_page_fault.nd rfl (by first | exact Or.inl rfl | exact Or.inr rfl) (pe_cmpR op_eq (pe_op op_add (pv 3) pe_int) (pe_callB call_len (by rfl) T.b_len PySem.boot_len (pa_cons (pv 2) pa_nil)) (nomark _)))
      (pss_cons (ps_if (pt_cmpR op_gt (pe_meth (pv 0) T.cl_Part T.m_Part_wide (ok_Part_wide T) (hr.mono (by decide)) (b_Part_wide T) .nil pass0 (pa_cons (pe_op op_sub (pv 4) (pe_ix ix_tup (pv 2) (pv 3) (fun _ _ => rfl))) (pa_cons (pv 4) pa_nil))) (pe_ix ix_tup (pv 1) pe_int (fun _ _ => rfl)) (nomark _)) (pss_one (ps_ret (pe_tup (pa_cons pe_str (pa_cons (pv 3) pa_nil))))) pss_nil)
      (pss_cons (ps_if (PW.pt (pw_and (pt_cmpR op_eq (pe_ix ix_tup (pv 2) (pv 3) (fun _ _ => rfl)) pe_int (nomark _)) (pw_and1 (PW.pt (pw_or (pt_val (pv 5)) (pw_or1 (pt_cmpR op_gt (pe_slCnt (units65 hr) (pv 2) po_none (po_some (pe_op op_add (pv 3) pe_int)) pe_int) (pe_ix ix_tup (pv 1) pe_int (fun _ _ => rfl)) (nomark _)))))))) (pss_one (ps_ret (pe_tup (pa_cons pe_str (pa_cons (pv 3) pa_nil))))) pss_nil)
      (pss_cons (ps_if (PW.pt (pw_and (pt_val (pe_call (ok_is_right T) (hr.mono (by decide)) (by rfl) T.g_is_right T.is_right.kp (b_is_right T) .nil pass0 (pa_cons (pv 1) (pa_cons (pv 3) pa_nil)))) (pw_and (pt_not (pt_val (pv 5))) (pw_and1 (pt_cmpR op_lt (pe_meth (pv 0) T.cl_Part T.m_Part_rest (ok_Part_rest T) (hr.mono (by decide)) (b_Part_rest T) .nil pass0 (pa_cons (pv 4) pa_nil)) (pe_ix ix_tup (pv 1) pe_int (fun _ _ => rfl)) (nomark _)))))) (pss_one (ps_ret (pe_tup (pa_cons pe_str (pa_cons (pv 3) pa_nil))))) pss_nil)
      (pss_one (ps_ret pe_non))))))), ?_⟩
    -- end = sum(thing[:page + 1])
    refine ⟨_, rfl, _, rfl, _, _, rfl, rfl, _, rfl, t, _, rfl, ht, fun c H1 s1 hc => ?_⟩
    rw [show (page : Int) + 1 = ((page + 1 : Nat) : Int) by omega, cut_take, ← List.map_take] at hc
    have hc2 : SqT K H1 c (((ns.take (page + 1)).map fun (n : Nat) => (n : Int)).map V.int) := by
      rw [← numsV_ints]
      exact hc
    refine ⟨c, _, rfl, hc2, ?_⟩
    rw [numsV_sum, hE]
    -- is_last = page + 1 == len(thing)
    refine ⟨_, rfl, _, _, rfl, rfl, _, rfl, _, _, rfl, .inr ⟨_, htn _ s1, rfl⟩, rfl, ?_⟩
    have hlast : decide (V.int ((page : Int) + 1) = V.int (((numsV ns).length : Nat) : Int)) = decide (page + 1 = ns.length) := by
      rw [Bool.eq_iff_iff, decide_eq_true_iff, decide_eq_true_iff, List.length_map]
      refine ⟨fun h => ?_, fun h => by rw [← h]; rfl⟩
      injection h with h
      omega
    show tSeq _ _ _ _ _
    rw [hlast]
    -- part.wide(end - thing[page], end) > desk[0]
    have hp1 := hp.same s1
    obtain ⟨dx, r, ws, h1, _⟩ := id hp1
    refine ⟨_, rfl, p, dx, _, rfl, h1, pf_no (by decide +kernel) (by decide +kernel), ?_⟩
    refine ⟨_, rfl, _, rfl, _, rfl, t, _, _, _, rfl, rfl, htn _ s1, atI_nat (numsV_at hpg), _, _, rfl, rfl, _, rfl, ?_⟩
    rw [hN]
    refine ⟨p, q, e - n, e, bs, past, by rw [show ((e - n : Nat) : Int) = (e : Int) - (n : Int) by omega]; rfl, hp1, by omega, hlen, fun H2 s2 => ?_⟩
    have s12 := s1.trans s2
    refine ⟨_, rfl, dk, _, _, _, rfl, rfl, same_sqt s12 hdk, rfl, _, _, rfl, rfl, _, rfl, ?_⟩
    refine ite2P (fun hw => ?_) (fun hw => ?_)
    · rw [if_pos hw] at z
      refine ⟨_, rfl, by show (2 : Nat) ≤ sizeLine; decide, fun c2 n2 => z _ _ (s12.trans (same_upd n2)) (.tup (.of upd_same) (.cons (.str _) (.cons (.int _) .nil)))⟩
    rw [if_neg hw] at z
    -- thing[page] == 0 and (is_last or thing[:page + 1].count(0) > desk[3])
    refine ⟨_, rfl, _, rfl, t, _, _, _, rfl, rfl, htn _ s12, atI_nat (numsV_at hpg), rfl, _, rfl, ?_⟩
    rw [hN]
    have turn : ∀ H3, Same H H3 → (∀ v H', Same H H' → Dp K H' v (faultD (if isRight k page = true ∧ ¬ page + 1 = ns.length ∧ restOf bs e < k.turn then some (.turn page) else none)) → Q v H') →
        (tSeq (tIfS (tAnd (tB (tCall (sp_is_right K) [] E0 (tCons (tVar 1) (tCons (tVar 3) tNil)))) (tAnd (tNot (tB (tVar 5))) (tTest (tOp (rI0 fun i j => V.bl (decide (i < j))) (tMeth (pC K) "rest" (sp_Part_rest K) [] E0 (tVar 0) (tCons (tVar 4) tNil)) (tOp (rIxT K) (tVar 1) (tC (.int 1))))))) (tRet (tTup (tCons (tC (.str (Str.ofString "turn"))) (tCons (tVar 3) tNil)))) tNext) (tRet (tC .non))) { nx := fun _ H' => Q .non H', rt := Q } [some (.ref p), some (.ref dk), some (.ref t), some (.int (page : Int)), some (.int (e : Int)), some (.bl (decide (page + 1 = ns.length)))] H3 := by
      intro H3 s3 z3
      refine ⟨_, rfl, _, rfl, _, k, page, rfl, dp_same s3 hx, _, rfl, ?_⟩
      cases hri : isRight k page with
      | false =>
        rw [if_neg (by simp [hri])] at z3
        exact iteF (iteF (z3 _ _ s3 .non))
      | true =>
        refine iteT ⟨_, rfl, _, rfl, ?_⟩
        by_cases hl : page + 1 = ns.length
        · rw [if_neg (by simp [hl])] at z3
          rw [decide_eq_true hl]
          exact iteF (iteF (z3 _ _ s3 .non))
        · rw [decide_eq_false hl]
          have hp3 := hp.same s3
          obtain ⟨dx, r, ws, h1, _⟩ := id hp3
          refine iteT ⟨_, rfl, p, dx, _, rfl, h1, pf_no (by decide +kernel) (by decide +kernel), _, rfl, p, q, e, bs, past, rfl, hp3, by omega, fun H4 s4 => ?_⟩
          have s34 := s3.trans s4
          refine ⟨_, rfl, dk, _, _, _, rfl, rfl, same_sqt s34 hdk, rfl, _, _, rfl, rfl, _, rfl, ?_⟩
          refine ite2P (fun hw => ?_) (fun hw => ?_)
          · rw [if_pos ⟨hri, hl, hw⟩] at z3
            refine ⟨_, rfl, by show (2 : Nat) ≤ sizeLine; decide, fun c2 n2 => z3 _ _ (s34.trans (same_upd n2)) (.tup (.of upd_same) (.cons (.str _) (.cons (.int _) .nil)))⟩
          · rw [if_neg (fun h => hw h.2.2)] at z3
            exact z3 _ _ s34 .non
    refine ite2Q (fun h0 => ?_) (fun h0 => ?_)
    · have hn0 : n = 0 := by omega
      refine ⟨_, rfl, _, rfl, ?_⟩
      by_cases hl : page + 1 = ns.length
      · rw [if_pos ⟨hn0, .inl hl⟩] at z
        rw [decide_eq_true hl]
        refine iteT (iteT ⟨_, rfl, by show (2 : Nat) ≤ sizeLine; decide, fun c2 n2 => z _ _ (s12.trans (same_upd n2)) (.tup (.of upd_same) (.cons (.str _) (.cons (.int _) .nil)))⟩)
      · have hdl := decide_eq_false hl
        rw [hdl]
        have hw : ¬ (HT.sIx (numsV ns).length 0 none = 0 ∧ HT.sIx (numsV ns).length (numsV ns).length (some ((page : Int) + 1)) = (numsV ns).length) := fun h => by
          have h2 := h.2
          rw [show (page : Int) + 1 = ((page + 1 : Nat) : Int) by omega, HT.sIx_nat, List.length_map] at h2
          omega
        refine iteF ⟨_, rfl, _, rfl, _, _, rfl, rfl, _, rfl, t, _, rfl, htn _ s12, hw, fun c3 n3 => ?_⟩
        rw [show (page : Int) + 1 = ((page + 1 : Nat) : Int) by omega, cut_take, ← List.map_take]
        have s3 := same_upd (o := .tup ((ns.take (page + 1)).map fun (n : Nat) => V.int (n : Int))) n3
        have s13 := s12.trans s3
        have hc3 : SqT K (upd H2 c3 (.tup ((ns.take (page + 1)).map fun (n : Nat) => V.int (n : Int)))) c3 (numsV (ns.take (page + 1))) := .of upd_same
        refine ⟨_, _, dp_nums_of hc3, .int 0, (shp_nums _).ok (by decide), (shp_int (n := 0) 0).ok (by decide), ?_⟩
        rw [count_nums]
        refine ⟨_, rfl, dk, _, _, _, rfl, rfl, same_sqt s13 hdk, rfl, _, _, rfl, rfl, _, rfl, ?_⟩
        refine ite2P (fun hw => ?_) (fun hw => ?_)
        · rw [if_pos ⟨hn0, .inr hw⟩] at z
          refine ⟨_, rfl, by show (2 : Nat) ≤ sizeLine; decide, fun c2 n2 => z _ _ (s13.trans (same_upd n2)) (.tup (.of upd_same) (.cons (.str _) (.cons (.int _) .nil)))⟩
        · rw [if_neg (fun h => h.2.elim hl hw)] at z
          have g := turn _ s13 z
          rw [hdl] at g
          exact g
    · rw [if_neg (fun h => h0 (by omega))] at z
      exact iteF (turn H2 s12 z)
theorem sc_are_numbers : FnScope ["thing", "one"] ["thing"] (defScope s_are_numbers) := ⟨rfl, rfl, rfl, by decide +kernel, rfl, by decide +kernel, by decide +kernel⟩
section
variable {K : PySem.W.Frag} {mg : Str → Option Value}
theorem b_are_numbers (T : Txt K mg) : Binds K (fdOf K ("are_numbers", none)) ["thing"] [] := T.are_numbers.bindsN fun _ _ _ _ _ _ us hl => match us, hl with | [_], _ => rfl
end
def sp_are_numbers (K : PySem.W.Frag) : Sp := fun vs H Q _ => ∃ (x : V) (d : PyData), vs = [x] ∧ Dp K H x d ∧ (∀ ds, d = .tuple ds → ds.length ≤ 1000000) ∧ ∀ H', Same H H' → Q (.bl (areNums d)) H'
theorem ok_are_numbers {P : Program} {w : World} {K : PySem.W.Frag} {mg : Str → Option Value} {base : Heap} (T : Txt K mg) : OkF P w K mg base CX0 1 ("are_numbers", none) ["thing"] (sp_are_numbers K) := by
  refine okN T.are_numbers sc_are_numbers (fun vs H Q E h => ?_) (fun cdv A outer s H vs Q E hr h => ?_)
  · obtain ⟨x, d, rfl, _⟩ := h
    rfl
  · obtain ⟨x, d, rfl, hd, hl, q⟩ := h
    refine ⟨_, (pss_cons (ps_if (pt_not (pt_val (pe_callB call_isi (by rfl) T.b_isinstance (by decide +kernel) (pa_cons (pv 0) (pa_cons (pe_bltn (v := .ty "tuple") (by rfl) T.b_tuple (by decide +kernel) rfl) pa_nil))))) (pss_one (ps_ret pe_bl)) pss_nil)
      (pss_one (ps_ret (pe_callB (cr_all rfl) (by rfl) T.b_all (by decide +kernel) (pa_cons (pe_lc (own := [("one", 1)]) (g := (gName 1)) (tt := tYes)  (by rfl) sc_are_numbers.nd (pi_tup (pv 0)) (blkOk_by (own := [("one", 1)]) (N := ["thing", "one"]) (sc := defScope s_are_numbers) (by decide +kernel)) (fun _ _ _ _ _ => (pg_name (i := 1) sc_are_numbers.nd rfl (by first | exact Or.inl rfl | exact Or.inr rfl))) (fun _ _ _ _ _ => pts_nil) (fun _ _ _ _ _ => (pe_and (pe_callB (r := rIsi K) call_isi (by rfl) T.b_isinstance (by decide +kernel) (pa_cons (pv 1) (pa_cons (pe_bltn (v := .ty "int") (by rfl) T.b_int (by decide +kernel) rfl) pa_nil))) (pe_and (pe_not (pe_callB (r := rIsi K) call_isi (by rfl) T.b_isinstance (by decide +kernel) (pa_cons (pv 1) (pa_cons (pe_bltn (v := .ty "bool") (by rfl) T.b_bool (by decide +kernel) rfl) pa_nil)))) (pe_one (pe_cmpR op_ge (pv 1) pe_int (nomark _))))))) pa_nil))))), ?_⟩
    refine ⟨_, rfl, _, _, _, _, _, rfl, .ty _, dp_ty hd, kit_tup d, _, rfl, ?_⟩
    cases d with
    | tuple ds =>
      have hl := hl ds rfl
      have hsz : sizeLine = 16777216 := sizeLine_eq
      cases hd with
      | tup hs ha =>
        rename_i a vs
        refine iteF ⟨_, rfl, a, rfl, ⟨_, hs⟩, fun D hD => lc_tup (K := K) (a := a) (xs := vs) (fun i H' => Same H H' ∧ H' D = some (.lst (((ds.take i).map isNat0).map V.bl))) ⟨same_upd hD, ?_⟩ ?_ ?_ ?_⟩
        · rw [upd_same]
          rfl
        · rintro i H' _ ⟨s, _⟩
          exact same_sqt s hs
        · rintro i v H' hv ⟨s, e⟩
          obtain ⟨d, hd, hvd⟩ := dpa_at ha hv
          have hvd' := dp_same s hvd
          have fin : ∀ b : Bool, isNat0 d = b → ∃ acc, H' D = some (.lst acc) ∧ acc.length < sizeLine ∧ Same H (upd H' D (.lst (acc ++ [V.bl b]))) ∧ (upd H' D (.lst (acc ++ [V.bl b]))) D = some (.lst (((ds.take (i + 1)).map isNat0).map V.bl)) := by
            intro b hb
            refine ⟨_, e, ?_, same_updR s hD, ?_⟩
            · rw [List.length_map, List.length_map, List.length_take]
              omega
            · rw [upd_same, take_at hd, List.map_append, List.map_append, ← hb]
              rfl
          refine ⟨rfl, _, rfl, _, _, _, _, _, rfl, .ty _, dp_ty hvd', kit_int d, _, rfl, ?_⟩
          cases d with
          | int n =>
            cases hvd
            refine iteT ⟨_, rfl, _, _, _, _, _, rfl, .ty _, dp_ty (.int n), kit_bool (.int n), _, rfl, _, rfl, iteT ⟨_, rfl, _, _, rfl, rfl, fin _ rfl⟩⟩
          | bool b =>
            cases hvd
            refine iteT ⟨_, rfl, _, _, _, _, _, rfl, .ty _, dp_ty (.bl b), kit_bool (.bool b), _, rfl, _, rfl, iteF (fin false rfl)⟩
          | _ => exact iteF (fin false rfl)
        · rintro H1 ⟨s1, e1⟩
          rw [dpa_len ha, List.take_length] at e1
          refine ⟨D, _, rfl, .of e1, ?_⟩
          have e2 : (ds.map isNat0).all id = areNums (.tuple ds) := by
            show _ = ds.all isNat0
            rw [List.all_map]
            rfl
          rw [e2]
          exact q _ s1
    | _ => exact iteT (q _ (Same.refl _))
section
variable {X : Cx}
/-- a def run within, around A' -/
theorem run_at {n : Nat} {f : Addr} {fd : FuncData} {ps : List Str} {sp : Sp} {pins : List (Addr × Obj)} {σ : L2.St} {H : Hp} {s : Shared} {A' : Around} {vs : List V} {us : List Value} {Q : VK} {E : XK} {E' : Value → Shared → Prop}
    (F : FnOk X.prog X.w X.K X.mg X.base CX0 n f fd ps sp) (hb : Binds X.K fd ps []) (I : Inv X pins σ H s) (hr : Room n A') (hf : A'.frames = X.A.frames) (rv : Vals vs us) (hsp : sp vs H Q E) :
    wpAny (model X.prog X.w) A' (call (.ref f) us) (EP X pins σ Q) E' s := by
  have e0 : Env0 X.prog X.w X.K X.mg X.base A' X.stack s H := by
    have e := I.env0
    exact ⟨by rw [hf]; exact e.frames, e.mod, e.bs, e.bsz, e.funs, e.frf, e.hok, e.bare⟩
  have hl := F.len _ _ _ _ hsp
  have hl2 := rv.length
  refine wpAny_call (codeAny_mono (F.run A' X.stack s H ⟨us, []⟩ us vs Q E hr e0 (by
    have := hb s us I.kIn (by simp; omega)
    simpa using this) rv hsp) fun r s' hq => ?_)
  cases r with
  | error e => exact hq.elim
  | ok fl =>
    cases fl with
    | ret w => exact I.after hq
    | next => exact False.elim hq
    | brk => exact False.elim hq
    | cont => exact False.elim hq
end
section
open PySem.W
variable {prog : Program} {w : World} {A : Around} {E : Value → Shared → Prop} {s : Shared} {K : Frag} {x C f : Addr} {ox : Obj} {od : Option Obj} {b tb : Value}
/-- a built-in slot of an object of a class of K, by its name, bound -/
theorem slot_bound {M : Model} {self : Value} {name : PySem.Str} {id : String} {args : List Value} {Q : Option Value → Shared → Prop} (sp : Looks M s.heap (specialOf self name) (some (.builtin id))) (hb : bindSpecial (.builtin id) self = pure (.builtin id, [self]))
    (hc : wpAny M A (call (.builtin id) ([self] ++ args)) (fun v => Q (some v)) E s) : wpAny M A (callSpecialIfBound? self name args) Q E s := by
  simp only [callSpecialIfBound?, bindSpecialIfBound?]
  refine wpAny_holding (wpAny_bind (wpAny_bind (sp.here ?_)))
  refine wpAny_bind (wpAny_askSetting (wpAny_ite ?_))
  have fin : wpAny M A (call (.builtin id) ([self] ++ args) >>= fun v => pure (some v)) Q E s := wpAny_bind (wpAny_mono hc (fun v s' h' => wpAny_pure h') fun _ _ h' => h')
  split
  · exact wpAny_bind (wpAny_of_eq hb (wpAny_pure (by exact fin)))
  · exact wpAny_tryCatch (wpAny_bind (wpAny_of_eq hb (wpAny_pure (by exact fin))))
/-- x != b where only == is one's own -/
theorem ne_K {Q : Value → Shared → Prop} (hu : A.units + 1 < cLine) (X : K.In s.heap) (I : InstAt s.heap x ox C od) (hb : Looks (model prog w) s.heap (typeOf b) tb) (hn : notFirst K C tb = true)
    (hs : findIn K (.ref C) "__ne__" = some (some (.builtin "object.__ne__"))) (hm : mroIn K C (.type "object") = some true) (he : findIn K (.ref C) "__eq__" = some (some (.ref f))) (hf : isFn K (.ref f) = true)
    (h : wpAny (model prog w) A.in1 (call (.ref f) [.ref x, b]) (fun v s' => ∃ k, v = .bool k ∧ Q (.bool (!k)) s') E s) : wpAny (model prog w) A (richCompare .NotEq (.ref x) b) Q E s := by
  have body : wpAny (model prog w) A.in1 (Builtin.«object.__ne__» ⟨[.ref x, b], []⟩) (fun fin s' => ∃ v, fin = .done (.ret v) ∧ v ≠ .notImplemented ∧ Q v s') E s := by
    unfold Builtin.«object.__ne__»
    repeat (first
      | with_reducible refine wpAny_cRoomFor hu ?_
      | (refine wpAny_bind (m := callSpecialIfBound? (.ref x) (Str.ofString "__eq__") [b])
          (ifBound_K X I he hf (wpAny_mono h (fun r s' hr => by
            obtain ⟨k, rfl, hq⟩ := hr
            repeat (first | exact ⟨_, rfl, by simp, hq⟩ | exact wpAny_pure ⟨_, rfl, by simp, hq⟩ | exact wpAny_truthy_bool ⟨_, rfl, by simp, hq⟩ | (refine wpAny_bind (m := truthy (.bool _)) (wpAny_truthy_bool ?_)) | wp_step)) fun _ _ e => e)))
      | wp_step)
  have one : wpAny (model prog w) A (tryCompare (.ref x) "__ne__" b) (fun r s' => ∃ v, r = some v ∧ Q v s') E s := by
    unfold tryCompare
    refine wpAny_bind (slot_bound (I.type.andThen (looks_findIn X hs)) (PySem.F.cmp_object.ne.bind _) (wpAny_call (codeAny_call_builtin PySem.F.cmp_object.ne.plain PySem.F.cmpEntry_ne
      (check_slot (i := "object.__ne__") (owner := "object") (n := "__ne__") PySem.F.cmpKind_ne PySem.F.cmpSplit_ne (I.type.andThen (looks_mroIn X hm)) (PySem.F.cmpArgs_ne _ _) (wpAny_mono body (fun fin s' z => ?_) fun _ _ e => e)))))
    obtain ⟨v, rfl, nv, hq⟩ := z
    cases v <;> first | exact absurd rfl nv | exact wpAny_pure ⟨_, rfl, hq⟩
  unfold richCompare
  simp only [oneThing_ref]
  refine wpAny_holding (wpAny_bind (wpAny_cRoomFor (by omega) ?_))
  refine wpAny_bind (I.type.here (wpAny_bind (hb.here ?_)))
  split
  · rename_i q
    have e : subIn K tb (.ref C) = some false := by
      rcases Bool.or_eq_true_iff.mp hn with e | e
      · rw [beq_iff_eq.mp e] at q; simp at q
      · exact beq_iff_eq.mp e
    refine wpAny_bind ((looks_subIn X e).here ?_)
    simp only [Bool.false_eq_true, if_false]
    refine wpAny_bind (wpAny_mono one (fun r s' z => ?_) fun _ _ e => e)
    obtain ⟨v, rfl, hq⟩ := z
    exact wpAny_pure hq
  · refine wpAny_bind (wpAny_pure ?_)
    simp only [Bool.false_eq_true, if_false]
    refine wpAny_bind (wpAny_mono one (fun r s' z => ?_) fun _ _ e => e)
    obtain ⟨v, rfl, hq⟩ := z
    exact wpAny_pure hq
end
theorem sc_Part_len : FnScope ["self"] ["self"] (defScope s_Part_len) := ⟨rfl, rfl, rfl, by decide +kernel, rfl, by decide +kernel, by decide +kernel⟩
section
variable {K : PySem.W.Frag} {mg : Str → Option Value}
theorem b_Part_len (T : Txt K mg) : Binds K (fdOf K ("Part", some "__len__")) ["self"] [] := T.Part_len.bindsN fun _ _ _ _ _ _ us hl => match us, hl with | [_], _ => rfl
end
def sp_Part_len (K : PySem.W.Frag) : Sp := fun vs H Q _ => ∃ (p q : Addr) (bs : List Bar) (past : List (List Bar)), vs = [.ref p] ∧ PartX K H p q bs past ∧ Q (.int (bs.length : Nat)) H
theorem ok_Part_len {P : Program} {w : World} {K : PySem.W.Frag} {mg : Str → Option Value} {base : Heap} (T : Txt K mg) : OkF P w K mg base CX0 1 ("Part", some "__len__") ["self"] (sp_Part_len K) := by
  refine okN T.Part_len sc_Part_len (fun vs H Q E h => ?_) (fun cdv A outer s H vs Q E hr h => ?_)
  · obtain ⟨p, q, bs, past, rfl, _⟩ := h
    rfl
  · obtain ⟨p, q, bs, past, rfl, hp, k⟩ := h
    obtain ⟨dx, r, ws, h1, n, ⟨vs, h2, h3⟩, _⟩ := hp
    refine ⟨_, (pss_one (ps_ret (pe_callB call_len (by rfl) T.b_len PySem.boot_len (pa_cons (pe_fld (pv 0) rfl) pa_nil)))), ?_⟩
    refine ⟨_, rfl, p, _, dx, _, _, rfl, h1, T.cl_Part, T.n_row, pf_row, _, _, rfl, .inl ⟨_, .of h2, rfl⟩, ?_⟩
    rw [bars_len h3]
    exact k
section
variable {X : Cx}
def rLenP (K : PySem.W.Frag) (sp : Sp) : List V → Hp → VK → Prop := fun xs H Q => ∃ p dx fs, xs = [.ref p] ∧ H p = some (.ins (pC K) dx fs) ∧ sp [.ref p] H (fun v H' => ∃ n : Nat, v = .int (n : Int) ∧ n < 1000000 ∧ Q (.int (n : Int)) H') E0
theorem call_lenP {n : Nat} {sp : Sp} (T : Txt X.K X.mg) (F : FnOk X.prog X.w X.K X.mg X.base CX0 n (He.fAd X.K ("Part", some "__len__")) (fdOf X.K ("Part", some "__len__")) ["self"] sp) (hr : Room (n + 1) X.A) : CallR X (.builtin "len") (rLenP X.K sp) := by
  intro pins s σ H xs us Q I r h
  obtain ⟨p, dx, fs, rfl, hp, hs⟩ := h
  obtain ⟨u, rfl, e⟩ := vals1 r
  cases e
  obtain ⟨mA, J, _⟩ := ins_get I.hok hp
  obtain ⟨od, J, _⟩ := J.look
  obtain ⟨m, hF⟩ := I.fr
  refine PySem.W.len_K hF I.ok.mod.kin J T.m_Part_len.at_ T.m_Part_len.fn ?_
  refine wpAny_mono (run_at (vs := [.ref p]) (Q := fun v H' => ∃ n : Nat, v = .int (n : Int) ∧ n < 1000000 ∧ Q (.int (n : Int)) H') (E := E0) F (b_Part_len T) I hr.in1 rfl (.cons rfl .nil) hs) (fun r s' z => ?_) fun _ _ z => z
  obtain ⟨v', H', I', r', b, rfl, hb, q⟩ := z
  obtain ⟨t, rfl⟩ := r'
  exact ⟨⟨by omega, by omega⟩, .int (b : Int), H', I'.tok _, ⟨_, rfl⟩, q⟩
end
theorem sc_fault_of : FnScope ["part", "desk", "thing", "page", "found"] ["part", "desk", "thing"] (defScope s_fault_of) := ⟨rfl, rfl, rfl, by decide +kernel, rfl, by decide +kernel, by decide +kernel⟩
section
variable {K : PySem.W.Frag} {mg : Str → Option Value}
theorem b_fault_of (T : Txt K mg) : Binds K (fdOf K ("fault_of", none)) ["part", "desk", "thing"] [] := T.fault_of.bindsN fun _ _ _ _ _ _ us hl => match us, hl with | [_, _, _], _ => rfl
end
def sp_fault_of (K : PySem.W.Frag) : Sp := fun vs H Q _ => ∃ (p q : Addr) (bs : List Bar) (past : List (List Bar)) (x y : V) (k : Desk) (d : PyData), vs = [.ref p, x, y] ∧ PartX K H p q bs past ∧ Dp K H x (deskD k) ∧ Dp K H y d ∧ (∀ ds, d = .tuple ds → ds.length ≤ 1000000) ∧ bs.length ≤ 1000 ∧
  ∀ v H', Same H H' → Dp K H' v (faultD (faultG bs k d)) → Q v H'
theorem ok_fault_of {P : Program} {w : World} {K : PySem.W.Frag} {mg : Str → Option Value} {base : Heap} (T : Txt K mg) : OkF P w K mg base CX0 6 ("fault_of", none) ["part", "desk", "thing"] (sp_fault_of K) := by
  refine okN T.fault_of sc_fault_of (fun vs H Q E h => ?_) (fun cdv A outer s H vs Q E hr h => ?_)
  · obtain ⟨p, q, bs, past, x, y, k, d, rfl, _⟩ := h
    rfl
  · obtain ⟨p, q, bs, past, x, y, k, d, rfl, hp, hx, hy, hd, hlen, z⟩ := h
    have form : ∀ H1, Same H H1 → faultG bs k d = some .form → ∀ c, H1 c = none → Q (.ref c) (upd H1 c (.tup [.str (Str.ofString "form")])) := by
      intro H1 s1 e c nc
      rw [e] at z
      exact z _ _ (s1.trans (same_upd nc)) (.tup (.of upd_same) (.cons (.str _) .nil))
    refine ⟨_, (pss_cons (ps_if (PW.pt (pw_or (pt_not (pt_val (pe_call (ok_are_numbers T) (hr.mono (by decide)) (by rfl) T.g_are_numbers T.are_numbers.kp (b_are_numbers T) .nil pass0 (pa_cons (pv 2) pa_nil)))) (pw_or1 (pt_cmpR op_ne (pe_callB (cr_sumT rfl) (by rfl) T.b_sum (by decide +kernel) (pa_cons (pv 2) pa_nil)) (pe_callB (call_lenP T (ok_Part_len T) (hr.mono (by decide))) (by rfl) T.b_len PySem.boot_len (pa_cons (pv 0) pa_nil)) (nomark _))))) (pss_one (ps_ret (pe_tup (pa_cons pe_str pa_nil)))) pss_nil)
      (pss_cons (ps_for PassesOwn.never rfl (pi_range1 (by rfl) T.b_range (pa_cons (pe_callB call_len (by rfl) T.b_len PySem.boot_len (pa_cons (pv 2) pa_nil)) pa_nil)) (pg_name (i := 3) sc_fault_of.nd rfl (by first | exact Or.inl rfl | exact Or.inr rfl))
      (pss_cons (ps_set (i := 4) sc_fault_of.nd rfl (by first | exact Or.inl rfl | exact Or.inr rfl) (pe_call (ok_page_fault T) (hr.mono (by decide)) (by rfl) T.g_page_fault T.page_fault.kp (b_page_fault T) .nil pass0 (pa_cons (pv 0) (pa_cons (pv 1) (pa_cons (pv 2) (pa_cons (pv 3) pa_nil))))))
      (pss_one (ps_if (pt_cmp (pc_notN (pv 4))) (pss_one (ps_ret (pv 4))) pss_nil))))
      (pss_one (ps_ret pe_non)))), ?_⟩
    refine ⟨_, rfl, _, d, rfl, hy, hd, fun H1 s1 => ⟨_, rfl, ?_⟩⟩
    cases ha : areNums d with
    | false =>
      have e : faultG bs k d = some .form := by
        unfold faultG
        rw [ha, if_neg Bool.false_ne_true]
      exact iteT ⟨by show (1 : Nat) ≤ sizeLine; decide, form _ s1 e⟩
    | true =>
      have hG : faultG bs k d = faultN bs k (natsOf d) := by
        unfold faultG
        rw [ha, if_pos rfl]
      obtain ⟨ns, rfl⟩ : ∃ ns, d = .tuple (numsD ns) := by
        cases d with
        | tuple ds =>
          obtain ⟨ns, rfl⟩ := nums_of_are ha
          exact ⟨ns, rfl⟩
        | _ => cases ha
      rw [natsOf_nums] at hG
      have hnl := hd _ rfl
      rw [List.length_map] at hnl
      obtain ⟨t, rfl, ht⟩ := dp_nums hy
      have hp1 := hp.same s1
      obtain ⟨dx, r, ws, h1, _⟩ := id hp1
      have ht1 := same_sqt s1 ht
      rw [numsV_ints] at ht1
      refine iteF ⟨_, rfl, t, _, rfl, ht1, _, rfl, p, dx, _, rfl, h1, p, q, bs, past, rfl, hp1, bs.length, rfl, by omega, rfl, _, rfl, ?_⟩
      rw [numsV_sum]
      refine ite2NQ (fun hne => ?_) (fun heq => ?_)
      · have e : faultG bs k (.tuple (numsD ns)) = some .form := by
          rw [hG]
          unfold faultN
          rw [if_neg (by omega)]
        exact ⟨by show (1 : Nat) ≤ sizeLine; decide, form _ s1 e⟩
      · have hsum : ns.sum = bs.length := by omega
        have hG2 : faultG bs k (.tuple (numsD ns)) = faultFrom bs k ns 0 ns.length := by
          rw [hG]
          unfold faultN
          rw [if_pos hsum]
        rw [hG2] at z
        refine ⟨_, rfl, _, _, rfl, .inr ⟨_, same_sqt s1 ht, rfl⟩, _, rfl, by omega, ?_, ?_⟩
        · rw [List.length_map]
          omega
        rw [List.length_map]
        refine for_range (lo := 0) (n := ns.length) (fun i σ H' => Same H H' ∧ (∃ y4 y3, σ = [some (.ref p), some x, some (.ref t), y3, y4]) ∧ (∀ v H'', Same H H'' → Dp K H'' v (faultD (faultFrom bs k ns i (ns.length - i))) → Q v H'')) ⟨s1, ⟨none, none, rfl⟩, z⟩ ?_ ?_
        · rintro i σ H2 hi ⟨s2, ⟨y4, y3, rfl⟩, z2⟩
          rw [Int.zero_add]
          rw [show ns.length - i = (ns.length - (i + 1)) + 1 by omega, faultFrom_step] at z2
          refine ⟨_, rfl, _, rfl, _, rfl, _, rfl, p, q, bs, past, x, .ref t, k, ns, i, rfl, hp.same s2, dp_same s2 hx, dp_same s2 hy, hi, hsum, hlen, fun v H3 s3 hv => ?_⟩
          refine ⟨_, rfl, _, rfl, ?_⟩
          cases hpf : pageFault bs k ns i with
          | none =>
            rw [hpf] at hv z2
            have e := dp_none hv
            subst e
            exact iteF ⟨s2.trans s3, ⟨_, _, rfl⟩, z2⟩
          | some wr =>
            rw [hpf] at hv z2
            have ne : (!decide (v = V.non)) = true := by
              rw [decide_eq_false (dp_wrong hv)]
              rfl
            rw [ne]
            exact iteT ⟨_, rfl, z2 _ _ (s2.trans s3) hv⟩
        · rintro σ H2 ⟨s2, ⟨y4, y3, rfl⟩, z2⟩
          rw [Nat.sub_self] at z2
          exact z2 _ _ s2 .non
theorem sc_need_layout : FnScope ["part", "desk", "thing", "found"] ["part", "desk", "thing"] (defScope s_need_layout) := ⟨rfl, rfl, rfl, by decide +kernel, rfl, by decide +kernel, by decide +kernel⟩
section
variable {K : PySem.W.Frag} {mg : Str → Option Value}
theorem b_need_layout (T : Txt K mg) : Binds K (fdOf K ("need_layout", none)) ["part", "desk", "thing"] [] := T.need_layout.bindsN fun _ _ _ _ _ _ us hl => match us, hl with | [_, _, _], _ => rfl
end
def sp_need_layout (K : PySem.W.Frag) : Sp := fun vs H Q _ => ∃ (p q : Addr) (bs : List Bar) (past : List (List Bar)) (x y : V) (k : Desk) (d : PyData), vs = [.ref p, x, y] ∧ PartX K H p q bs past ∧ Dp K H x (deskD k) ∧ DeskOk k ∧ Dp K H y d ∧ faultG bs k d = none ∧ (∀ ds, d = .tuple ds → ds.length ≤ 1000000) ∧ bs.length ≤ 1000 ∧ ∀ H', Same H H' → Q .non H'
theorem ok_need_layout {P : Program} {w : World} {K : PySem.W.Frag} {mg : Str → Option Value} {base : Heap} (T : Txt K mg) : OkF P w K mg base CX0 7 ("need_layout", none) ["part", "desk", "thing"] (sp_need_layout K) := by
  refine okN T.need_layout sc_need_layout (fun vs H Q E h => ?_) (fun cdv A outer s H vs Q E hr h => ?_)
  · obtain ⟨p, q, bs, past, x, y, k, d, rfl, _⟩ := h
    rfl
  · obtain ⟨p, q, bs, past, x, y, k, d, rfl, hp, hx, ok, hy, hf, hdl, hbl, z⟩ := h
    refine ⟨_, (pss_cons (ps_expr (pe_call (ok_need_desk T) (hr.mono (by decide)) (by rfl) T.g_need_desk T.need_desk.kp (b_need_desk T) .nil pass0 (pa_cons (pv 1) pa_nil)))
      (pss_cons (ps_set (i := 3) sc_need_layout.nd rfl (by first | exact Or.inl rfl | exact Or.inr rfl) (pe_call (ok_fault_of T) (hr.mono (by decide)) (by rfl) T.g_fault_of T.fault_of.kp (b_fault_of T) .nil pass0 (pa_cons (pv 0) (pa_cons (pv 1) (pa_cons (pv 2) pa_nil)))))
      (pss_one (ps_if (pt_cmp (pc_notN (pv 3))) pss_never pss_nil)))), ?_⟩
    refine ⟨_, rfl, x, k, rfl, hx, ok, ?_⟩
    refine ⟨_, rfl, _, rfl, _, rfl, p, q, bs, past, x, y, k, d, rfl, hp, hx, hy, hdl, hbl, fun v H' s' hv => ?_⟩
    rw [hf] at hv
    have ev : v = .non := dp_none hv
    subst ev
    exact ⟨_, rfl, _, rfl, iteF (z _ s')⟩
/-! ### repeats and the order that is played -/
def repD (r : Nat × Nat) : PyData := .tuple [.int (r.1 : Int), .int (r.2 : Int)]
def repV (r : Nat × Nat) : List V := [.int (r.1 : Int), .int (r.2 : Int)]
abbrev repsD (rs : List (Nat × Nat)) : List PyData := rs.map repD
def RepOk (n : Nat) : Nat → List (Nat × Nat) → Prop
  | _, [] => True
  | a, x :: r => a ≤ x.1 ∧ x.1 ≤ x.2 ∧ x.2 < n ∧ RepOk n (x.2 + 1) r
def rng (a b : Nat) : List Nat := List.range' a (b - a)
def orderOf (n : Nat) : Nat → List (Nat × Nat) → List Nat
  | a, [] => rng a n
  | a, x :: r => rng a (x.2 + 1) ++ rng x.1 (x.2 + 1) ++ orderOf n (x.2 + 1) r
theorem rng_V (a b : Nat) : rgV (a : Int) (b : Int) = numsV (rng a b) := by
  unfold rgV rng
  rw [show ((b : Int) - (a : Int)).toNat = b - a by omega, List.range'_eq_map_range]
  show _ = List.map _ (List.map _ _)
  rw [List.map_map]
  refine List.map_congr_left fun i _ => ?_
  show V.int ((a : Int) + (i : Int)) = V.int ((a + i : Nat) : Int)
  rw [Int.natCast_add]
theorem rng_len (a b : Nat) : (rng a b).length = b - a := List.length_range'
theorem rng_cons {a b : Nat} (h : a < b) : rng a b = a :: rng (a + 1) b := by
  unfold rng
  rw [show b - a = (b - (a + 1)) + 1 by omega, List.range'_succ]
theorem rng_nil {a b : Nat} (h : b ≤ a) : rng a b = [] := by
  unfold rng
  rw [show b - a = 0 by omega]
  rfl
theorem rng_app {a b c : Nat} (h1 : a ≤ b) (h2 : b ≤ c) : rng a b ++ rng b c = rng a c := by
  unfold rng
  rw [show c - a = (b - a) + (c - b) by omega]
  have := @List.range'_append a (b - a) (c - b) 1
  rw [Nat.one_mul, show a + (b - a) = b by omega] at this
  exact this
theorem rng_count (a b k : Nat) : (rng a b).count k = if a ≤ k ∧ k < b then 1 else 0 := by
  induction h : b - a generalizing a with
  | zero =>
    rw [rng_nil (by omega), if_neg (by omega)]
    rfl
  | succ m ih =>
    rw [rng_cons (by omega), List.count_cons, ih (a + 1) (by omega)]
    by_cases e : a = k
    · subst e
      rw [if_neg (show ¬ (a + 1 ≤ a ∧ a < b) by omega), if_pos (show a ≤ a ∧ a < b by omega)]
      simp
    · rw [show (a == k) = false from beq_eq_false_iff_ne.mpr e]
      by_cases h2 : a ≤ k ∧ k < b
      · rw [if_pos (show a + 1 ≤ k ∧ k < b by omega), if_pos h2]
        rfl
      · rw [if_neg (show ¬ (a + 1 ≤ k ∧ k < b) by omega), if_neg h2]
        rfl
theorem order_len {n : Nat} : ∀ {rs : List (Nat × Nat)} {a : Nat}, RepOk n a rs → (orderOf n a rs).length ≤ 2 * (n - a)
  | [], a, _ => by
    show (rng a n).length ≤ _
    rw [rng_len]
    omega
  | x :: r, a, h => by
    obtain ⟨h1, h2, h3, h4⟩ := h
    have := order_len h4
    show (rng a (x.2 + 1) ++ rng x.1 (x.2 + 1) ++ orderOf n (x.2 + 1) r).length ≤ _
    rw [List.length_append, List.length_append, rng_len, rng_len]
    omega
theorem order_count {n k : Nat} (hk : k < n) : ∀ {rs : List (Nat × Nat)} {a : Nat}, RepOk n a rs → (orderOf n a rs).count k = (if a ≤ k then 1 else 0) + rs.countP fun x => decide (x.1 ≤ k) && decide (k ≤ x.2)
  | [], a, _ => by
    show (rng a n).count k = _ + 0
    rw [rng_count]
    by_cases h : a ≤ k
    · rw [if_pos ⟨h, hk⟩, if_pos h]
    · rw [if_neg (fun e => h e.1), if_neg h]
  | x :: r, a, h => by
    obtain ⟨h1, h2, h3, h4⟩ := h
    have ih := order_count hk h4
    show (rng a (x.2 + 1) ++ rng x.1 (x.2 + 1) ++ orderOf n (x.2 + 1) r).count k = _
    rw [List.count_append, List.count_append, ih, rng_count, rng_count, List.countP_cons]
    by_cases c1 : a ≤ k
    · by_cases c2 : k ≤ x.2
      · rw [if_pos (⟨c1, by omega⟩ : a ≤ k ∧ k < x.2 + 1), if_pos c1, if_neg (by omega : ¬ x.2 + 1 ≤ k)]
        by_cases c3 : x.1 ≤ k
        · rw [if_pos (⟨c3, by omega⟩ : x.1 ≤ k ∧ k < x.2 + 1), if_pos (by simp [c2, c3])]
          omega
        · rw [if_neg (fun e => c3 e.1), if_neg (by simp [c3])]
          omega
      · rw [if_neg (by omega : ¬ (a ≤ k ∧ k < x.2 + 1)), if_pos c1, if_neg (by omega : ¬ (x.1 ≤ k ∧ k < x.2 + 1)), if_pos (by omega : x.2 + 1 ≤ k), if_neg (by simp [c2])]
        omega
    · rw [if_neg (fun e => c1 e.1), if_neg c1, if_neg (by omega : ¬ (x.1 ≤ k ∧ k < x.2 + 1)), if_neg (by omega : ¬ x.2 + 1 ≤ k), if_neg (by simp; omega)]
      omega
theorem order_mem {n : Nat} : ∀ {rs : List (Nat × Nat)} {a : Nat}, RepOk n a rs → ∀ k ∈ orderOf n a rs, k < n
  | [], a, _, k, hk => by
    have h : k ∈ List.range' a (n - a) := hk
    rw [List.mem_range'_1] at h
    omega
  | x :: r, a, h, k, hk => by
    obtain ⟨h1, h2, h3, h4⟩ := h
    have hk2 : k ∈ List.range' a (x.2 + 1 - a) ++ List.range' x.1 (x.2 + 1 - x.1) ++ orderOf n (x.2 + 1) r := hk
    rw [List.mem_append, List.mem_append, List.mem_range'_1, List.mem_range'_1] at hk2
    rcases hk2 with (hk2 | hk2) | hk2
    · omega
    · omega
    · exact order_mem h4 k hk2
/-- on the way: at or ahead of the first repeat's end -/
def RepIn (n a : Nat) : List (Nat × Nat) → Prop
  | [] => True
  | x :: r => a ≤ x.2 ∧ x.1 ≤ x.2 ∧ x.2 < n ∧ RepOk n (x.2 + 1) r
theorem RepOk.in {n a : Nat} {rs : List (Nat × Nat)} (h : RepOk n a rs) : RepIn n a rs := by
  cases rs with
  | nil => trivial
  | cons x r =>
    obtain ⟨h1, h2, h3, h4⟩ := h
    exact ⟨by omega, h2, h3, h4⟩
theorem RepOk.down {n a b : Nat} {rs : List (Nat × Nat)} (h : RepOk n a rs) (hb : b ≤ a) : RepOk n b rs := by
  cases rs with
  | nil => trivial
  | cons x r =>
    obtain ⟨h1, h2, h3, h4⟩ := h
    exact ⟨by omega, h2, h3, h4⟩
theorem order_down {n a b : Nat} {rs : List (Nat × Nat)} (h : RepOk n a rs) (hb : b ≤ a) (ha : a ≤ n) : orderOf n b rs = rng b a ++ orderOf n a rs := by
  cases rs with
  | nil => exact (rng_app hb ha).symm
  | cons x r =>
    obtain ⟨h1, h2, h3, h4⟩ := h
    show rng b (x.2 + 1) ++ rng x.1 (x.2 + 1) ++ orderOf n (x.2 + 1) r = rng b a ++ (rng a (x.2 + 1) ++ rng x.1 (x.2 + 1) ++ orderOf n (x.2 + 1) r)
    rw [← rng_app hb (show a ≤ x.2 + 1 by omega)]
    simp only [List.append_assoc]
theorem order_end {n : Nat} {x : Nat × Nat} {r : List (Nat × Nat)} (h : RepIn n x.2 (x :: r)) : orderOf n x.2 (x :: r) = x.2 :: orderOf n x.1 r ∧ RepIn n x.1 r := by
  obtain ⟨h1, h2, h3, h4⟩ := h
  refine ⟨?_, (h4.down (by omega)).in⟩
  rw [order_down h4 (show x.1 ≤ x.2 + 1 by omega) (by omega)]
  show rng x.2 (x.2 + 1) ++ rng x.1 (x.2 + 1) ++ orderOf n (x.2 + 1) r = _
  rw [rng_cons (Nat.lt_succ_self _), rng_nil (Nat.le_refl _), List.append_assoc]
  rfl
theorem order_next {n a : Nat} {rs : List (Nat × Nat)} (ha : a < n) (h : RepIn n a rs) (hn : ∀ x ∈ rs.head?, x.2 ≠ a) : orderOf n a rs = a :: orderOf n (a + 1) rs ∧ RepIn n (a + 1) rs := by
  cases rs with
  | nil => exact ⟨rng_cons ha, trivial⟩
  | cons x r =>
    obtain ⟨h1, h2, h3, h4⟩ := h
    have := hn x rfl
    refine ⟨?_, by omega, h2, h3, h4⟩
    show rng a (x.2 + 1) ++ rng x.1 (x.2 + 1) ++ orderOf n (x.2 + 1) r = a :: (rng (a + 1) (x.2 + 1) ++ rng x.1 (x.2 + 1) ++ orderOf n (x.2 + 1) r)
    rw [rng_cons (by omega)]
    rfl
theorem RepOk.lt {n : Nat} : ∀ {rs : List (Nat × Nat)} {a : Nat}, RepOk n a rs → ∀ x ∈ rs, a ≤ x.2 ∧ x.2 < n ∧ x.1 ≤ x.2 ∧ a ≤ x.1
  | [], _, _, _, hx => nomatch hx
  | y :: r, a, h, x, hx => by
    obtain ⟨h1, h2, h3, h4⟩ := h
    rcases List.mem_cons.mp hx with e | hx
    · subst e
      exact ⟨by omega, h3, h2, h1⟩
    · have := RepOk.lt h4 x hx
      exact ⟨by omega, this.2.1, this.2.2.1, by omega⟩
theorem RepOk.split {n : Nat} : ∀ {rs1 rs2 : List (Nat × Nat)} {a : Nat}, RepOk n a (rs1 ++ rs2) → ∀ x ∈ rs1, ∀ y ∈ rs2, x.2 < y.2
  | [], _, _, _, _, hx, _, _ => nomatch hx
  | z :: r, rs2, a, h, x, hx, y, hy => by
    obtain ⟨h1, h2, h3, h4⟩ := h
    rcases List.mem_cons.mp hx with e | hx
    · subst e
      have := RepOk.lt h4 y (List.mem_append_right _ hy)
      omega
    · exact RepOk.split h4 x hx y hy
/-- what ends at a place and is not done -/
theorem back_of {n a b : Nat} {rs1 rs2 : List (Nat × Nat)} {dn : Nat × Nat → Bool} (h : RepOk n b (rs1 ++ rs2)) (hd : ∀ x, dn x = true ↔ x ∈ rs1) (hi : RepIn n a rs2) :
    ((rs1 ++ rs2).filter fun x => decide (x.2 = a) && !dn x) = rs2.head?.toList.filter fun x => decide (x.2 = a) := by
  rw [List.filter_append]
  have e1 : (rs1.filter fun x => decide (x.2 = a) && !dn x) = [] := by
    rw [List.filter_eq_nil_iff]
    intro x hx
    rw [(hd x).mpr hx]
    simp
  rw [e1, List.nil_append]
  cases rs2 with
  | nil => rfl
  | cons y r =>
    obtain ⟨h1, h2, h3, h4⟩ := hi
    have ny : dn y = false := by
      cases e : dn y with
      | false => rfl
      | true =>
        have := h.split y ((hd y).mp e) y List.mem_cons_self
        omega
    have e2 : (r.filter fun x => decide (x.2 = a) && !dn x) = [] := by
      rw [List.filter_eq_nil_iff]
      intro x hx
      have := h4.lt x hx
      rw [decide_eq_false (by omega)]
      simp
    show List.filter _ (y :: r) = List.filter _ [y]
    rw [List.filter_cons, List.filter_cons, e2, ny]
    simp
/-- the repeats that end there, all of them -/
theorem ends_at {n b : Nat} {rs1 r : List (Nat × Nat)} {x : Nat × Nat} (h : RepOk n b (rs1 ++ x :: r)) (y : Nat × Nat) : y ∈ (rs1 ++ x :: r).filter (fun z => decide (z.2 = x.2)) ↔ y = x := by
  rw [List.mem_filter]
  constructor
  · rintro ⟨hy, e⟩
    have e2 : y.2 = x.2 := of_decide_eq_true e
    rcases List.mem_append.mp hy with hy | hy
    · have := h.split y hy x List.mem_cons_self
      omega
    · rcases List.mem_cons.mp hy with hy | hy
      · exact hy
      · have := RepOk.split (rs1 := rs1 ++ [x]) (rs2 := r) (by rw [List.append_assoc]; exact h) x (by simp) y hy
        omega
  · rintro rfl
    exact ⟨by simp, decide_eq_true rfl⟩
section
variable {K : PySem.W.Frag} {H : Hp}
theorem dp_rep {v : V} {x : Nat × Nat} (h : Dp K H v (repD x)) : ∃ p, v = .ref p ∧ SqT K H p (repV x) := by
  cases h with
  | tup s a =>
    obtain ⟨v0, v1, rfl, h0, h1⟩ := dpa2 a
    cases h0
    cases h1
    exact ⟨_, rfl, s⟩
theorem dp_rep_of {p : Addr} {x : Nat × Nat} (h : SqT K H p (repV x)) : Dp K H (.ref p) (repD x) := .tup h (.cons (.int _) (.cons (.int _) .nil))
theorem rep_at {vs : List V} {rs : List (Nat × Nat)} {i : Nat} {v : V} (h : DpAll K H vs (repsD rs)) (e : vs[i]? = some v) : ∃ x, rs[i]? = some x ∧ Dp K H v (repD x) := by
  obtain ⟨d, e1, hd⟩ := dpa_at h e
  rw [List.getElem?_map] at e1
  cases q : rs[i]? with
  | none =>
    rw [q] at e1
    cases e1
  | some x =>
    rw [q] at e1
    have e2 : repD x = d := Option.some.inj e1
    subst e2
    exact ⟨x, rfl, hd⟩
end
theorem isTs_reps : ∀ rs : List (Nat × Nat), isTs (repsD rs) = true
  | [] => rfl
  | x :: r => by
    show (isT (repD x) && isTs (repsD r)) = true
    rw [isTs_reps r]
    rfl
theorem shp_rep (x : Nat × Nat) : Shp 1 (repD x) := shp_tup (shpA_cons (shp_int _) (shpA_cons (shp_int _) shpA_nil))
theorem eqv_rep (x y : Nat × Nat) : PyData.eqv (repD x) (repD y) = true ↔ x = y := by
  obtain ⟨a, b⟩ := x
  obtain ⟨c, d⟩ := y
  simp [repD, PyData.eqv, PyData.eqvAll]
  omega
/-! ### the turnings of leaves -/
def pageOf : List Nat → Nat → Nat
  | [], _ => 0
  | n :: r, b => if b < n then 0 else pageOf r (b - n) + 1
theorem pageOf_eq : ∀ {ns : List Nat} {i b : Nat}, (ns.take i).sum ≤ b → b < (ns.take (i + 1)).sum → pageOf ns b = i
  | [], i, b, h1, h2 => by simp at h2
  | n :: r, 0, b, h1, h2 => by
    unfold pageOf
    have : b < n := by simpa using h2
    rw [if_pos this]
  | n :: r, i + 1, b, h1, h2 => by
    rw [List.take_succ_cons, List.sum_cons] at h1 h2
    unfold pageOf
    rw [if_neg (by omega), pageOf_eq (ns := r) (i := i) (b := b - n) (by omega) (by omega)]
structure Leaf where
  one : Nat
  other : Nat
  many : Nat
  time : Int
def leafD (x : Leaf) : PyData := .tuple [.int (x.one : Int), .int (x.other : Int), .int (x.many : Int), .int x.time]
def leafV (x : Leaf) : List V := [.int (x.one : Int), .int (x.other : Int), .int (x.many : Int), .int x.time]
def rightsIn (k : Desk) (lo hi : Nat) : Nat := ((List.range' lo (hi - lo)).filter (isRight k)).length
def leafOf (bs : List Bar) (k : Desk) (ns : List Nat) (p : Nat × Nat) : Leaf :=
  ⟨p.1, p.2, rightsIn k (min (pageOf ns p.1) (pageOf ns p.2)) (max (pageOf ns p.1) (pageOf ns p.2)), beatsOf (bs.take (p.1 + 1)).reverse + beatsOf (bs.drop p.2)⟩
def leavesP (bs : List Bar) (k : Desk) (ns : List Nat) (ps : List (Nat × Nat)) : List Leaf := (ps.map (leafOf bs k ns)).filter fun x => decide (0 < x.many)
def leavesL (bs : List Bar) (k : Desk) (ns : List Nat) (rs : List (Nat × Nat)) : List Leaf := leavesP bs k ns ((orderOf bs.length 0 rs).zip (orderOf bs.length 0 rs).tail)
def playsL (bs : List Bar) (k : Desk) (ns : List Nat) (rs : List (Nat × Nat)) : Bool := (leavesL bs k ns rs).all fun x => decide ((x.many : Int) * k.turn ≤ x.time)
theorem order_lt : ∀ {n a : Nat} {rs : List (Nat × Nat)}, RepOk n a rs → ∀ b ∈ orderOf n a rs, b < n
  | n, a, [], _, b, h => by
    have h' : b ∈ List.range' a (n - a) := h
    rw [List.mem_range'_1] at h'
    omega
  | n, a, x :: r, h, b, hb => by
    obtain ⟨h1, h2, h3, h4⟩ := h
    rcases List.mem_append.mp hb with hb | hb
    · rcases List.mem_append.mp hb with hb | hb
      · have h' : b ∈ List.range' a (x.2 + 1 - a) := hb
        rw [List.mem_range'_1] at h'
        omega
      · have h' : b ∈ List.range' x.1 (x.2 + 1 - x.1) := hb
        rw [List.mem_range'_1] at h'
        omega
    · exact order_lt h4 b hb
theorem leavesP_take {bs : List Bar} {k : Desk} {ns : List Nat} {ps : List (Nat × Nat)} {i : Nat} {p : Nat × Nat} (h : ps[i]? = some p) : leavesP bs k ns (ps.take (i + 1)) = leavesP bs k ns (ps.take i) ++ (if 0 < (leafOf bs k ns p).many then [leafOf bs k ns p] else []) := by
  unfold leavesP
  rw [take_at h, List.map_append, List.filter_append]
  congr 1
  rw [List.map_cons, List.map_nil, List.filter_cons]
  by_cases hm : 0 < (leafOf bs k ns p).many
  · rw [decide_eq_true hm, if_pos rfl, if_pos hm]
    rfl
  · rw [decide_eq_false hm, if_neg Bool.false_ne_true, if_neg hm]
    rfl
theorem leavesP_len (bs : List Bar) (k : Desk) (ns : List Nat) (ps : List (Nat × Nat)) : (leavesP bs k ns ps).length ≤ ps.length := by
  unfold leavesP
  refine Nat.le_trans (List.length_filter_le _ _) ?_
  rw [List.length_map]
  exact Nat.le_refl _
theorem isTs_leaves : ∀ l : List Leaf, isTs (l.map leafD) = true
  | [] => rfl
  | x :: r => by
    show (isT (leafD x) && isTs (r.map leafD)) = true
    rw [isTs_leaves r]
    rfl
theorem zip_tail {α : Type} (l : List α) : l.zip l.tail = l.zip (l.drop 1) := by rw [List.drop_one]
theorem sc_page_with : FnScope ["layout", "bar", "page", "end"] ["layout", "bar"] (defScope s_page_with) := ⟨rfl, rfl, rfl, by decide +kernel, rfl, by decide +kernel, by decide +kernel⟩
section
variable {K : PySem.W.Frag} {mg : Str → Option Value}
theorem b_page_with (T : Txt K mg) : Binds K (fdOf K ("page_with", none)) ["layout", "bar"] [] := T.page_with.bindsN fun _ _ _ _ _ _ us hl => match us, hl with | [_, _], _ => rfl
end
def sp_page_with (K : PySem.W.Frag) : Sp := fun vs H Q _ => ∃ (y : V) (ns : List Nat) (bar : Nat), vs = [y, .int (bar : Int)] ∧ Dp K H y (.tuple (numsD ns)) ∧ bar < ns.sum ∧ Q (.int ((pageOf ns bar : Nat) : Int)) H
theorem ok_page_with {P : Program} {w : World} {K : PySem.W.Frag} {mg : Str → Option Value} {base : Heap} (T : Txt K mg) : OkF P w K mg base CX0 1 ("page_with", none) ["layout", "bar"] (sp_page_with K) := by
  refine okN T.page_with sc_page_with (fun vs H Q E h => ?_) (fun cdv A outer s H vs Q E hr h => ?_)
  · obtain ⟨y, ns, bar, rfl, _⟩ := h
    rfl
  · obtain ⟨y, ns, bar, rfl, hy, hb, z⟩ := h
    obtain ⟨t, rfl, ht⟩ := dp_nums hy
    have h0 : 0 < ns.length := by
      cases ns with
      | nil => simp at hb
      | cons a r => simp
    refine ⟨_, (pss_cons (ps_par (by rfl) sc_page_with.nd (i := 2) (j := 3) rfl rfl (by decide) rfl rfl (pa_cons pe_int (pa_cons (pe_ix ix_tup (pv 0) pe_int (fun _ _ => rfl)) pa_nil)) (by rfl))
      (pss_cons (ps_while PassesOwn.never (pt_cmpR op_ge (pv 1) (pv 3) (nomark _))
      (pss_cons (ps_set (i := 2) sc_page_with.nd rfl (by first | exact Or.inl rfl | exact Or.inr rfl) (pe_op op_add (pv 2) pe_int))
      (pss_one (ps_set (i := 3) sc_page_with.nd rfl (by first | exact Or.inl rfl | exact Or.inr rfl) (pe_op op_add (pv 3) (pe_ix ix_tup (pv 0) (pv 2) (fun _ _ => rfl)))))))
      (pss_one (ps_ret (pv 2))))), ?_⟩
    refine ⟨_, rfl, t, _, _, _, rfl, rfl, ht, atI_nat (numsV_at h0), _, _, rfl, ?_⟩
    refine ⟨fun m σ H' => H = H' ∧ ∃ i : Nat, i < ns.length ∧ (ns.take i).sum ≤ bar ∧ σ = [some (.ref t), some (.int (bar : Int)), some (.int (i : Int)), some (.int (((ns.take (i + 1)).sum : Nat) : Int))] ∧ m = ns.length - i, ⟨_, rfl, 0, h0, Nat.zero_le _, ?_, rfl⟩, ?_⟩
    · cases ns with
      | nil => simp at hb
      | cons a r =>
        simp
        rfl
    rintro m σ H2 ⟨rfl, i, hi, hs, rfl, hm⟩
    refine ⟨_, rfl, _, rfl, _, _, rfl, rfl, _, rfl, ?_⟩
    refine ite2P (fun hge => ?_) (fun hlt => ?_)
    · have hi1 : i + 1 < ns.length := by
        rcases Nat.lt_or_ge (i + 1) ns.length with h | h
        · exact h
        · rw [List.take_of_length_le h] at hge
          omega
      refine ⟨fun σ' H' => ∃ m', m' < m ∧ H = H' ∧ ∃ i : Nat, i < ns.length ∧ (ns.take i).sum ≤ bar ∧ σ' = [some (.ref t), some (.int (bar : Int)), some (.int (i : Int)), some (.int (((ns.take (i + 1)).sum : Nat) : Int))] ∧ m' = ns.length - i, fun _ _ h => h, ?_⟩
      have hat : atI (numsV ns) ((i : Int) + 1) = some (.int ((ns.getD (i + 1) 0 : Nat) : Int)) := by
        rw [show ((i : Int) + 1) = ((i + 1 : Nat) : Int) by omega]
        exact atI_nat (numsV_at hi1)
      refine ⟨_, rfl, _, _, rfl, rfl, _, rfl, _, rfl, _, rfl, t, _, _, _, rfl, rfl, ht, hat, _, _, rfl, rfl, ?_⟩
      refine ⟨ns.length - (i + 1), by omega, rfl, i + 1, hi1, by omega, ?_, rfl⟩
      have e : (ns.take (i + 1 + 1)).sum = (ns.take (i + 1)).sum + ns.getD (i + 1) 0 := by
        rw [List.take_add_one, List.sum_append, List.getD_eq_getElem?_getD]
        cases ns[i + 1]? <;> simp
      rw [e]
      rfl
    · refine ⟨_, rfl, ?_⟩
      rw [pageOf_eq hs (by omega)] at z
      exact z
theorem sc_page_of : FnScope ["part", "desk", "layout", "bar"] ["part", "desk", "layout", "bar"] (defScope s_page_of) := ⟨rfl, rfl, rfl, by decide +kernel, rfl, by decide +kernel, by decide +kernel⟩
section
variable {K : PySem.W.Frag} {mg : Str → Option Value}
theorem b_page_of (T : Txt K mg) : Binds K (fdOf K ("page_of", none)) ["part", "desk", "layout", "bar"] [] := T.page_of.bindsN fun _ _ _ _ _ _ us hl => match us, hl with | [_, _, _, _], _ => rfl
end
def sp_page_of (K : PySem.W.Frag) : Sp := fun vs H Q _ => ∃ (p q : Addr) (bs : List Bar) (past : List (List Bar)) (x y : V) (k : Desk) (ns : List Nat) (bar : Nat), vs = [.ref p, x, y, .int (bar : Int)] ∧ PartX K H p q bs past ∧ Dp K H x (deskD k) ∧ DeskOk k ∧ Dp K H y (.tuple (numsD ns)) ∧ faultG bs k (.tuple (numsD ns)) = none ∧ ns.length ≤ 1000000 ∧ bs.length ≤ 1000 ∧ bar < bs.length ∧ ns.sum = bs.length ∧
  ∀ H', Same H H' → Q (.int ((pageOf ns bar : Nat) : Int)) H'
theorem ok_page_of {P : Program} {w : World} {K : PySem.W.Frag} {mg : Str → Option Value} {base : Heap} (T : Txt K mg) : OkF P w K mg base CX0 8 ("page_of", none) ["part", "desk", "layout", "bar"] (sp_page_of K) := by
  refine okN T.page_of sc_page_of (fun vs H Q E h => ?_) (fun cdv A outer s H vs Q E hr h => ?_)
  · obtain ⟨p, q, bs, past, x, y, k, ns, bar, rfl, _⟩ := h
    rfl
  · obtain ⟨p, q, bs, past, x, y, k, ns, bar, rfl, hp, hx, ok, hy, hf, hnl, hbl, hb, hs, z⟩ := h
    refine ⟨_, (pss_cons (ps_expr (pe_call (ok_need_layout T) (hr.mono (by decide)) (by rfl) T.g_need_layout T.need_layout.kp (b_need_layout T) .nil pass0 (pa_cons (pv 0) (pa_cons (pv 1) (pa_cons (pv 2) pa_nil)))))
      (pss_cons (ps_if (pt_not (pt_val (pe_call (ok_is_number T) (hr.mono (by decide)) (by rfl) T.g_is_number T.is_number.kp (b_is_number T) .nil pass0 (pa_cons (pv 3) (pa_cons pe_int (pa_cons (pe_op op_sub (pe_callB (call_lenP T (ok_Part_len T) (hr.mono (by decide))) (by rfl) T.b_len PySem.boot_len (pa_cons (pv 0) pa_nil)) pe_int) pa_nil)))))) pss_never pss_nil)
      (pss_one (ps_ret (pe_call (ok_page_with T) (hr.mono (by decide)) (by rfl) T.g_page_with T.page_with.kp (b_page_with T) .nil pass0 (pa_cons (pv 2) (pa_cons (pv 3) pa_nil))))))), ?_⟩
    refine ⟨_, rfl, _, rfl, _, rfl, p, q, bs, past, x, y, k, _, rfl, hp, hx, ok, hy, hf, fun ds e => by cases e; rw [List.length_map]; exact hnl, hbl, fun H1 s1 => ?_⟩
    obtain ⟨dx, r, ws, h1, _⟩ := id (hp.same s1)
    refine ⟨_, rfl, _, rfl, p, dx, _, rfl, h1, p, q, bs, past, rfl, hp.same s1, bs.length, rfl, by omega, _, _, rfl, rfl, _, .int (bar : Int), _, _, rfl, .int _, _, rfl, ?_⟩
    rw [isNum_of (by omega) (by omega)]
    exact iteF ⟨_, rfl, _, rfl, _, ns, bar, rfl, dp_same s1 hy, by omega, z _ s1⟩
/-- C(e, ..), an exception class with its own __init__, where nothing is handled: its context is None -/
theorem pmkN_oex {X : Cx} {e : Expr} {es : List Expr} {ta : TA} {p pos : Pos} {CX : CXT} {x : Str} {C fI : Addr} {k : Nat} {fd : FuncData} {ps : List Str} {sp : Sp} (T : OexC X.K C) (iC : PySem.W.findIn X.K (.ref C) "__init__" = some (some (.ref fI))) (tI : PySem.W.typeIn X.K (.ref fI) = some (.type "function"))
    (F1 : FnOk X.prog X.w X.K X.mg X.base CX k fI fd ps sp) (hr : Room (k + 1) X.A) (hb : Binds X.K fd ps []) (hx : Passes CX X (fun _ _ _ => False)) (hg : Gl X x) (hm : X.mg x = some (.ref C)) (ha : PA X (e :: es) ta)
    (hdb : (x == ("__debug__" : Str)) = false := by decide) (he : starEach (e :: es) X.env = (false, eval e X.env) :: starEach es X.env := by rfl) (hpl : (backTo pos (starEach es X.env)).any (·.1) = false := by rfl) :
    L2N.PMk X (.Call (.Name x p) (e :: es) [] pos) (tMkO C sp [] ta) := by
  intro pins s σ H Q I h
  obtain ⟨nm, q, N, bs, bm, sn, sub, ab, col, dd, k0, k1, k2, k3, k5, hC, hbm⟩ := T.cls
  refine wpAny_Call_Name_kw (ld_glob I hg hm ?_ hdb)
  refine PySem.W.callWith_K (h₀ := X.base) I.ok.mod.kin T.kC (thn (ha.run pos pins s σ H _ I h) fun us s1 ⟨vs, H1, I1, r1, hz, q1⟩ => ⟨I1.kIn, ?_⟩) he hpl
  show wpAny _ _ (call (.ref C) us) _ _ _
  obtain ⟨hp, g, dr, tk, os⟩ := s1
  have grow : hp.objs.size ≤ hp.objs.size + 1 := Nat.le_succ _
  have na : H1 (hp.objs.size + 1) = none := I1.hok.fresh grow
  have q2 := q1 (hp.objs.size + 1) na
  rw [List.append_nil] at q2
  have kk : ∀ b o, hp.get? b = some o → ((hp.push (PySem.W.kdv_tup us)).push (HandSPX.excO C hp.objs.size)).get? b = some o := fun b o e => Heap.get?_push_of_some _ (Heap.get?_push_of_some _ e)
  have at1 : ((hp.push (PySem.W.kdv_tup us)).push (HandSPX.excO C hp.objs.size)).get? (hp.objs.size + 1) = some (HandSPX.excO C hp.objs.size) := by heap_get
  have I2 := I1.laid (t' := tk) (a := hp.objs.size + 1) (o := exo (hp.objs.size + 1) C none) (h' := (hp.push (PySem.W.kdv_tup us)).push (HandSPX.excO C hp.objs.size)) kk grow (exo_ok at1)
  have r2 : Vals (V.ref (hp.objs.size + 1) :: vs) (Value.ref (hp.objs.size + 1) :: us) := .cons rfl r1
  have hl : (Value.ref (hp.objs.size + 1) :: us).length = ps.length := by
    rw [← r2.length]
    exact F1.len _ _ _ _ q2
  have hus : us.length ≤ sizeLine := by
    rw [← Paired.length r1, sizeLine_eq]
    omega
  have hb2 := hb ⟨(hp.push (PySem.W.kdv_tup us)).push (HandSPX.excO C hp.objs.size), g, dr, tk, os⟩ (Value.ref (hp.objs.size + 1) :: us) I2.kIn (by rw [List.append_nil]; exact hl)
  rw [List.append_nil] at hb2
  refine wpAny_call (HandSPX.call_own PySem.F.excBase_ValueError (fun Y => HandSPX.refsVE_contains Y bm hbm) (I1.kIn _ _ hC) (PySem.W.looks_findIn I1.kIn iC) (fun self => PySem.W.bind_fn I1.kIn self tI) hus
    (codeAny_mono (F1.run _ X.stack _ _ ⟨Value.ref (hp.objs.size + 1) :: us, []⟩ (Value.ref (hp.objs.size + 1) :: us) _ _ (fun _ _ _ => False) (hr.make C us []) (I2.env0.make C us []) hb2 r2 q2) fun r s' hq' => ?_))
  cases r with
  | error er => exact hx pins σ _ _ er s' I2 hq'
  | ok fl =>
    cases fl with
    | next => exact hq'.elim
    | brk => exact hq'.elim
    | cont => exact hq'.elim
    | ret u =>
      obtain ⟨v, H2, os2, bare2, un2, hok2, rv, ev, d, fs, ea, ed, hd1, q3⟩ := hq'
      subst ev
      obtain ⟨h2, g2, d2, t2, os'⟩ := s'
      obtain ⟨t0, G, J, kG, ge, hoe, ng⟩ := mk_end0 (d2 := d2) (t2 := t2) I1 grow kk un2 hok2 os2 bare2 ea ed hd1
      exact ⟨rv, _, _, _, ⟨G, g2, d2, t2, os'⟩, _, .ref C, some d, rfl, J, kG, ge, hoe, ⟨rfl, rfl, fun vs e => by cases e; rfl⟩, rfl, rfl, ng, rfl, bare2, raises_own T.exC T.tyC, q3⟩
/-- LeafError.__init__(self, ..) -/
theorem pe_leafinit {X : Cx} {e : Expr} {es : List Expr} {ta : TA} {p1 p2 pos : Pos} {pl : Sem Bool} (L : LeafI X.K) (hg : Gl X "LeafError") (hm : X.mg "LeafError" = some (.ref (He.ga X.K "LeafError"))) (ha : PA X (e :: es) ta)
    (hc : eval (.Call (.Attribute (.Name "LeafError" p1) "__init__" p2) (e :: es) [] pos) X.env = (do
      let ov ← eval (.Name "LeafError" p1) X.env
      standAt p2.atName
      let (f, first) ← holding [ov] (getMethod ov "__init__" pl)
      callWith pos f first (backTo pos (starEach (e :: es) X.env)) (backToKw pos (keywordEach [] X.env))) := by rfl)
    (he : starEach (e :: es) X.env = (false, eval e X.env) :: starEach es X.env := by rfl) (hpl : (backTo pos (starEach es X.env)).any (·.1) = false := by rfl) :
    PE X (.Call (.Attribute (.Name "LeafError" p1) "__init__" p2) (e :: es) [] pos) (tVeI X.K ta) := by
  refine ⟨fun pins s σ H Q I h => ?_⟩
  refine PySem.W.methodCall_KW (ld_glob I hg hm ?_ (by decide)) hc
  refine PySem.W.method_cls I.kIn L.sp (PySem.W.cls_value I.kIn L.rd L.fc (by decide +kernel) ?_)
  show wpAny _ _ (callWith pos (Value.builtin "ValueError.__init__") [] (backTo pos (starEach (e :: es) X.env)) []) _ _ _
  refine PyProof.Rows.callWith_method1 (thn (ha.run pos pins _ σ H _ (I.tok _) h) fun us s1 ⟨vs, H1, I1, r1, a, C, ws, ev, hl, T, ea, q⟩ => ?_) he hpl
  subst ev
  cases r1 with
  | @cons _ u0 _ ur ra rw' =>
    obtain rfl : u0 = Value.ref a := ra
    refine oinit_ok T I1 ea ?_ fun s' J => ⟨.non, H1, J, rfl, q⟩
    rw [← Paired.length rw', sizeLine_eq]
    omega
theorem oexC_of {K : PySem.W.Frag} {n f : Str} (h : ExO2 K n f) (g : ExF K (He.ga K n)) : OexC K (He.ga K n) := ⟨h.cls, h.sa, g.sub, g.ty, g.kp⟩
theorem sc_BadLayout_init : FnScope ["self", "page"] ["self", "page"] (defScope s_BadLayout_init) := ⟨rfl, rfl, rfl, by decide +kernel, rfl, by decide +kernel, by decide +kernel⟩
section
variable {K : PySem.W.Frag} {mg : Str → Option Value}
theorem b_BadLayout_init (T : Txt K mg) : Binds K (fdOf K ("BadLayout", some "__init__")) ["self", "page"] [] := T.BadLayout_init.bindsN fun _ _ _ _ _ _ us hl => match us, hl with | [_, _], _ => rfl
end
def sp_BadLayout_init (K : PySem.W.Frag) : Sp := fun vs H Q _ => ∃ (a : Addr) (x : V), vs = [.ref a, x] ∧ H a = some (exo a (He.ga K "BadLayout") none) ∧ ∀ dx, H dx = none → dx ≠ a → Q .non (upd (upd H dx (exd dx [("page", x)])) a (exo a (He.ga K "BadLayout") (some dx)))
theorem oex_BadLayout {K : PySem.W.Frag} {mg : Str → Option Value} (T : Txt K mg) : OexC K (He.ga K "BadLayout") := oexC_of (exO2_ok T.k_BadLayout) (exAll_ok T.k_exc "BadLayout" (by decide +kernel)).f
theorem ok_BadLayout_init {P : Program} {w : World} {K : PySem.W.Frag} {mg : Str → Option Value} {base : Heap} (T : Txt K mg) : OkF P w K mg base CX0 1 ("BadLayout", some "__init__") ["self", "page"] (sp_BadLayout_init K) := by
  refine okN T.BadLayout_init sc_BadLayout_init (fun vs H Q E h => ?_) (fun cdv A outer s H vs Q E hr h => ?_)
  · obtain ⟨a, x, rfl, _⟩ := h
    rfl
  · obtain ⟨a, x, rfl, ha, z⟩ := h
    refine ⟨_, pss_cons (ps_expr (pe_leafinit (leaf_ok T.k_leaf) (by rfl) T.g_LeafError (pa_cons (pv 0) (pa_cons pe_str pa_nil)))) (pss_one (ps_ost (pv 0) (pv 1))), ?_⟩
    refine ⟨_, rfl, a, _, _, rfl, by decide, oex_BadLayout T, ha, ?_⟩
    exact ⟨_, rfl, _, rfl, a, _, rfl, oex_BadLayout T, (exO2_ok T.k_BadLayout).no, .inl ⟨ha, fun dx n ne => z dx n ne⟩⟩
/-- raise BadLayout(x) -/
theorem rz_BadLayout {K : PySem.W.Frag} {H : Hp} {x : V} {Q : XK} (z : ∀ d H', Same H H' → H' d = some (.xd [("page", x)]) → Q (.ref (He.ga K "BadLayout")) (some d) H') :
    [x].length ≤ 1000 ∧ ∀ a, H a = none → sp_BadLayout_init K (.ref a :: ([x] ++ [])) (upd H a (exo a (He.ga K "BadLayout") none)) (fun v H2 => v = .non ∧ ∃ (d : Addr) (fs : List (Str × V)), H2 a = some (exo a (He.ga K "BadLayout") (some d)) ∧ H2 d = some (exd d fs) ∧ H d = none ∧ Q (.ref (He.ga K "BadLayout")) (some d) (upd (L2.del H2 a) d (.xd fs))) (fun _ _ _ => False) := by
  refine ⟨by show (1 : Nat) ≤ 1000; decide, fun a na => ⟨a, x, rfl, upd_same, fun dx nd ne => ⟨rfl, dx, _, upd_same, by rw [upd_ne ne, upd_same], by rw [upd_ne ne] at nd; exact nd, z dx _ (fun b o e => ?_) upd_same⟩⟩⟩
  rw [upd_ne ne] at nd
  have n1 := ne_of_none e na
  have n2 := ne_of_none e nd
  rw [upd_ne n2, L2.del_ne n1, upd_ne n1, upd_ne n2, upd_ne n1]
  exact e
/-- the rule -/
theorem ps_rais_BadLayout {X : Cx} (T : Txt X.K X.mg) {W : WX} {e : Expr} {te : TE} {p p3 pos : Pos} (hr : Room 2 X.A) (hg : Gl X "BadLayout") (tk : L2N.Takes X W) (hc : X.calm = true) (he : PE X e te) (hst : starEach [e] X.env = (false, eval e X.env) :: starEach [] X.env := by rfl) :
    PS X (.Raise (some (.Call (.Name "BadLayout" p) [e] [] p3)) none pos) (fun _ σ H => tMkO (He.ga X.K "BadLayout") (sp_BadLayout_init X.K) [] (tCons te tNil) σ H fun cls d H' => W cls d σ H') :=
  L2N.ps_raise hc tk (pmkN_oex (oex_BadLayout T) (exO2_ok T.k_BadLayout).ini (exO2_ok T.k_BadLayout).fn (ok_BadLayout_init T) hr (b_BadLayout_init T) (fun _ _ _ _ _ _ _ z => z.elim) hg T.g_BadLayout (pa_cons he pa_nil hst) (by decide) hst (by rfl))
/-- the page that is told of a fault -/
def pageD : Wrong → PyData
  | .wide p => .int (p : Int)
  | .empty p => .int (p : Int)
  | .turn p => .int (p : Int)
  | .form => .none
def pageV : Wrong → V
  | .wide p => .int (p : Int)
  | .empty p => .int (p : Int)
  | .turn p => .int (p : Int)
  | .form => .non
theorem dp_page {K : PySem.W.Frag} {H : Hp} : ∀ x : Wrong, Dp K H (pageV x) (pageD x)
  | .wide p => .int _
  | .empty p => .int _
  | .turn p => .int _
  | .form => .non
def spx_need_layout (K : PySem.W.Frag) : Sp := fun vs H _ E => ∃ (p q : Addr) (bs : List Bar) (past : List (List Bar)) (x y : V) (k : Desk) (d : PyData) (wr : Wrong), vs = [.ref p, x, y] ∧ PartX K H p q bs past ∧ Dp K H x (deskD k) ∧ DeskOk k ∧ Dp K H y d ∧ faultG bs k d = some wr ∧ (∀ ds, d = .tuple ds → ds.length ≤ 1000000) ∧ bs.length ≤ 1000 ∧
  ∀ dd H', Same H H' → H' dd = some (.xd [("page", pageV wr)]) → E (.ref (He.ga K "BadLayout")) (some dd) H'
theorem okx_need_layout {P : Program} {w : World} {K : PySem.W.Frag} {mg : Str → Option Value} {base : Heap} (T : Txt K mg) : OkF P w K mg base (L2N.CX P w) 7 ("need_layout", none) ["part", "desk", "thing"] (spx_need_layout K) := by
  refine T.need_layout.ok sc_need_layout (fun vs H Q E h => ?_) (fun cdv A outer s H vs Q E hr h => ?_)
  · obtain ⟨p, q, bs, past, x, y, k, d, wr, rfl, _⟩ := h
    rfl
  · obtain ⟨p, q, bs, past, x, y, k, d, wr, rfl, hp, hx, ok, hy, hf, hdl, hbl, z⟩ := h
    refine ⟨_, (pss_cons (ps_expr (pe_call (ok_need_desk T) (hr.mono (by decide)) (by rfl) T.g_need_desk T.need_desk.kp (b_need_desk T) .nil pass0 (pa_cons (pv 1) pa_nil)))
      (pss_cons (ps_set (i := 3) sc_need_layout.nd rfl (by first | exact Or.inl rfl | exact Or.inr rfl) (pe_call (ok_fault_of T) (hr.mono (by decide)) (by rfl) T.g_fault_of T.fault_of.kp (b_fault_of T) .nil pass0 (pa_cons (pv 0) (pa_cons (pv 1) (pa_cons (pv 2) pa_nil)))))
      (pss_one (ps_if (pt_cmp (pc_notN (pv 3))) (pss_one (ps_rais_BadLayout T (hr.mono (by decide)) (by rfl) (L2N.takes_of rfl rfl rfl rfl) rfl (pe_ifExp (pt_cmpR op_gt (pe_callB call_len (by rfl) T.b_len PySem.boot_len (pa_cons (pv 3) pa_nil)) pe_int (nomark _)) (pe_ix ix_tup (pv 3) pe_int (fun _ _ => rfl)) pe_non))) pss_nil)))), ?_⟩
    refine ⟨_, rfl, x, k, rfl, hx, ok, ?_⟩
    refine ⟨_, rfl, _, rfl, _, rfl, p, q, bs, past, x, y, k, d, rfl, hp, hx, hy, hdl, hbl, fun v H' s' hv => ?_⟩
    rw [hf] at hv
    cases wr with
    | form =>
      obtain ⟨t, rfl, ht⟩ : ∃ t, v = .ref t ∧ SqT K H' t [.str (Str.ofString "form")] := by
        cases hv with
        | tup st da =>
          obtain ⟨v0, rfl, h0⟩ := dpa1 da
          cases h0
          exact ⟨_, rfl, st⟩
      exact ⟨_, rfl, _, rfl, iteT ⟨_, rfl, _, _, rfl, .inr ⟨_, ht, rfl⟩, _, _, rfl, rfl, _, rfl, iteN (by decide) (rz_BadLayout fun dd H2 s2 h2 => z dd H2 (s'.trans s2) h2)⟩⟩
    | wide pg =>
      obtain ⟨t, rfl, ht⟩ : ∃ t, v = .ref t ∧ SqT K H' t [.str (Str.ofString "wide"), .int (pg : Int)] := by
        cases hv with
        | tup st da =>
          obtain ⟨v0, v1, rfl, h0, h1⟩ := dpa2 da
          cases h0
          cases h1
          exact ⟨_, rfl, st⟩
      exact ⟨_, rfl, _, rfl, iteT ⟨_, rfl, _, _, rfl, .inr ⟨_, ht, rfl⟩, _, _, rfl, rfl, _, rfl, iteP (by show (1 : Int) < ((2 : Nat) : Int); decide) ⟨_, rfl, t, _, _, _, rfl, rfl, ht, rfl, rz_BadLayout fun dd H2 s2 h2 => z dd H2 (s'.trans s2) h2⟩⟩⟩
    | empty pg =>
      obtain ⟨t, rfl, ht⟩ : ∃ t, v = .ref t ∧ SqT K H' t [.str (Str.ofString "empty"), .int (pg : Int)] := by
        cases hv with
        | tup st da =>
          obtain ⟨v0, v1, rfl, h0, h1⟩ := dpa2 da
          cases h0
          cases h1
          exact ⟨_, rfl, st⟩
      exact ⟨_, rfl, _, rfl, iteT ⟨_, rfl, _, _, rfl, .inr ⟨_, ht, rfl⟩, _, _, rfl, rfl, _, rfl, iteP (by show (1 : Int) < ((2 : Nat) : Int); decide) ⟨_, rfl, t, _, _, _, rfl, rfl, ht, rfl, rz_BadLayout fun dd H2 s2 h2 => z dd H2 (s'.trans s2) h2⟩⟩⟩
    | turn pg =>
      obtain ⟨t, rfl, ht⟩ : ∃ t, v = .ref t ∧ SqT K H' t [.str (Str.ofString "turn"), .int (pg : Int)] := by
        cases hv with
        | tup st da =>
          obtain ⟨v0, v1, rfl, h0, h1⟩ := dpa2 da
          cases h0
          cases h1
          exact ⟨_, rfl, st⟩
      exact ⟨_, rfl, _, rfl, iteT ⟨_, rfl, _, _, rfl, .inr ⟨_, ht, rfl⟩, _, _, rfl, rfl, _, rfl, iteP (by show (1 : Int) < ((2 : Nat) : Int); decide) ⟨_, rfl, t, _, _, _, rfl, rfl, ht, rfl, rz_BadLayout fun dd H2 s2 h2 => z dd H2 (s'.trans s2) h2⟩⟩⟩
def spx_page_of (K : PySem.W.Frag) : Sp := fun vs H _ E => ∃ (p q : Addr) (bs : List Bar) (past : List (List Bar)) (x y u : V) (k : Desk) (d e : PyData), vs = [.ref p, x, y, u] ∧ PartX K H p q bs past ∧ Dp K H x (deskD k) ∧ DeskOk k ∧ Dp K H y d ∧ Dp K H u e ∧ (∀ ds, d = .tuple ds → ds.length ≤ 1000000) ∧ bs.length ≤ 1000 ∧
  ((∃ wr, faultG bs k d = some wr ∧ ∀ dd H', Same H H' → H' dd = some (.xd [("page", pageV wr)]) → E (.ref (He.ga K "BadLayout")) (some dd) H') ∨ (faultG bs k d = none ∧ isNum e 0 ((bs.length : Int) - 1) = false ∧ ∀ H', Same H H' → E (.ref (He.ga K "BadPlace")) none H'))
theorem okx_page_of {P : Program} {w : World} {K : PySem.W.Frag} {mg : Str → Option Value} {base : Heap} (T : Txt K mg) : OkF P w K mg base (L2N.CX P w) 8 ("page_of", none) ["part", "desk", "layout", "bar"] (spx_page_of K) := by
  refine T.page_of.ok sc_page_of (fun vs H Q E h => ?_) (fun cdv A outer s H vs Q E hr h => ?_)
  · obtain ⟨p, q, bs, past, x, y, u, k, d, e, rfl, _⟩ := h
    rfl
  · obtain ⟨p, q, bs, past, x, y, u, k, d, e, rfl, hp, hx, ok, hy, hu, hdl, hbl, z⟩ := h
    refine ⟨_, (pss_cons (ps_expr (pe_call ((fun T => okOr (okx_need_layout T) (okLift (ok_need_layout T))) T) (hr.mono (by decide)) (by rfl) T.g_need_layout T.need_layout.kp (b_need_layout T) .nil (passN rfl rfl rfl rfl) (pa_cons (pv 0) (pa_cons (pv 1) (pa_cons (pv 2) pa_nil)))))
      (pss_cons (ps_if (pt_not (pt_val (pe_call (ok_is_number T) (hr.mono (by decide)) (by rfl) T.g_is_number T.is_number.kp (b_is_number T) .nil pass0 (pa_cons (pv 3) (pa_cons pe_int (pa_cons (pe_op op_sub (pe_callB (call_lenP T (ok_Part_len T) (hr.mono (by decide))) (by rfl) T.b_len PySem.boot_len (pa_cons (pv 0) pa_nil)) pe_int) pa_nil)))))) (pss_one (ps_rais T (n := "BadPlace") (by decide +kernel) T.g_BadPlace (by rfl) (L2N.takes_of rfl rfl rfl rfl) rfl)) pss_nil)
      pss_never)), ?_⟩
    rcases z with ⟨wr, hf, z⟩ | ⟨hf, hn, z⟩
    · exact ⟨_, rfl, _, rfl, _, rfl, .inl ⟨p, q, bs, past, x, y, k, d, wr, rfl, hp, hx, ok, hy, hf, hdl, hbl, z⟩⟩
    · refine ⟨_, rfl, _, rfl, _, rfl, .inr ⟨p, q, bs, past, x, y, k, d, rfl, hp, hx, ok, hy, hf, hdl, hbl, fun H1 s1 => ?_⟩⟩
      obtain ⟨dx, r, ws, h1, _⟩ := id (hp.same s1)
      refine ⟨_, rfl, _, rfl, p, dx, _, rfl, h1, p, q, bs, past, rfl, hp.same s1, bs.length, rfl, by omega, _, _, rfl, rfl, _, e, _, _, rfl, dp_same s1 hu, _, rfl, ?_⟩
      rw [hn]
      exact iteT (z _ s1)
theorem sc_need_repeats : FnScope ["part", "thing", "ahead", "one"] ["part", "thing"] (defScope s_need_repeats) := ⟨rfl, rfl, rfl, by decide +kernel, rfl, by decide +kernel, by decide +kernel⟩
section
variable {K : PySem.W.Frag} {mg : Str → Option Value}
theorem b_need_repeats (T : Txt K mg) : Binds K (fdOf K ("need_repeats", none)) ["part", "thing"] [] := T.need_repeats.bindsN fun _ _ _ _ _ _ us hl => match us, hl with | [_, _], _ => rfl
end
def sp_need_repeats (K : PySem.W.Frag) : Sp := fun vs H Q _ => ∃ (p q : Addr) (bs : List Bar) (past : List (List Bar)) (y : V) (rs : List (Nat × Nat)), vs = [.ref p, y] ∧ PartX K H p q bs past ∧ Dp K H y (.tuple (repsD rs)) ∧ RepOk bs.length 0 rs ∧ rs.length ≤ 6 ∧ bs.length ≤ 1000 ∧ Q .non H
theorem ok_need_repeats {P : Program} {w : World} {K : PySem.W.Frag} {mg : Str → Option Value} {base : Heap} (T : Txt K mg) : OkF P w K mg base CX0 3 ("need_repeats", none) ["part", "thing"] (sp_need_repeats K) := by
  refine okN T.need_repeats sc_need_repeats (fun vs H Q E h => ?_) (fun cdv A outer s H vs Q E hr h => ?_)
  · obtain ⟨p, q, bs, past, y, rs, rfl, _⟩ := h
    rfl
  · obtain ⟨p, q, bs, past, y, rs, rfl, hp, hy, ok, hrl, hbl, z⟩ := h
    obtain ⟨t, vs, rfl, ht, ha⟩ : ∃ t vs, y = .ref t ∧ SqT K H t vs ∧ DpAll K H vs (repsD rs) := by
      cases hy with
      | tup s a => exact ⟨_, _, rfl, s, a⟩
    have hvl : vs.length = rs.length := by rw [dpa_len ha, List.length_map]
    obtain ⟨dx, r, ws, h1, _⟩ := id hp
    refine ⟨_, (pss_cons (ps_if (PW.pt (pw_or (pt_not (pt_val (pe_callB call_isi (by rfl) T.b_isinstance (by decide +kernel) (pa_cons (pv 1) (pa_cons (pe_bltn (v := .ty "tuple") (by rfl) T.b_tuple (by decide +kernel) rfl) pa_nil))))) (pw_or1 (pt_cmpR op_gt (pe_callB call_len (by rfl) T.b_len PySem.boot_len (pa_cons (pv 1) pa_nil)) pe_int (nomark _))))) pss_never pss_nil)
      (pss_cons (ps_set (i := 2) sc_need_repeats.nd rfl (by first | exact Or.inl rfl | exact Or.inr rfl) (pe_un un_neg pe_int))
      (pss_one (ps_for PassesOwn.never rfl (pi_tup (pv 1)) (pg_name (i := 3) sc_need_repeats.nd rfl (by first | exact Or.inl rfl | exact Or.inr rfl))
      (pss_cons (ps_if (PW.pt (pw_or (pt_not (pt_val (pe_callB call_isi (by rfl) T.b_isinstance (by decide +kernel) (pa_cons (pv 3) (pa_cons (pe_bltn (v := .ty "tuple") (by rfl) T.b_tuple (by decide +kernel) rfl) pa_nil))))) (pw_or (pt_cmpR op_ne (pe_callB call_len (by rfl) T.b_len PySem.boot_len (pa_cons (pv 3) pa_nil)) pe_int (nomark _)) (pw_or1 (pt_not (pt_val (pe_call (ok_is_number T) (hr.mono (by decide)) (by rfl) T.g_is_number T.is_number.kp (b_is_number T) .nil pass0 (pa_cons (pe_ix ix_tup (pv 3) pe_int (fun _ _ => rfl)) (pa_cons (pe_op op_add (pv 2) pe_int) (pa_cons (pe_op op_sub (pe_callB (call_lenP T (ok_Part_len T) (hr.mono (by decide))) (by rfl) T.b_len PySem.boot_len (pa_cons (pv 0) pa_nil)) pe_int) pa_nil)))))))))) pss_never pss_nil)
      (pss_cons (ps_if (pt_not (pt_val (pe_call (ok_is_number T) (hr.mono (by decide)) (by rfl) T.g_is_number T.is_number.kp (b_is_number T) .nil pass0 (pa_cons (pe_ix ix_tup (pv 3) pe_int (fun _ _ => rfl)) (pa_cons (pe_ix ix_tup (pv 3) pe_int (fun _ _ => rfl)) (pa_cons (pe_op op_sub (pe_callB (call_lenP T (ok_Part_len T) (hr.mono (by decide))) (by rfl) T.b_len PySem.boot_len (pa_cons (pv 0) pa_nil)) pe_int) pa_nil)))))) pss_never pss_nil)
      (pss_one (ps_set (i := 2) sc_need_repeats.nd rfl (by first | exact Or.inl rfl | exact Or.inr rfl) (pe_ix ix_tup (pv 3) pe_int (fun _ _ => rfl)))))))))), ?_⟩
    refine ⟨_, rfl, _, _, _, _, _, rfl, .ty _, dp_ty hy, kit_tup _, _, rfl, iteF ⟨_, rfl, _, _, rfl, .inr ⟨_, ht, rfl⟩, _, _, rfl, rfl, _, rfl, iteN (by omega) ?_⟩⟩
    refine ⟨_, rfl, ?_⟩
    refine ⟨_, rfl, t, rfl, ⟨_, ht⟩, for_tup (xs := vs) (fun i σ H' => H = H' ∧ ∃ (k : Nat) (y3 : Option V), RepOk bs.length k (rs.drop i) ∧ σ = [some (.ref p), some (.ref t), some (.int ((k : Int) - 1)), y3]) ⟨rfl, 0, none, ok, rfl⟩ ?_ ?_ ?_⟩
    · rintro i σ H' _ ⟨rfl, _⟩
      exact ht
    · rintro i v σ H' hv ⟨rfl, k, y3, hk, rfl⟩
      obtain ⟨x, hx, hvx⟩ := rep_at ha hv
      rw [drop_at hx] at hk
      obtain ⟨k1, k2, k3, k4⟩ := hk
      obtain ⟨o, rfl, ho⟩ := dp_rep hvx
      refine ⟨_, rfl, _, _, _, _, _, rfl, .ty _, dp_ty hvx, kit_tup _, _, rfl, iteF ⟨_, rfl, _, _, rfl, .inr ⟨_, ho, rfl⟩, rfl, _, rfl, iteNNQ rfl ?_⟩⟩
      refine ⟨_, rfl, o, _, _, _, rfl, rfl, ho, rfl, _, rfl, _, _, rfl, rfl, _, rfl, p, dx, _, rfl, h1, p, q, bs, past, rfl, hp, bs.length, rfl, by omega, _, _, rfl, rfl, _, .int (x.1 : Int), _, _, rfl, .int _, _, rfl, ?_⟩
      rw [isNum_of (by omega) (by omega)]
      refine iteF ?_
      refine ⟨_, rfl, o, _, _, _, rfl, rfl, ho, rfl, _, rfl, o, _, _, _, rfl, rfl, ho, rfl, _, rfl, p, dx, _, rfl, h1, p, q, bs, past, rfl, hp, bs.length, rfl, by omega, _, _, rfl, rfl, _, .int (x.2 : Int), _, _, rfl, .int _, _, rfl, ?_⟩
      rw [isNum_of (by omega) (by omega)]
      refine iteF ?_
      refine ⟨_, rfl, o, _, _, _, rfl, rfl, ho, rfl, rfl, x.2 + 1, some (.ref o), k4, ?_⟩
      rw [show ((x.2 + 1 : Nat) : Int) - 1 = (x.2 : Int) by omega]
      rfl
    · rintro σ H' ⟨rfl, k, y3, _, rfl⟩
      exact z
/-! ### lists of things of a kind -/
def AllD (K : PySem.W.Frag) (G : Hp) (P : PyData → Prop) (vs : List V) : Prop := ∃ ds, DpAll K G vs ds ∧ ∀ d ∈ ds, P d
section
variable {K : PySem.W.Frag} {G G' : Hp} {P : PyData → Prop}
theorem AllD.nil : AllD K G P [] := ⟨[], .nil, by simp⟩
theorem AllD.cons {v : V} {d : PyData} {vs : List V} (h : Dp K G v d) (p : P d) (r : AllD K G P vs) : AllD K G P (v :: vs) := by
  obtain ⟨ds, h1, h2⟩ := r
  exact ⟨d :: ds, .cons h h1, by simpa using ⟨p, h2⟩⟩
theorem AllD.app {vs ws : List V} (a : AllD K G P vs) (b : AllD K G P ws) : AllD K G P (vs ++ ws) := by
  obtain ⟨ds, h1, h2⟩ := a
  obtain ⟨es, g1, g2⟩ := b
  exact ⟨ds ++ es, dpa_app h1 g1, fun d hd => (List.mem_append.mp hd).elim (h2 d) (g2 d)⟩
theorem AllD.same {vs : List V} (a : AllD K G P vs) (s : Same G G') : AllD K G' P vs := by
  obtain ⟨ds, h1, h2⟩ := a
  exact ⟨ds, dpa_same s h1, h2⟩
theorem AllD.ext {vs : List V} (a : AllD K G P vs) (s : LamX.ExtN G G') : AllD K G' P vs := by
  obtain ⟨ds, h1, h2⟩ := a
  exact ⟨ds, dpa_ext s h1, h2⟩
theorem AllD.at {vs : List V} (a : AllD K G P vs) {i : Nat} {v : V} (e : vs[i]? = some v) : ∃ d, Dp K G v d ∧ P d := by
  obtain ⟨ds, h1, h2⟩ := a
  obtain ⟨d, h3, h4⟩ := dpa_at h1 e
  exact ⟨d, h4, h2 d (List.mem_of_getElem? h3)⟩
theorem dpa_rep {v : V} {d : PyData} : ∀ n, Dp K G v d → DpAll K G (List.replicate n v) (List.replicate n d)
  | 0, _ => .nil
  | n + 1, h => .cons h (dpa_rep n h)
/-- such a list at b -/
def BL (K : PySem.W.Frag) (G : Hp) (P : PyData → Prop) (b : Addr) (n : Nat) : Prop := ∃ vs, G b = some (.lst vs) ∧ vs.length = n ∧ AllD K G P vs
end
def intOf : PyData → Int
  | .int i => i
  | _ => 0
/-- repeats of a part of n bars, behind the bar a -/
def repsB (n : Nat) : Int → List PyData → Bool
  | _, [] => true
  | a, d :: r => match d with
    | .tuple [x, y] => isNum x (a + 1) ((n : Int) - 1) && (isNum y (intOf x) ((n : Int) - 1) && repsB n (intOf y) r)
    | _ => false
def isReps (n : Nat) : PyData → Bool
  | .tuple ds => decide (ds.length ≤ 6) && repsB n (-1) ds
  | _ => false
theorem isNum_int {d : PyData} {lo hi : Int} (h : isNum d lo hi = true) : d = .int (intOf d) := by
  cases d <;> first | rfl | cases h
def spx_need_repeats (K : PySem.W.Frag) : Sp := fun vs H _ E => ∃ (p q : Addr) (bs : List Bar) (past : List (List Bar)) (y : V) (d : PyData), vs = [.ref p, y] ∧ PartX K H p q bs past ∧ bs.length ≤ 1000 ∧ Dp K H y d ∧ isReps bs.length d = false ∧ E (.ref (He.ga K "BadRepeats")) none H
theorem okx_need_repeats {P : Program} {w : World} {K : PySem.W.Frag} {mg : Str → Option Value} {base : Heap} (T : Txt K mg) : OkF P w K mg base (L2N.CX P w) 3 ("need_repeats", none) ["part", "thing"] (spx_need_repeats K) := by
  refine T.need_repeats.ok sc_need_repeats (fun vs H Q E h => ?_) (fun cdv A outer s H vs Q E hr h => ?_)
  · obtain ⟨p, q, bs, past, y, d, rfl, _⟩ := h
    rfl
  · obtain ⟨p, q, bs, past, y, d, rfl, hp, hbl, hy, hn, z⟩ := h
    obtain ⟨dx, r, ws, h1, _⟩ := id hp
    refine ⟨_, (pss_cons (ps_if (PW.pt (pw_or (pt_not (pt_val (pe_callB call_isi (by rfl) T.b_isinstance (by decide +kernel) (pa_cons (pv 1) (pa_cons (pe_bltn (v := .ty "tuple") (by rfl) T.b_tuple (by decide +kernel) rfl) pa_nil))))) (pw_or1 (pt_cmpR op_gt (pe_callB call_len (by rfl) T.b_len PySem.boot_len (pa_cons (pv 1) pa_nil)) pe_int (nomark _))))) (pss_one (ps_rais T (n := "BadRepeats") (by decide +kernel) T.g_BadRepeats (by rfl) (L2N.takes_of rfl rfl rfl rfl) rfl)) pss_nil)
      (pss_cons (ps_set (i := 2) sc_need_repeats.nd rfl (by first | exact Or.inl rfl | exact Or.inr rfl) (pe_un un_neg pe_int))
      (pss_one (ps_for (passes_of rfl) rfl (pi_tup (pv 1)) (pg_name (i := 3) sc_need_repeats.nd rfl (by first | exact Or.inl rfl | exact Or.inr rfl))
      (pss_cons (ps_if (PW.pt (pw_or (pt_not (pt_val (pe_callB call_isi (by rfl) T.b_isinstance (by decide +kernel) (pa_cons (pv 3) (pa_cons (pe_bltn (v := .ty "tuple") (by rfl) T.b_tuple (by decide +kernel) rfl) pa_nil))))) (pw_or (pt_cmpR op_ne (pe_callB call_len (by rfl) T.b_len PySem.boot_len (pa_cons (pv 3) pa_nil)) pe_int (nomark _)) (pw_or1 (pt_not (pt_val (pe_call (ok_is_number T) (hr.mono (by decide)) (by rfl) T.g_is_number T.is_number.kp (b_is_number T) .nil pass0 (pa_cons (pe_ix ix_tup (pv 3) pe_int (fun _ _ => rfl)) (pa_cons (pe_op op_add (pv 2) pe_int) (pa_cons (pe_op op_sub (pe_callB (call_lenP T (ok_Part_len T) (hr.mono (by decide))) (by rfl) T.b_len PySem.boot_len (pa_cons (pv 0) pa_nil)) pe_int) pa_nil)))))))))) (pss_one (ps_rais T (n := "BadRepeats") (by decide +kernel) T.g_BadRepeats (by rfl) (L2N.takes_of rfl rfl rfl rfl) rfl)) pss_nil)
      (pss_cons (ps_if (pt_not (pt_val (pe_call (ok_is_number T) (hr.mono (by decide)) (by rfl) T.g_is_number T.is_number.kp (b_is_number T) .nil pass0 (pa_cons (pe_ix ix_tup (pv 3) pe_int (fun _ _ => rfl)) (pa_cons (pe_ix ix_tup (pv 3) pe_int (fun _ _ => rfl)) (pa_cons (pe_op op_sub (pe_callB (call_lenP T (ok_Part_len T) (hr.mono (by decide))) (by rfl) T.b_len PySem.boot_len (pa_cons (pv 0) pa_nil)) pe_int) pa_nil)))))) (pss_one (ps_rais T (n := "BadRepeats") (by decide +kernel) T.g_BadRepeats (by rfl) (L2N.takes_of rfl rfl rfl rfl) rfl)) pss_nil)
      (pss_one (ps_set (i := 2) sc_need_repeats.nd rfl (by first | exact Or.inl rfl | exact Or.inr rfl) (pe_ix ix_tup (pv 3) pe_int (fun _ _ => rfl)))))))))), ?_⟩
    refine ⟨_, rfl, _, _, _, _, _, rfl, .ty _, dp_ty hy, kit_tup _, _, rfl, ?_⟩
    cases d with
    | tuple ds =>
      obtain ⟨t, vs, rfl, ht, ha⟩ : ∃ t vs, y = .ref t ∧ SqT K H t vs ∧ DpAll K H vs ds := by
        cases hy with
        | tup s a => exact ⟨_, _, rfl, s, a⟩
      have hvl := dpa_len ha
      refine iteF ⟨_, rfl, _, _, rfl, .inr ⟨_, ht, rfl⟩, _, _, rfl, rfl, _, rfl, ite2P (fun h6 => z) (fun h6 => ?_)⟩
      have hch : repsB bs.length (-1) ds = false := by
        have hn' : (decide (ds.length ≤ 6) && repsB bs.length (-1) ds) = false := hn
        rw [decide_eq_true (show ds.length ≤ 6 by omega)] at hn'
        exact hn'
      refine ⟨_, rfl, ?_⟩
      refine ⟨_, rfl, t, rfl, ⟨_, ht⟩, for_tup (xs := vs) (fun i σ H' => H = H' ∧ ∃ (ah : Int) (y3 : Option V), repsB bs.length ah (ds.drop i) = false ∧ σ = [some (.ref p), some (.ref t), some (.int ah), y3]) ⟨rfl, -1, none, hch, rfl⟩ ?_ ?_ ?_⟩
      · rintro i σ H' _ ⟨rfl, _⟩
        exact ht
      · rintro i v σ H' hv ⟨rfl, ah, y3, hc, rfl⟩
        obtain ⟨e, he, hve⟩ := dpa_at ha hv
        rw [drop_at he] at hc
        refine ⟨_, rfl, _, _, _, _, _, rfl, .ty _, dp_ty hve, kit_tup _, _, rfl, ?_⟩
        cases e with
        | tuple es =>
          obtain ⟨o, us, rfl, ho, hu⟩ : ∃ o us, v = .ref o ∧ SqT K H o us ∧ DpAll K H us es := by
            cases hve with
            | tup s a => exact ⟨_, _, rfl, s, a⟩
          have hul := dpa_len hu
          refine iteF ⟨_, rfl, _, _, rfl, .inr ⟨_, ho, rfl⟩, rfl, _, rfl, ?_⟩
          by_cases h2 : es.length = 2
          · obtain ⟨e0, e1, rfl⟩ := len2 h2
            obtain ⟨v0, v1, rfl, g0, g1⟩ := dpa2 hu
            refine iteNNQ rfl ⟨_, rfl, o, _, _, _, rfl, rfl, ho, rfl, _, rfl, _, _, rfl, rfl, _, rfl, p, dx, _, rfl, h1, p, q, bs, past, rfl, hp, bs.length, rfl, by omega, _, _, rfl, rfl, _, e0, _, _, rfl, g0, _, rfl, ?_⟩
            have hc' : (isNum e0 (ah + 1) ((bs.length : Int) - 1) && (isNum e1 (intOf e0) ((bs.length : Int) - 1) && repsB bs.length (intOf e1) (ds.drop (i + 1)))) = false := hc
            cases q0 : isNum e0 (ah + 1) ((bs.length : Int) - 1) with
            | false => exact iteT z
            | true =>
              have i0 := isNum_int q0
              rw [q0] at hc'
              have ev0 : v0 = .int (intOf e0) := by
                rw [i0] at g0
                cases g0
                rfl
              subst ev0
              refine iteF ⟨_, rfl, o, _, _, _, rfl, rfl, ho, rfl, _, rfl, o, _, _, _, rfl, rfl, ho, rfl, _, rfl, p, dx, _, rfl, h1, p, q, bs, past, rfl, hp, bs.length, rfl, by omega, _, _, rfl, rfl, _, e1, _, _, rfl, g1, _, rfl, ?_⟩
              cases q1 : isNum e1 (intOf e0) ((bs.length : Int) - 1) with
              | false => exact iteT z
              | true =>
                have i1 := isNum_int q1
                have ev1 : v1 = .int (intOf e1) := by
                  rw [i1] at g1
                  cases g1
                  rfl
                subst ev1
                rw [q1] at hc'
                exact iteF ⟨_, rfl, o, _, _, _, rfl, rfl, ho, rfl, rfl, intOf e1, some (.ref o), hc', rfl⟩
          · refine iteNEQ (fun e => h2 ?_) z
            rw [hul] at e
            exact Int.ofNat.inj e
        | _ => exact iteT z
      · rintro σ H' ⟨rfl, ah, y3, hc, rfl⟩
        rw [List.drop_eq_nil_of_le (by omega)] at hc
        cases hc
    | _ => exact iteT z
theorem sc_played : FnScope ["part", "repeats"] ["part", "repeats"] (defScope s_played) := ⟨rfl, rfl, rfl, by decide +kernel, rfl, by decide +kernel, by decide +kernel⟩
section
variable {K : PySem.W.Frag} {mg : Str → Option Value}
theorem b_played (T : Txt K mg) : Binds K (fdOf K ("played", none)) ["part", "repeats"] [] := T.played.bindsN fun _ _ _ _ _ _ us hl => match us, hl with | [_, _], _ => rfl
end
def spx_played (K : PySem.W.Frag) : Sp := fun vs H _ E => ∃ (p q : Addr) (bs : List Bar) (past : List (List Bar)) (y : V) (d : PyData), vs = [.ref p, y] ∧ PartX K H p q bs past ∧ bs.length ≤ 1000 ∧ Dp K H y d ∧ isReps bs.length d = false ∧ E (.ref (He.ga K "BadRepeats")) none H
theorem okx_played {P : Program} {w : World} {K : PySem.W.Frag} {mg : Str → Option Value} {base : Heap} (T : Txt K mg) : OkF P w K mg base (L2N.CX P w) 4 ("played", none) ["part", "repeats"] (spx_played K) := by
  refine T.played.ok sc_played (fun vs H Q E h => ?_) (fun cdv A outer s H vs Q E hr h => ?_)
  · obtain ⟨p, q, bs, past, y, d, rfl, _⟩ := h
    rfl
  · obtain ⟨p, q, bs, past, y, d, rfl, hp, hbl, hy, hn, z⟩ := h
    refine ⟨_, (pss_cons (ps_expr (pe_call (okx_need_repeats T) (hr.mono (by decide)) (by rfl) T.g_need_repeats T.need_repeats.kp (b_need_repeats T) .nil (passN rfl rfl rfl rfl) (pa_cons (pv 0) (pa_cons (pv 1) pa_nil))))
      pss_never), ?_⟩
    exact ⟨_, rfl, _, rfl, p, q, bs, past, y, d, rfl, hp, hbl, hy, hn, z⟩
theorem sc_both_of : FnScope ["one", "other"] ["one", "other"] (defScope s_both_of) := ⟨rfl, rfl, rfl, by decide +kernel, rfl, by decide +kernel, by decide +kernel⟩
section
variable {K : PySem.W.Frag} {mg : Str → Option Value}
theorem b_both_of (T : Txt K mg) : Binds K (fdOf K ("both_of", none)) ["one", "other"] [] := T.both_of.bindsN fun _ _ _ _ _ _ us hl => match us, hl with | [_, _], _ => rfl
end
def bothB (x y : Bar) : Bar := ⟨min 40 (x.w + y.w), x.b, x.r || y.r⟩
def sp_both_of (K : PySem.W.Frag) : Sp := fun vs H Q _ => ∃ (v u : V) (x y : Bar), vs = [v, u] ∧ Dp K H v (barD x) ∧ Dp K H u (barD y) ∧ ∀ c, H c = none → Q (.ref c) (upd H c (.tup (barV (bothB x y))))
theorem ok_both_of {P : Program} {w : World} {K : PySem.W.Frag} {mg : Str → Option Value} {base : Heap} (T : Txt K mg) : OkF P w K mg base CX0 2 ("both_of", none) ["one", "other"] (sp_both_of K) := by
  refine okN T.both_of sc_both_of (fun vs H Q E h => ?_) (fun cdv A outer s H vs Q E hr h => ?_)
  · obtain ⟨v, u, x, y, rfl, _⟩ := h
    rfl
  · obtain ⟨v, u, x, y, rfl, hv, hu, z⟩ := h
    obtain ⟨p, rfl, hp⟩ := dp_bar hv
    obtain ⟨q, rfl, hq⟩ := dp_bar hu
    refine ⟨_, (pss_one (ps_ret (pe_tup (pa_cons (pe_callB (call_min2 rfl) (by rfl) T.b_min (by decide +kernel) (pa_cons pe_int (pa_cons (pe_op op_add (pe_ix ix_tup (pv 0) pe_int (fun _ _ => rfl)) (pe_ix ix_tup (pv 1) pe_int (fun _ _ => rfl))) pa_nil))) (pa_cons (pe_ix ix_tup (pv 0) pe_int (fun _ _ => rfl)) (pa_cons (pe_or (pe_ix ix_tup (pv 0) pe_int (fun _ _ => rfl)) (pe_one (pe_ix ix_tup (pv 1) pe_int (fun _ _ => rfl)))) pa_nil)))))), ?_⟩
    refine ⟨_, rfl, p, _, _, _, rfl, rfl, hp, rfl, _, rfl, q, _, _, _, rfl, rfl, hq, rfl, _, _, rfl, rfl, _, _, rfl, ?_⟩
    refine ⟨_, rfl, p, _, _, _, rfl, rfl, hp, rfl, _, rfl, p, _, _, _, rfl, rfl, hp, rfl, ?_⟩
    have fin : ∀ b : Bool, b = (x.r || y.r) → ∀ c, H c = none → Q (.ref c) (upd H c (.tup [.int (if x.w + y.w < 40 then x.w + y.w else 40), .int x.b, .bl b])) := fun b hb c nc => by
      have e : barV (bothB x y) = [.int (if x.w + y.w < 40 then x.w + y.w else 40), .int x.b, .bl b] := by
        unfold barV bothB
        rw [hb]
        congr 2
        show min 40 (x.w + y.w) = _
        split <;> omega
      rw [← e]
      exact z c nc
    cases hr1 : x.r with
    | true => exact ⟨_, rfl, iteT ⟨by show (3 : Nat) ≤ sizeLine; decide, fun c nc => fin true (by rw [hr1]; rfl) c nc⟩⟩
    | false => exact ⟨_, rfl, iteF ⟨_, rfl, q, _, _, _, rfl, rfl, hq, rfl, by show (3 : Nat) ≤ sizeLine; decide, fun c nc => fin y.r (by rw [hr1]; rfl) c nc⟩⟩
/-! ### list(zip(a, b)) -/
section
variable {prog : Program} {w : World} {A : Around} {E : Value → Shared → Prop} {s : Shared}
theorem zip_no_len : typeLookup (.type "zip") "__len__" = pure none := PySem.am_miss_of_fast (by decide +kernel)
theorem zip_no_hint : typeLookup (.type "zip") "__length_hint__" = pure none := PySem.am_miss_of_fast (by decide +kernel)
theorem zl_hint {r : Addr} (hT : s.TypeIs (.ref r) "zip") {Q : Bool → Shared → Prop} (h : Q true s) : wpAny (model prog w) A (Builtin.List.listLengthHint (.ref r)) Q E s := by
  unfold Builtin.List.listLengthHint
  refine wpAny_bind (wpAny_specialOf hT zip_no_len ?_)
  refine wpAny_bind (wpAny_specialOf hT zip_no_hint ?_)
  exact wpAny_pure h
/-- a zip that a list takes up, at its turn i -/
structure ZSt (h : Heap) (z TI TO i1 i2 l1 l2 S : Addr) (xs ys : Array Value) (i : Nat) : Prop where
  pair : IsPair h TI (.ref i1) (.ref i2)
  it1 : h.IsListIter i1 l1 i
  it2 : h.IsListIter i2 l2 i
  ls1 : h.IsList l1 xs
  ls2 : h.IsList l2 ys
  st : (IsZip h z TI TO .none ∧ ∃ a b, IsPair h TO a b) ∨ ∃ T f oT, IsZipHeld h z TI TO T f ∧ h.get? T = some oT ∧ T ≠ z ∧ T ≠ i1 ∧ T ≠ i2 ∧ T ≠ S
theorem zl_item {z TI TO i1 i2 l1 l2 S : Addr} {xs ys : Array Value} {i : Nat} {x y : Value} {Q : Option Value → Shared → Prop} (D : ZipApart z TI TO i1 i2 l1 l2) (Z : ZSt s.heap z TI TO i1 i2 l1 l2 S xs ys i) (hS : S < s.heap.objs.size) (hx : xs[i]? = some x) (hy : ys[i]? = some y)
    (hQ : ∀ h', ZSt h' z TI TO i1 i2 l1 l2 S xs ys (i + 1) → IsPair h' s.heap.objs.size x y → h'.objs.size = s.heap.objs.size + 1 → (∀ c o, c ≠ z → c ≠ TO → c ≠ i1 → c ≠ i2 → s.heap.get? c = some o → h'.get? c = some o) → Q (some (.ref s.heap.objs.size)) { s with heap := h' }) :
    wpAny (model prog w) A (pyNext (.ref z)) Q E s := by
  obtain ⟨p, a1, a2, b1, b2, st⟩ := Z
  have kl : ∀ {l : Addr} {ws : Array Value} {h' : Heap}, s.heap.IsList l ws → l ≠ z → l ≠ TO → l ≠ i1 → l ≠ i2 → (∀ c o, c ≠ z → c ≠ TO → c ≠ i1 → c ≠ i2 → s.heap.get? c = some o → h'.get? c = some o) → h'.IsList l ws := fun hl n1 n2 n3 n4 k => by
    obtain ⟨o, ho, hc⟩ := hl
    exact ⟨o, k _ _ n1 n2 n3 n4 ho, hc⟩
  rcases st with ⟨hz, ta, tb, hTO⟩ | ⟨T, f, oT, hz, hT, n1, n2, n3, n4⟩
  · refine wpAny_pyNext_zip_item D hz p hTO a1 a2 b1 b2 hx hy fun h' q1 q2 q3 q4 q5 q6 q7 => hQ h' ⟨q7 _ _ D.TIz D.TITO D.TIi1 D.TIi2 p, q3, q4, kl b1 D.l1z D.l1TO D.l1i1 D.l1i2 q7, kl b2 D.l2z D.l2TO D.l2i1 D.l2i2 q7, .inr ⟨s.heap.objs.size, false, _, q1, q5, ?_, ?_, ?_, ?_⟩⟩ q5 q6 q7
    · exact Nat.ne_of_gt (Heap.lt_size hz)
    · obtain ⟨o, ho, _⟩ := a1
      exact Nat.ne_of_gt (Heap.lt_size ho)
    · obtain ⟨o, ho, _⟩ := a2
      exact Nat.ne_of_gt (Heap.lt_size ho)
    · exact Nat.ne_of_gt hS
  · exact wpAny_pyNext_zip_item_held D hz hT p a1 a2 b1 b2 hx hy fun h' q1 q3 q4 q5 q6 q7 => hQ h' ⟨q7 _ _ D.TIz D.TIi1 D.TIi2 p, q3, q4, kl b1 D.l1z D.l1TO D.l1i1 D.l1i2 (fun c o h1 _ h3 h4 => q7 c o h1 h3 h4), kl b2 D.l2z D.l2TO D.l2i1 D.l2i2 (fun c o h1 _ h3 h4 => q7 c o h1 h3 h4), .inr ⟨T, true, oT, q1, q7 _ _ n1 n2 n3 hT, n1, n2, n3, n4⟩⟩ q5 q6 fun c o h1 _ h3 h4 => q7 c o h1 h3 h4
theorem zl_done {z TI TO i1 i2 l1 l2 S : Addr} {xs ys : Array Value} {i : Nat} {Q : Option Value → Shared → Prop} (hh : A.handled = none) (D : ZipApart z TI TO i1 i2 l1 l2) (Z : ZSt s.heap z TI TO i1 i2 l1 l2 S xs ys i) (hend : xs[i]? = none ∨ ys[i]? = none)
    (hQ : ∀ h', (∀ c o, c ≠ z → c ≠ TO → c ≠ i1 → c ≠ i2 → s.heap.get? c = some o → h'.get? c = some o) → Q none { s with heap := h' }) : wpAny (model prog w) A (pyNext (.ref z)) Q E s := by
  obtain ⟨p, a1, a2, b1, b2, st⟩ := Z
  rcases st with ⟨hz, ta, tb, hTO⟩ | ⟨T, f, oT, hz, hT, n1, n2, n3, n4⟩
  · exact wpAny_pyNext_zip_end hh D hz p hTO a1 a2 b1 b2 hend hQ
  · exact wpAny_pyNext_zip_end_held hh D hz hT p a1 a2 b1 b2 hend fun h' k => hQ h' fun c o h1 _ h3 h4 => k c o h1 h3 h4
end
/-- S stands apart of the zip -/
structure ZOff (S z TI TO i1 i2 l1 l2 : Addr) : Prop where
  z : z ≠ S
  TI : TI ≠ S
  TO : TO ≠ S
  i1 : i1 ≠ S
  i2 : i2 ≠ S
  l1 : l1 ≠ S
  l2 : l2 ≠ S
theorem ZSt.keep {h h' : Heap} {z TI TO i1 i2 l1 l2 S : Addr} {xs ys : Array Value} {i : Nat} (Z : ZSt h z TI TO i1 i2 l1 l2 S xs ys i) (O : ZOff S z TI TO i1 i2 l1 l2) (k : ∀ b o, b ≠ S → h.get? b = some o → h'.get? b = some o) : ZSt h' z TI TO i1 i2 l1 l2 S xs ys i := by
  obtain ⟨p, ⟨o1, a1, a1'⟩, ⟨o2, a2, a2'⟩, ⟨o3, b1, b1'⟩, ⟨o4, b2, b2'⟩, st⟩ := Z
  refine ⟨k _ _ O.TI p, ⟨o1, k _ _ O.i1 a1, a1'⟩, ⟨o2, k _ _ O.i2 a2, a2'⟩, ⟨o3, k _ _ O.l1 b1, b1'⟩, ⟨o4, k _ _ O.l2 b2, b2'⟩, ?_⟩
  rcases st with ⟨hz, ta, tb, hTO⟩ | ⟨T, f, oT, hz, hT, n1, n2, n3, n4⟩
  · exact .inl ⟨k _ _ O.z hz, ta, tb, k _ _ O.TO hTO⟩
  · exact .inr ⟨T, f, oT, k _ _ O.z hz, k _ _ n4 hT, n1, n2, n3, n4⟩
structure ZG (xs ys : Array Value) (lo : Addr) (h : Heap) (as : List Addr) : Prop where
  rise : as.Pairwise (· < ·)
  above : ∀ a ∈ as, lo < a
  pairs : ∀ (j : Nat) (a : Addr), as[j]? = some a → ∃ x y, xs[j]? = some x ∧ ys[j]? = some y ∧ IsPair h a x y
theorem ZG.there {xs ys : Array Value} {lo : Addr} {h : Heap} {as : List Addr} (g : ZG xs ys lo h as) {a : Addr} (ha : a ∈ as) : a < h.objs.size := by
  obtain ⟨j, hj⟩ := List.mem_iff_getElem?.mp ha
  obtain ⟨_, _, _, _, e⟩ := g.pairs j a hj
  exact Heap.lt_size e
section
variable {prog : Program} {w : World} {A : Around} {s : Shared} {R : Result → Shared → Prop}
theorem zl_loop {S z TI TO i1 i2 l1 l2 lo : Addr} {xs ys : Array Value} {n : Nat} (hh : A.handled = none) (D : ZipApart z TI TO i1 i2 l1 l2) (O : ZOff S z TI TO i1 i2 l1 l2) (hlo : z ≤ lo ∧ TO ≤ lo ∧ i1 ≤ lo ∧ i2 ≤ lo ∧ S ≤ lo) (hmin : n = min xs.size ys.size) (hn : n ≤ sizeLine) (res : Value) {h₁ : Heap}
    (hR : ∀ h' tk acc c as, (∀ b o, b ≠ S → b ≠ z → b ≠ TO → b ≠ i1 → b ≠ i2 → h₁.get? b = some o → h'.get? b = some o) → h'.get? S = some { cls := .type "list", dict := none, data := .seq acc c, slots := #[] } → as.length = n → ZG xs ys lo h' as →
      acc.toList = as.map Value.ref → R (.ok (.ret res)) { s with heap := h', toks := tk }) :
    ∀ (k i : Nat) (h : Heap) (tk c : Nat) (acc : Array Value) (as : List Addr), n - i = k → i ≤ n → ZSt h z TI TO i1 i2 l1 l2 S xs ys i → (∀ b o, b ≠ S → b ≠ z → b ≠ TO → b ≠ i1 → b ≠ i2 → h₁.get? b = some o → h.get? b = some o) →
      h.get? S = some { cls := .type "list", dict := none, data := .seq acc c, slots := #[] } → acc.toList = as.map Value.ref → as.length = i → ZG xs ys lo h as → lo < h.objs.size →
      codeAny (model prog w) A (.builtin "list.extend.loop" ⟨[.ref S, .ref z, res], []⟩) R { s with heap := h, toks := tk } := by
  intro k
  induction k with
  | zero =>
    intro i h tk c acc as hk hi hst hkeep hS hacc hal hG hIs
    refine codeAny_builtin PySem.F.entry_extend_loop ?_
    rw [Around.under_plainId PySem.F.plain_extend_loop _]
    show wpAny _ A.in1 (pyNext (.ref z) >>= _) _ _ _
    have hend : xs[i]? = none ∨ ys[i]? = none := by
      rcases Nat.le_total xs.size ys.size with hle | hle
      · exact .inl (Array.getElem?_eq_none (by omega))
      · exact .inr (Array.getElem?_eq_none (by omega))
    refine wpAny_bind (zl_done (s := { s with heap := h, toks := tk }) (A := A.in1) hh D hst hend fun h' he => ?_)
    refine wpAny_pure (hR h' tk acc c as (fun b o h1 h2 h3 h4 h5 e => he b o h2 h3 h4 h5 (hkeep b o h1 h2 h3 h4 h5 e)) (he S _ O.z.symm O.TO.symm O.i1.symm O.i2.symm hS) (by omega) ⟨hG.rise, hG.above, fun j a hj => ?_⟩ hacc)
    obtain ⟨x, y, e1, e2, e3⟩ := hG.pairs j a hj
    have ab := hG.above a (List.mem_of_getElem? hj)
    obtain ⟨u1, u2, u3, u4, u5⟩ := hlo
    exact ⟨x, y, e1, e2, he a _ (Nat.ne_of_gt (Nat.lt_of_le_of_lt u1 ab)) (Nat.ne_of_gt (Nat.lt_of_le_of_lt u2 ab)) (Nat.ne_of_gt (Nat.lt_of_le_of_lt u3 ab)) (Nat.ne_of_gt (Nat.lt_of_le_of_lt u4 ab)) e3⟩
  | succ k ih =>
    intro i h tk c acc as hk hi hst hkeep hS hacc hal hG hIs
    have hlt : i < n := by omega
    obtain ⟨x, hx⟩ : ∃ p, xs[i]? = some p := ⟨xs[i]'(by omega), Array.getElem?_eq_getElem (by omega)⟩
    obtain ⟨y, hy⟩ : ∃ p, ys[i]? = some p := ⟨ys[i]'(by omega), Array.getElem?_eq_getElem (by omega)⟩
    have hsz : acc.size = i := by rw [← Array.length_toList, hacc, List.length_map, hal]
    refine codeAny_builtin PySem.F.entry_extend_loop ?_
    rw [Around.under_plainId PySem.F.plain_extend_loop _]
    show wpAny _ A.in1 (pyNext (.ref z) >>= _) _ _ _
    refine wpAny_bind (zl_item (s := { s with heap := h, toks := tk }) (S := S) D hst (Heap.lt_size hS) hx hy fun h' hst' ht hz hkp => ?_)
    dsimp only at ht hz hkp ⊢
    have hS' := hkp S _ O.z.symm O.TO.symm O.i1.symm O.i2.symm hS
    have up : ∀ b o, b ≠ S → h'.get? b = some o → (h'.update S (Obj.mapSeq (·.push (Value.ref h.objs.size)))).get? b = some o := fun b o hb e => (Heap.get?_update_other _ _ (Ne.symm hb)).trans e
    have hSl : S < h.objs.size := Heap.lt_size hS
    obtain ⟨u1, u2, u3, u4, u5⟩ := hlo
    show wpAny _ A.in1 (updateSeq S (·.push (Value.ref h.objs.size)) >>= _) _ _ _
    refine wpAny_bind ?_
    refine wpAny_updateSeq hS' rfl (wpAny_pure ⟨plainId_quiet PySem.F.plain_extend_loop _, ih (i + 1) _ tk _ (acc.push (Value.ref h.objs.size)) (as ++ [h.objs.size]) (by omega) hlt (hst'.keep O up)
      (fun b o h1 h2 h3 h4 h5 e => up b o h1 (hkp b o h2 h3 h4 h5 (hkeep b o h1 h2 h3 h4 h5 e))) (Heap.get?_update_self _ hS' rfl) (by rw [Array.toList_push, hacc, List.map_append]; rfl) (by rw [List.length_append, hal]; rfl) ⟨?_, ?_, ?_⟩ ?_⟩) (by rw [hsz]; omega) (by show (acc.push (Value.ref h.objs.size)).size ≤ sizeLine + 1; rw [Array.size_push, hsz]; omega)
    · refine List.pairwise_append.mpr ⟨hG.rise, List.pairwise_singleton _ _, fun a ha b hb => ?_⟩
      rw [List.mem_singleton.mp hb]
      exact hG.there ha
    · intro a ha
      rcases List.mem_append.mp ha with ha | ha
      · exact hG.above a ha
      · rw [List.mem_singleton.mp ha]; exact hIs
    · intro j b hj
      rcases Nat.lt_trichotomy j as.length with h1 | h1 | h1
      · rw [List.getElem?_append_left h1] at hj
        obtain ⟨x', y', e1, e2, e3⟩ := hG.pairs j b hj
        have hb := hG.above b (List.mem_of_getElem? hj)
        exact ⟨x', y', e1, e2, up b _ (Nat.ne_of_gt (Nat.lt_of_le_of_lt u5 hb)) (hkp b _ (Nat.ne_of_gt (Nat.lt_of_le_of_lt u1 hb)) (Nat.ne_of_gt (Nat.lt_of_le_of_lt u2 hb)) (Nat.ne_of_gt (Nat.lt_of_le_of_lt u3 hb)) (Nat.ne_of_gt (Nat.lt_of_le_of_lt u4 hb)) e3)⟩
      · subst h1
        have hb : h.objs.size = b := by simpa using hj
        subst hb
        exact ⟨x, y, by rw [hal]; exact hx, by rw [hal]; exact hy, up _ _ (Nat.ne_of_gt hSl) ht⟩
      · have hnone : (as ++ [h.objs.size])[j]? = none := List.getElem?_eq_none (by rw [List.length_append, List.length_singleton]; omega)
        rw [hnone] at hj; cases hj
    · have e : (h'.update S (Obj.mapSeq (·.push (Value.ref h.objs.size)))).get? h.objs.size = _ := up _ _ (Nat.ne_of_gt hSl) ht
      exact Nat.lt_trans hIs (Heap.lt_size e)
end
section
variable {prog : Program} {w : World} {A : Around} {E : Value → Shared → Prop} {s : Shared} {z TI TO i1 i2 l1 l2 : Addr} {xs ys : Array Value} {n : Nat}
theorem zl_extend {R : Result → Shared → Prop} (hh : A.handled = none) (D : ZipApart z TI TO i1 i2 l1 l2) {S : Addr} (O : ZOff S z TI TO i1 i2 l1 l2) (hlo : z ≤ S ∧ TO ≤ S ∧ i1 ≤ S ∧ i2 ≤ S) (hz : IsZip s.heap z TI TO .none) (Z : ZSt s.heap z TI TO i1 i2 l1 l2 S xs ys 0) (hmin : n = min xs.size ys.size) (res : Value) (c₀ : Nat) (hS : s.heap.get? S = some { cls := .type "list", data := .seq #[] c₀ })
    (hR : ∀ h' tk acc c as, (∀ b o, b ≠ S → b ≠ z → b ≠ TO → b ≠ i1 → b ≠ i2 → s.heap.get? b = some o → h'.get? b = some o) → h'.get? S = some { cls := .type "list", dict := none, data := .seq acc c, slots := #[] } → as.length = n → ZG xs ys S h' as →
      acc.toList = as.map Value.ref → R (.ok (.ret res)) { s with heap := h', toks := tk }) (hn : n ≤ sizeLine) :
    wpAny (model prog w) A.in1 (Builtin.List.listExtendWith (.ref S) (.ref z) res)
      (fun fin s' => match fin with | .done f => R (.ok f) s' | .again c' => c'.quiet = true ∧ codeAny (model prog w) A c' R s') (fun e s' => R (.error e) s') s := by
  have key : ∀ (h : Heap) (c₁ tk : Nat), (∀ b o, b ≠ S → s.heap.get? b = some o → h.get? b = some o) →
      h.get? S = some { cls := .type "list", data := .seq #[] c₁ } → codeAny (model prog w) A (.builtin "list.extend.loop" ⟨[.ref S, .ref z, res], []⟩) R { s with heap := h, toks := tk } := by
    intro h c₁ tk hk hS₁
    exact zl_loop (s := s) (h₁ := s.heap) (lo := S) hh D O ⟨hlo.1, hlo.2.1, hlo.2.2.1, hlo.2.2.2, Nat.le_refl _⟩ hmin hn res hR n 0 h tk c₁ #[] [] (Nat.sub_zero _) (Nat.zero_le _) (Z.keep O hk) (fun b o hb _ _ _ _ e => hk b o hb e) hS₁ rfl rfl
      ⟨List.Pairwise.nil, (fun _ ha => nomatch ha), (fun j a hj => by simp at hj)⟩ (Heap.lt_size hS₁)
  have hT : s.TypeIs (.ref z) "zip" := ⟨_, hz, rfl⟩
  unfold Builtin.List.listExtendWith
  refine wpAny_bind (wpAny_typeOf (T := "zip") hT ?_)
  have h1 : Builtin.List.listSameRef (.ref S) (.ref z) = false := by simp [Builtin.List.listSameRef, O.z.symm]
  have h2 : (Value.type "zip" == Value.type "list") = false := by decide
  have h3 : (Value.type "zip" == Value.type "tuple") = false := by decide
  simp only [h1, h2, h3, Bool.or_false, Bool.false_eq_true, if_false]
  refine wpAny_bind (wpAny_pyIter_zip hz ?_)
  refine wpAny_bind (wpAny_holding (zl_hint hT ?_))
  refine wpAny_ite_split (fun _ => ?_) (fun _ => wpAny_pure ⟨plainId_quiet PySem.F.plain_extend_loop _, key _ c₀ _ (fun b o _ e => e) hS⟩)
  refine wpAny_bind (wpAny_rule ?_)
  refine wpAny_bind ?_
  show wpAny _ _ (updateSeq S (·.push .none) >>= fun _ => updateSeq S (·.pop)) _ _ _
  refine wpAny_bind (wpAny_updateSeq hS rfl ?_)
  have hS₂ := Heap.get?_update_self (Obj.mapSeq (·.push Value.none)) hS rfl
  refine wpAny_updateSeq (hz := by seq_fits) hS₂ rfl ?_
  have hS₃ := Heap.get?_update_self (Obj.mapSeq (·.pop)) hS₂ rfl
  refine wpAny_pure ⟨plainId_quiet PySem.F.plain_extend_loop _, key _ _ _ (fun b o hb e => ?_) hS₃⟩
  exact (Heap.get?_update_other _ _ (Ne.symm hb)).trans ((Heap.get?_update_other _ _ (Ne.symm hb)).trans e)
theorem zl_call {Q : Value → Shared → Prop} (hh : A.handled = none) (D : ZipApart z TI TO i1 i2 l1 l2) (hz : IsZip s.heap z TI TO .none) (lTO : TO < s.heap.objs.size) (Z : ∀ S, ZSt s.heap z TI TO i1 i2 l1 l2 S xs ys 0) (hmin : n = min xs.size ys.size) (hn : n ≤ sizeLine)
    (hQ : ∀ h' tk acc c as, (∀ b o, b ≠ z → b ≠ TO → b ≠ i1 → b ≠ i2 → s.heap.get? b = some o → h'.get? b = some o) → h'.get? s.heap.objs.size = some { cls := .type "list", dict := none, data := .seq acc c, slots := #[] } → as.length = n → ZG xs ys s.heap.objs.size h' as →
      acc.toList = as.map Value.ref → Q (.ref s.heap.objs.size) { s with heap := h', toks := tk }) :
    wpAny (model prog w) A (call (.type "list") [.ref z]) Q E s := by
  refine callType_codes (Q₁ := fun obj s₁ => obj = .ref s.heap.objs.size ∧ s₁ = { s with heap := s.heap.push { cls := .type "list", data := .seq #[] } }) PySem.F.called_list (PySem.F.typeCall_list_1 _) PySem.F.entry_list_init
    (code_list_new _ ⟨rfl, rfl⟩) fun obj s₁ h₁ => ?_
  obtain ⟨rfl, rfl⟩ := h₁
  have hS : (s.heap.push { cls := .type "list", data := .seq #[] }).get? s.heap.objs.size = some { cls := .type "list", data := .seq #[] } := Heap.get?_push_size _ rfl
  have Z0 := Z s.heap.objs.size
  obtain ⟨p, ⟨o1, a1, _⟩, ⟨o2, a2, _⟩, ⟨o3, b1, _⟩, ⟨o4, b2, _⟩, st⟩ := id Z0
  have lz := Heap.lt_size hz
  have lTI := Heap.lt_size p
  have O : ZOff s.heap.objs.size z TI TO i1 i2 l1 l2 := ⟨Nat.ne_of_lt lz, Nat.ne_of_lt lTI, Nat.ne_of_lt lTO, Nat.ne_of_lt (Heap.lt_size a1), Nat.ne_of_lt (Heap.lt_size a2), Nat.ne_of_lt (Heap.lt_size b1), Nat.ne_of_lt (Heap.lt_size b2)⟩
  have k1 : ∀ b o, s.heap.get? b = some o → (s.heap.push { cls := .type "list", data := .seq #[] }).get? b = some o := fun b o e => Heap.get?_push_of_some _ e
  refine ⟨⟨_, hS, rfl⟩, PySem.F.args_list_init_2 _ _, ?_⟩
  show wpAny _ _ (do let old ← Builtin.List.listItems (.ref s.heap.objs.size); Builtin.List.listUpdate (.ref s.heap.objs.size) (fun _ => #[]); letGo old.toList.reverse; Builtin.List.listExtendWith (.ref s.heap.objs.size) (.ref z) .none) _ _ _
  refine wpAny_bind ?_
  unfold Builtin.List.listItems
  refine wpAny_bind (wpAny_seqItems hS rfl (wpAny_pure ?_))
  show wpAny _ _ (updateSeq s.heap.objs.size (fun _ => #[]) >>= fun _ => letGo (#[] : Array Value).toList.reverse >>= fun _ => Builtin.List.listExtendWith (.ref s.heap.objs.size) (.ref z) .none) _ _ _
  refine wpAny_bind (wpAny_updateSeq hS rfl ?_)
  have hS₂ := Heap.get?_update_self (Obj.mapSeq (fun _ => (#[] : Array Value))) hS rfl
  have oth : ∀ b o, b ≠ s.heap.objs.size → s.heap.get? b = some o → ((s.heap.push { cls := .type "list", data := .seq #[] }).update s.heap.objs.size (Obj.mapSeq (fun _ => (#[] : Array Value)))).get? b = some o :=
    fun b o hb e => (Heap.get?_update_other _ _ (Ne.symm hb)).trans (k1 b o e)
  refine wpAny_bind (wpAny_letGo ?_)
  refine zl_extend (A := A.in1) (n := n) (S := s.heap.objs.size) (s := { s with heap := (s.heap.push { cls := .type "list", data := .seq #[] }).update s.heap.objs.size (Obj.mapSeq (fun _ => (#[] : Array Value))) }) hh D O ⟨Nat.le_of_lt lz, Nat.le_of_lt lTO, Nat.le_of_lt (Heap.lt_size a1), Nat.le_of_lt (Heap.lt_size a2)⟩ (oth _ _ O.z hz) (Z0.keep O fun b o hb e => oth b o hb e) hmin .none _ hS₂ (fun h' tk acc c as hk hS' hl hG hacc => ?_) hn
  exact ⟨rfl, hQ h' tk acc c as (fun b o h1 h2 h3 h4 e => hk b o (Nat.ne_of_lt (Heap.lt_size e)) h1 h2 h3 h4 (oth b o (Nat.ne_of_lt (Heap.lt_size e)) e)) hS' hl hG hacc⟩
end
/-- what list(zip(a, b)) leaves -/
def rZipL (K : PySem.W.Frag) : List V → Hp → VK → Prop := fun vs H Q => ∃ (a b : Addr) (xs ys : List V), vs = [.ref a, .ref b] ∧ SqL K H a xs ∧ SqL K H b ys ∧
  ∀ (H' : Hp) (p : Addr) (ts : List Addr), Same H H' → H p = none → H' p = some (.lst (ts.map V.ref)) → Paired (fun (t : Addr) (q : V × V) => H' t = some (.tup [q.1, q.2])) ts (xs.zip ys) → Q (.ref p) H'
def tListZip (K : PySem.W.Frag) (ta : TA) : TE := fun σ H Q => ta σ H fun vs H1 => rZipL K vs H1 Q
def putP (H : Hp) : List Addr → List (V × V) → Hp
  | t :: ts, q :: qs => upd (putP H ts qs) t (.tup [q.1, q.2])
  | _, _ => H
theorem putP_off {b : Addr} : ∀ (ts : List Addr) (qs : List (V × V)) (H : Hp), b ∉ ts → putP H ts qs b = H b
  | [], _, _, _ => rfl
  | t :: ts, [], _, _ => rfl
  | t :: ts, q :: qs, H, h => by
    show upd (putP H ts qs) t _ b = _
    rw [upd_ne (show b ≠ t from fun z => h (by rw [z]; exact List.mem_cons_self)), putP_off ts qs H fun z => h (List.mem_cons_of_mem _ z)]
theorem putP_at : ∀ (ts : List Addr) (qs : List (V × V)) (H : Hp), ts.length = qs.length → ts.Nodup → Paired (fun (t : Addr) (q : V × V) => putP H ts qs t = some (.tup [q.1, q.2])) ts qs
  | [], [], _, _, _ => .nil
  | t :: ts, q :: qs, H, hl, hn => by
    obtain ⟨n1, n2⟩ := List.nodup_cons.mp hn
    refine .cons upd_same ?_
    have ih := putP_at ts qs H (Nat.succ.inj hl) n2
    have aux : ∀ {as : List Addr} {bs : List (V × V)}, Paired (fun (t : Addr) (q : V × V) => putP H ts qs t = some (.tup [q.1, q.2])) as bs → t ∉ as → Paired (fun (t' : Addr) (q' : V × V) => putP H (t :: ts) (q :: qs) t' = some (.tup [q'.1, q'.2])) as bs := by
      intro as bs h
      induction h with
      | nil => exact fun _ => .nil
      | @cons a' b' as' bs' h1 _ ih2 =>
        intro hn
        refine .cons ?_ (ih2 fun z => hn (List.mem_cons_of_mem _ z))
        show upd (putP H ts qs) t _ a' = _
        rw [upd_ne (show a' ≠ t from fun z => hn (by rw [z]; exact List.mem_cons_self))]
        exact h1
    exact aux ih n1
  | [], _ :: _, _, h, _ => by cases h
  | _ :: _, [], _, h, _ => by cases h
theorem zip_vals {xs ys : List V} {us ws : List Value} (r1 : Vals xs us) (r2 : Vals ys ws) {j : Nat} {q : V × V} (h : (xs.zip ys)[j]? = some q) : ∃ u v, us[j]? = some u ∧ ws[j]? = some v ∧ RelV q.1 u ∧ RelV q.2 v := by
  rw [List.getElem?_zip_eq_some] at h
  obtain ⟨u, hu, ru⟩ := LiI.paired_get r1 h.1
  obtain ⟨v, hv, rv⟩ := LiI.paired_get r2 h.2
  exact ⟨u, v, hu, hv, ru, rv⟩
section
variable {X : Cx}
theorem zip_laid {pins : List (Addr × Obj)} {σ : L2.St} {H : Hp} {s : Shared} {h' : Heap} {tk : Nat} {xs ys : List V} {us ws : List Value} {acc : Array Value} {c : Nat} {as : List Addr} (I : Inv X pins σ H s) (hz : (xs.zip ys).length ≤ sizeLine) (r1 : Vals xs us) (r2 : Vals ys ws)
    (hk : ∀ b o, s.heap.get? b = some o → h'.get? b = some o) {S : Addr} (hSs : s.heap.objs.size ≤ S) (hS : h'.get? S = some { cls := .type "list", dict := none, data := .seq acc c, slots := #[] }) (hl : as.length = (xs.zip ys).length) (hG : ZG us.toArray ws.toArray S h' as) (hacc : acc.toList = as.map Value.ref) :
    ∃ H' : Hp, Same H H' ∧ H S = none ∧ H' S = some (.lst (as.map V.ref)) ∧ Paired (fun (t : Addr) (q : V × V) => H' t = some (.tup [q.1, q.2])) as (xs.zip ys) ∧ Inv X pins σ H' { s with heap := h', toks := tk } := by
  have hSn : S ∉ as := fun z => Nat.lt_irrefl _ (hG.above _ z)
  have nd : as.Nodup := List.Pairwise.imp (fun {a b} (h : a < b) => Nat.ne_of_lt h) hG.rise
  have new : ∀ t ∈ as, H t = none := fun t ht => I.hok.fresh (Nat.le_of_lt (Nat.lt_of_le_of_lt hSs (hG.above t ht)))
  have newS : H S = none := I.hok.fresh hSs
  have atP := putP_at as (xs.zip ys) (upd H S (.lst (as.map V.ref))) hl nd
  have off : ∀ b, b ∉ as → b ≠ S → putP (upd H S (.lst (as.map V.ref))) as (xs.zip ys) b = H b := fun b h1 h2 => by rw [putP_off as _ _ h1, upd_ne h2]
  have low : ∀ b o, s.heap.get? b = some o → b ∉ as ∧ b ≠ S := fun b o e => ⟨fun z => absurd (Heap.lt_size e) (Nat.not_lt.mpr (Nat.le_of_lt (Nat.lt_of_le_of_lt hSs (hG.above b z)))), Nat.ne_of_lt (Nat.lt_of_lt_of_le (Heap.lt_size e) hSs)⟩
  have kp : ∀ b u, H b = some u → (putP (upd H S (.lst (as.map V.ref))) as (xs.zip ys)) b = some u := fun b u e => by
    rw [off b (fun z => by rw [new b z] at e; cases e) (fun z => by rw [z, newS] at e; cases e)]
    exact e
  have eS : putP (upd H S (.lst (as.map V.ref))) as (xs.zip ys) S = some (.lst (as.map V.ref)) := by rw [putP_off as _ _ hSn, upd_same]
  refine ⟨putP (upd H S (.lst (as.map V.ref))) as (xs.zip ys), kp, newS, eS, atP, ?_⟩
  refine I.call' (ch := []) rfl ⟨fun b o q _ _ _ => hk b o q, fun b o q _ _ _ => ⟨o.slots, hk b o q⟩, fun b o q n _ => ?_, fun b o q _ => ⟨o, hk b o q⟩, fun b xs q => kp b _ q, fun b o u q => kp b _ q, fun b ps q => ⟨#[], by rw [kp b _ q]; simp⟩⟩ (fun b u q => ?_) I.bare fun b z => by simp at z
  · obtain ⟨z1, z2⟩ := low b o q
    rw [off b z1 z2]
    exact n
  · by_cases hb : b ∈ as
    · obtain ⟨j, pk, e1, e2, e3⟩ := LiI.paired_ix atP hb
      rw [e3] at q
      cases q
      obtain ⟨x, y, f1, f2, f3⟩ := hG.pairs j b e1
      obtain ⟨u, v, g1, g2, g3, g4⟩ := zip_vals r1 r2 e2
      have f1' : us[j]? = some x := by simpa using f1
      have f2' : ws[j]? = some y := by simpa using f2
      rw [g1] at f1'
      rw [g2] at f2'
      cases f1'
      cases f2'
      exact ⟨by show 2 ≤ sizeLine; decide, [x, y], .cons g3 (.cons g4 .nil), ⟨_, f3, rfl, _, rfl⟩⟩
    · by_cases hb2 : b = S
      · rw [hb2] at q ⊢
        rw [eS] at q
        cases q
        refine ⟨by rw [List.length_map, hl]; exact hz, acc.toList, c, by rw [hacc]; exact LiI.vals_refs as, ?_⟩
        rw [Array.toArray_toList]
        exact hS
      · rw [off b hb hb2] at q
        exact (I.hok b u q).stay (fun d v _ y => hk d v y) (fun d y => kp d _ y) fun d xs y => kp d _ y
/-- list(zip(e, e2)) -/
theorem pe_listZip {e e2 : Expr} {ta : TA} {p p2 pos pos2 : Pos} (hc : X.calm = true) (hgl : Gl X "list") (hml : X.mg "list" = none) (hvl : bootBuiltins "list" = some (.type "list")) (hg : Gl X "zip") (hm : X.mg "zip" = none) (ha : PA X [e, e2] ta)
    (hs : starEach [e, e2] X.env = (false, eval e X.env) :: starEach [e2] X.env := by rfl) (hpl : (backTo pos2 (starEach [e2] X.env)).any (·.1) = false := by rfl)
    (hs0 : starEach [.Call (.Name "zip" p2) [e, e2] [] pos2] X.env = (false, eval (.Call (.Name "zip" p2) [e, e2] [] pos2) X.env) :: starEach [] X.env := by rfl) :
    PE X (.Call (.Name "list" p) [.Call (.Name "zip" p2) [e, e2] [] pos2] [] pos) (tListZip X.K ta) := by
  refine ⟨fun pins s σ H Q I hq => ?_⟩
  refine wpAny_Call_Name_kw (ld_blt I hgl hml hvl ?_)
  refine PyProof.Rows.callWith_type1 ?_ hs0 rfl
  rw [hs0]
  show wpAny _ _ (spliced ((false, eval (.Call (.Name "zip" p2) [e, e2] [] pos2) X.env) :: backTo pos (starEach [] X.env))) _ _ s
  refine Calls.spliced_cons ?_
  refine Call_ (ld_blt I hg hm PyProof.Rows.boot_zip (PyProof.Rows.callWith_type1 (thn (ha.run pos2 pins s σ H _ I hq) fun us s1 ⟨vs, H1, I1, r1, q1⟩ => ?_) hs hpl))
  obtain ⟨a, b, xs, ys, ex, hqx, hqy, q⟩ := q1
  subst ex
  cases r1 with
  | cons r rr =>
    cases rr with
    | cons r' rr =>
      cases rr
      cases r
      cases r'
      obtain ⟨its, rv, p1, hz1⟩ := I1.list hqx
      obtain ⟨its2, rv2, p2', hz2⟩ := I1.list hqy
      have la : a < s1.heap.objs.size := p1.lt
      have lb : b < s1.heap.objs.size := p2'.lt
      have D := PySem.W.ktu_apart s1.heap.objs.size a b la lb
      refine call_zip_2 p1.isList p2'.isList fun h' hz hTI hTO h1 h2 hsz hk => Calls.spliced_nil ?_
      have I2 : Inv X pins σ H1 { s1 with heap := h' } := I1.kept (t' := s1.toks) hk
      have kl : ∀ {l : Addr} {ws : Array Value}, s1.heap.IsList l ws → h'.IsList l ws := fun hl => by
        obtain ⟨o, ho, hc⟩ := hl
        exact ⟨o, hk _ _ ho, hc⟩
      have hlz : (xs.zip ys).length = min its.toArray.size its2.toArray.size := by
        rw [List.length_zip, rv.length, rv2.length, List.size_toArray, List.size_toArray]
      refine zl_call (s := { s1 with heap := h' }) (I1.ok.hd hc) D hz (by show _ < h'.objs.size; omega) (fun S => ⟨hTI, h1, h2, kl p1.isList, kl p2'.isList, .inl ⟨hz, _, _, hTO⟩⟩) hlz (by rw [List.length_zip]; omega) fun h2' tk acc c as hk2 hS hl hG hacc => ?_
      obtain ⟨H', k1, k2, k3, k4, J⟩ := zip_laid (tk := tk) I1 (by rw [List.length_zip]; omega) rv rv2 (h' := h2') (fun b o e => by
        have lt := Heap.lt_size e
        exact hk2 b o (Nat.ne_of_lt (Nat.lt_of_lt_of_le lt (Nat.le_add_right _ _))) (Nat.ne_of_lt (Nat.lt_of_lt_of_le lt (Nat.le_add_right _ _))) (Nat.ne_of_lt lt) (Nat.ne_of_lt (Nat.lt_of_lt_of_le lt (Nat.le_add_right _ _))) (hk b o e)) (S := h'.objs.size) (by omega) hS hl hG hacc
      exact ⟨.ref _, H', J, rfl, q H' _ as k1 k2 k3 k4⟩
end
theorem sc_Part_bars : FnScope ["self"] ["self"] (defScope s_Part_bars) := ⟨rfl, rfl, rfl, by decide +kernel, rfl, by decide +kernel, by decide +kernel⟩
section
variable {K : PySem.W.Frag} {mg : Str → Option Value}
theorem b_Part_bars (T : Txt K mg) : Binds K (fdOf K ("Part", some "bars")) ["self"] [] := T.Part_bars.bindsN fun _ _ _ _ _ _ us hl => match us, hl with | [_], _ => rfl
end
def sp_Part_bars (K : PySem.W.Frag) : Sp := fun vs H Q _ => ∃ (p q : Addr) (bs : List Bar) (past : List (List Bar)), vs = [.ref p] ∧ PartX K H p q bs past ∧ ∀ H' a, Same H H' → H a = none → RowAt K H' a bs → Q (.ref a) H'
theorem ok_Part_bars {P : Program} {w : World} {K : PySem.W.Frag} {mg : Str → Option Value} {base : Heap} (T : Txt K mg) : OkF P w K mg base CX0 1 ("Part", some "bars") ["self"] (sp_Part_bars K) := by
  refine okN T.Part_bars sc_Part_bars (fun vs H Q E h => ?_) (fun cdv A outer s H vs Q E hr h => ?_)
  · obtain ⟨p, q, bs, past, rfl, _⟩ := h
    rfl
  · obtain ⟨p, q, bs, past, rfl, hp, k⟩ := h
    obtain ⟨dx, r, ws, h1, n, ⟨vs, h2, h3⟩, _⟩ := hp
    refine ⟨_, (pss_one (ps_ret (pe_callTy call_list_of (by rfl) T.b_list (by decide +kernel) (pa_cons (pe_fld (pv 0) rfl) pa_nil)))), ?_⟩
    refine ⟨_, rfl, p, _, dx, _, _, rfl, h1, T.cl_Part, T.n_row, pf_row, _, _, rfl, .inl (.of h2), fun l hl => ?_⟩
    exact k _ l (same_upd hl) hl ⟨vs, upd_same, dpa_same (same_upd hl) h3⟩
theorem sc_together : FnScope ["one", "other", "rows", "bar", "mine", "yours"] ["one", "other"] (defScope s_together) := ⟨rfl, rfl, rfl, by decide +kernel, rfl, by decide +kernel, by decide +kernel⟩
section
variable {K : PySem.W.Frag} {mg : Str → Option Value}
theorem b_together (T : Txt K mg) : Binds K (fdOf K ("together", none)) ["one", "other"] [] := T.together.bindsN fun _ _ _ _ _ _ us hl => match us, hl with | [_, _], _ => rfl
end
def bothL (bs cs : List Bar) : List Bar := (bs.zip cs).map fun q => bothB q.1 q.2
def sp_together (K : PySem.W.Frag) : Sp := fun vs H Q _ => ∃ (p1 q1 p2 q2 : Addr) (bs cs : List Bar) (past1 past2 : List (List Bar)), vs = [.ref p1, .ref p2] ∧ PartX K H p1 q1 bs past1 ∧ PartX K H p2 q2 cs past2 ∧ bs.map (·.b) = cs.map (·.b) ∧ (∀ b ∈ bs, BarOk b) ∧ (∀ b ∈ cs, BarOk b) ∧ bs.length ≤ 40 ∧
  ∀ H' p q, Same H H' → H p = none → H q = none → p ≠ q → PartX K H' p q (bothL bs cs) [] → Q (.ref p) H'
theorem ok_together {P : Program} {w : World} {K : PySem.W.Frag} {mg : Str → Option Value} {base : Heap} (T : Txt K mg) : OkF P w K mg base CX0 6 ("together", none) ["one", "other"] (sp_together K) := by
  refine okN T.together sc_together (fun vs H Q E h => ?_) (fun cdv A outer s H vs Q E hr h => ?_)
  · obtain ⟨p1, q1, p2, q2, bs, cs, past1, past2, rfl, _⟩ := h
    rfl
  · obtain ⟨p1, q1, p2, q2, bs, cs, past1, past2, rfl, hp1, hp2, hbc, ok1, ok2, hl, z⟩ := h
    refine ⟨_, (pss_cons (ps_set (i := 2) sc_together.nd rfl (by first | exact Or.inl rfl | exact Or.inr rfl) (pe_listZip rfl (by rfl) T.b_list (by decide +kernel) (by rfl) T.b_zip (pa_cons (pe_meth0 (pv 0) T.cl_Part T.m_Part_bars (ok_Part_bars T) (hr.mono (by decide)) (b_Part_bars T) .nil pass0) (pa_cons (pe_meth0 (pv 1) T.cl_Part T.m_Part_bars (ok_Part_bars T) (hr.mono (by decide)) (b_Part_bars T) .nil pass0) pa_nil))))
      (pss_cons (ps_for PassesOwn.never rfl (pi_enum (by rfl) T.b_enumerate (pa_cons (pv 2) pa_nil)) (pg_tup rfl (pgs_cons (pg_name (i := 3) sc_together.nd rfl (by first | exact Or.inl rfl | exact Or.inr rfl)) (pgs_cons (pg_tup rfl (pgs_cons (pg_name (i := 4) sc_together.nd rfl (by first | exact Or.inl rfl | exact Or.inr rfl)) (pgs_cons (pg_name (i := 5) sc_together.nd rfl (by first | exact Or.inl rfl | exact Or.inr rfl)) pgs_nil))) pgs_nil)))
      (pss_one (ps_if (pt_cmpR op_ne (pe_ix ix_tup (pv 4) pe_int (fun _ _ => rfl)) (pe_ix ix_tup (pv 5) pe_int (fun _ _ => rfl)) (nomark _)) pss_never pss_nil)))
      (pss_cons (ps_if (pt_cmpR op_ne (pe_callB (call_lenP T (ok_Part_len T) (hr.mono (by decide))) (by rfl) T.b_len PySem.boot_len (pa_cons (pv 0) pa_nil)) (pe_callB (call_lenP T (ok_Part_len T) (hr.mono (by decide))) (by rfl) T.b_len PySem.boot_len (pa_cons (pv 1) pa_nil)) (nomark _)) pss_never pss_nil)
      (pss_one (ps_ret (pe_make T.mk_Part (ok_Part_init T) (hr.mono (by decide)) (by rfl) T.g_Part (b1_Part T) .nil pass0 (pa_cons (pe_lc (own := [("mine", 4), ("yours", 5)]) (g := (gTup K 2 (gCons (gName 4) (gCons (gName 5) gNil)))) (tt := tYes)  (by rfl) sc_together.nd (pi_list (pv 2)) (blkOk_by (own := [("mine", 4), ("yours", 5)]) (N := ["one", "other", "rows", "bar", "mine", "yours"]) (sc := defScope s_together) (by decide +kernel)) (fun _ _ _ _ _ => (pg_tup rfl (pgs_cons (pg_name (i := 4) sc_together.nd rfl (by first | exact Or.inl rfl | exact Or.inr rfl)) (pgs_cons (pg_name (i := 5) sc_together.nd rfl (by first | exact Or.inl rfl | exact Or.inr rfl)) pgs_nil)))) (fun _ _ _ _ _ => pts_nil) (fun _ _ _ _ _ => (pe_call (ok_both_of T) (hr.mono (by decide)) (by rfl) T.g_both_of T.both_of.kp (b_both_of T) .nil pass0 (pa_cons (pv 4) (pa_cons (pv 5) pa_nil))))) pa_nil))))))), ?_⟩
    obtain ⟨dx1, r1, ws1, h1, _⟩ := id hp1
    obtain ⟨dx2, r2, ws2, h2, _⟩ := id hp2
    refine ⟨_, rfl, p1, dx1, _, rfl, h1, pf_no (by decide +kernel) (by decide +kernel), p1, q1, bs, past1, rfl, hp1, fun H1 a s1 na ra => ?_⟩
    refine ⟨_, rfl, p2, dx2, _, rfl, s1 _ _ h2, pf_no (by decide +kernel) (by decide +kernel), p2, q2, cs, past2, rfl, hp2.same s1, fun H2 b s2 nb rb => ?_⟩
    obtain ⟨av, ha1, ha2⟩ := id (ra.same s2)
    obtain ⟨bv, hb1, hb2⟩ := id rb
    refine ⟨a, b, av, bv, rfl, .of ha1, .of hb1, fun H3 L ts s3 nL hL hts => ?_⟩
    have hal := bars_len ha2
    have hbl := bars_len hb2
    have hlen : bs.length = cs.length := by
      have := congrArg List.length hbc
      rw [List.length_map, List.length_map] at this
      exact this
    have hat : ∀ (i : Nat) (v : V), (ts.map V.ref)[i]? = some v → ∃ (t : Addr) (x y : Bar) (p q : Addr), v = .ref t ∧ H3 t = some (.tup [.ref p, .ref q]) ∧ bs[i]? = some x ∧ cs[i]? = some y ∧ SqT K H3 p (barV x) ∧ SqT K H3 q (barV y) := fun i v hv => by
      rw [List.getElem?_map] at hv
      cases hti : ts[i]? with
      | none =>
        rw [hti] at hv
        cases hv
      | some t =>
        rw [hti] at hv
        obtain ⟨qv, hq, ht⟩ := LiI.paired_get hts hti
        rw [List.getElem?_zip_eq_some] at hq
        obtain ⟨x, p, hx, ex, hp⟩ := bar_at ha2 hq.1
        obtain ⟨y, q, hy, ey, hq'⟩ := bar_at hb2 hq.2
        rw [ex, ey] at ht
        exact ⟨t, x, y, p, q, (Option.some.inj hv).symm, ht, hx, hy, same_sqt s3 hp, same_sqt s3 hq'⟩
    have htl : ts.length = bs.length := by
      have := Paired.length hts
      rw [List.length_zip] at this
      omega
    refine ⟨_, rfl, L, _, rfl, .of hL, for_it (walk_enum (xs := ts.map V.ref)) (fun i σ H' => Same H3 H' ∧ ∃ y3 y4 y5, σ = [some (.ref p1), some (.ref p2), some (.ref L), y3, y4, y5]) ⟨Same.refl _, none, none, none, rfl⟩ ?_ ?_ ?_⟩
    · rintro i σ H' _ ⟨s', _⟩
      exact .of (s' _ _ hL)
    · rintro i v σ H' H'' hi ⟨s', y3, y4, y5, rfl⟩ hY
      obtain ⟨Tn, va, vb, rfl, nT, rfl, ea, eb⟩ := hY
      cases ea
      obtain ⟨t, x, y, p, q, rfl, ht, hx, hy, hp, hq⟩ := hat i vb eb
      have sT := s'.trans (same_upd (o := .tup [.int ((i : Nat) : Int), .ref t]) nT)
      have exy : x.b = y.b := by
        have h9 := congrArg (fun l : List Int => l[i]?) hbc
        simp only [List.getElem?_map, hx, hy, Option.map_some] at h9
        exact Option.some.inj h9
      refine ⟨Tn, _, rfl, .of upd_same, rfl, _, _, rfl, _, _, rfl, t, _, rfl, .of (sT _ _ ht), rfl, _, _, rfl, _, _, rfl, rfl, rfl, ?_⟩
      exact ⟨_, rfl, p, _, _, _, rfl, rfl, same_sqt sT hp, rfl, _, rfl, q, _, _, _, rfl, rfl, same_sqt sT hq, rfl, rfl, _, rfl, iteNNQ exy ⟨sT, _, _, _, rfl⟩⟩
    · rintro σ H4 ⟨s4, y3, y4, y5, rfl⟩
      have s04 := ((s1.trans s2).trans s3).trans s4
      refine ⟨_, rfl, p1, dx1, _, rfl, s04 _ _ h1, p1, q1, bs, past1, rfl, hp1.same s04, bs.length, rfl, by omega, _, rfl, p2, dx2, _, rfl, s04 _ _ h2, p2, q2, cs, past2, rfl, hp2.same s04, cs.length, rfl, by omega, rfl, _, rfl, iteNNQ (by omega) ?_⟩
      refine ⟨_, rfl, L, rfl, ⟨_, .of (s4 _ _ hL)⟩, fun D nD => lc_list (K := K) (a := L) (xs := ts.map V.ref) (fun i H' => Same H4 H' ∧ RowAt K H' D (bothL (bs.take i) (cs.take i))) ⟨same_upd nD, [], upd_same, .nil⟩ ?_ ?_ ?_⟩
      · rintro i H' _ ⟨s', _⟩
        exact .of ((s4.trans s') _ _ hL)
      · rintro i v H' hv ⟨s', ws, e, hws⟩
        obtain ⟨t, x, y, p, q, rfl, ht, hx, hy, hp, hq⟩ := hat i v hv
        have s3' := s4.trans s'
        refine ⟨t, _, rfl, .of (s3' _ _ ht), rfl, _, _, rfl, _, _, rfl, rfl, rfl, _, rfl, _, rfl, _, _, x, y, rfl, dp_bar_of (same_sqt s3' hp), dp_bar_of (same_sqt s3' hq), fun c nc => ?_⟩
        have sc := same_upd (o := .tup (barV (bothB x y))) nc
        have hD' := sc _ _ e
        obtain ⟨row6, f6⟩ := row_app (b := bothB x y) hD' (dpa_same sc hws) (dp_bar_of (.of upd_same))
        have hi := (List.getElem?_eq_some_iff.mp hx).1
        have eb : bothL (bs.take (i + 1)) (cs.take (i + 1)) = bothL (bs.take i) (cs.take i) ++ [bothB x y] := by
          unfold bothL
          rw [take_at hx, take_at hy, List.zip_append (by rw [List.length_take, List.length_take]; omega), List.map_append]
          rfl
        refine ⟨ws, hD', ?_, same_updR (s'.trans sc) nD, ?_⟩
        · rw [bars_len hws]
          unfold bothL
          rw [List.length_map, List.length_zip, List.length_take]
          exact small1000 (by omega)
        · rw [eb]
          exact row6
      · rintro H5 ⟨s5, row5⟩
        rw [List.length_map, htl, List.take_length, hlen, List.take_length] at row5
        have ok3 : ∀ b ∈ bothL bs cs, BarOk b := fun b hb => by
          obtain ⟨⟨x, y⟩, hxy, rfl⟩ := List.mem_map.mp hb
          have h1 := ok1 x (List.of_mem_zip hxy).1
          have h2 := ok2 y (List.of_mem_zip hxy).2
          obtain ⟨a1, a2, a3, a4⟩ := h1
          obtain ⟨b1, b2, b3, b4⟩ := h2
          exact ⟨by show 1 ≤ min 40 (x.w + y.w); omega, by show min 40 (x.w + y.w) ≤ 40; omega, a3, a4⟩
        refine make_part (.inr ⟨D, rfl, row5.dp⟩) ok3 (by unfold bothL; rw [List.length_map, List.length_zip]; omega) fun H6 p q s6 np nq npq hp6 => ?_
        have s05 := s04.trans s5
        exact z H6 p q (s05.trans s6) (s05.free np) (s05.free nq) npq hp6
/-! ### the first bar whose beats differ, or that one of them hasn't -/
def dfr (bs cs : List Bar) (i : Nat) : Bool := (bs[i]?.map Bar.b) != (cs[i]?.map Bar.b)
def unlikeOf (bs cs : List Bar) : Option Nat := match (List.range (min bs.length cs.length)).find? (dfr bs cs) with
  | some i => some i
  | none => if bs.length = cs.length then none else some (min bs.length cs.length)
theorem dfr_comm (bs cs : List Bar) (i : Nat) : dfr cs bs i = dfr bs cs i := by
  unfold dfr
  rw [Bool.eq_iff_iff, bne_iff_ne, bne_iff_ne]
  exact ⟨Ne.symm, Ne.symm⟩
theorem unlike_comm (bs cs : List Bar) : unlikeOf cs bs = unlikeOf bs cs := by
  have e : dfr cs bs = dfr bs cs := funext fun i => dfr_comm bs cs i
  unfold unlikeOf
  rw [e, Nat.min_comm]
  split
  · rfl
  · by_cases h : bs.length = cs.length
    · rw [if_pos h, if_pos h.symm]
    · rw [if_neg h, if_neg (fun z => h z.symm)]
theorem dfr_at {bs cs : List Bar} {i : Nat} {x y : Bar} (hx : bs[i]? = some x) (hy : cs[i]? = some y) : dfr bs cs i = true ↔ x.b ≠ y.b := by
  unfold dfr
  rw [hx, hy, bne_iff_ne]
  simp
theorem unlike_at {bs cs : List Bar} {i : Nat} (hi : i < min bs.length cs.length) (h : dfr bs cs i = true) (hb : ∀ j, j < i → dfr bs cs j = false) : unlikeOf bs cs = some i := by
  have e : (List.range (min bs.length cs.length)).find? (dfr bs cs) = some i := by
    rw [List.find?_range_eq_some]
    exact ⟨h, List.mem_range.mpr hi, fun j hj => by rw [hb j hj]; rfl⟩
  unfold unlikeOf
  rw [e]
theorem unlike_end {bs cs : List Bar} (hb : ∀ j, j < min bs.length cs.length → dfr bs cs j = false) : unlikeOf bs cs = if bs.length = cs.length then none else some (min bs.length cs.length) := by
  have e : (List.range (min bs.length cs.length)).find? (dfr bs cs) = none := by
    rw [List.find?_range_eq_none]
    exact fun j hj => by rw [hb j hj]; rfl
  unfold unlikeOf
  rw [e]
theorem unlike_none {bs cs : List Bar} (h : unlikeOf bs cs = none) : bs.map (·.b) = cs.map (·.b) := by
  unfold unlikeOf at h
  split at h
  · cases h
  · rename_i e
    by_cases hl : bs.length = cs.length
    · rw [List.find?_range_eq_none] at e
      refine List.ext_getElem? fun i => ?_
      rw [List.getElem?_map, List.getElem?_map]
      by_cases hi : i < bs.length
      · have h2 := e i (by omega)
        unfold dfr at h2
        simpa using h2
      · rw [List.getElem?_eq_none (by omega), List.getElem?_eq_none (by omega)]
    · rw [if_neg hl] at h
      cases h
theorem sc_Unlike_init : FnScope ["self", "bar"] ["self", "bar"] (defScope s_Unlike_init) := ⟨rfl, rfl, rfl, by decide +kernel, rfl, by decide +kernel, by decide +kernel⟩
section
variable {K : PySem.W.Frag} {mg : Str → Option Value}
theorem b_Unlike_init (T : Txt K mg) : Binds K (fdOf K ("Unlike", some "__init__")) ["self", "bar"] [] := T.Unlike_init.bindsN fun _ _ _ _ _ _ us hl => match us, hl with | [_, _], _ => rfl
end
def sp_Unlike_init (K : PySem.W.Frag) : Sp := fun vs H Q _ => ∃ (a : Addr) (x : V), vs = [.ref a, x] ∧ H a = some (exo a (He.ga K "Unlike") none) ∧ ∀ dx, H dx = none → dx ≠ a → Q .non (upd (upd H dx (exd dx [("bar", x)])) a (exo a (He.ga K "Unlike") (some dx)))
theorem oex_Unlike {K : PySem.W.Frag} {mg : Str → Option Value} (T : Txt K mg) : OexC K (He.ga K "Unlike") := oexC_of (exO2_ok T.k_Unlike) (exAll_ok T.k_exc "Unlike" (by decide +kernel)).f
theorem ok_Unlike_init {P : Program} {w : World} {K : PySem.W.Frag} {mg : Str → Option Value} {base : Heap} (T : Txt K mg) : OkF P w K mg base CX0 1 ("Unlike", some "__init__") ["self", "bar"] (sp_Unlike_init K) := by
  refine okN T.Unlike_init sc_Unlike_init (fun vs H Q E h => ?_) (fun cdv A outer s H vs Q E hr h => ?_)
  · obtain ⟨a, x, rfl, _⟩ := h
    rfl
  · obtain ⟨a, x, rfl, ha, z⟩ := h
    refine ⟨_, pss_cons (ps_expr (pe_leafinit (leaf_ok T.k_leaf) (by rfl) T.g_LeafError (pa_cons (pv 0) (pa_cons pe_str pa_nil)))) (pss_one (ps_ost (pv 0) (pv 1))), ?_⟩
    refine ⟨_, rfl, a, _, _, rfl, by decide, oex_Unlike T, ha, ?_⟩
    exact ⟨_, rfl, _, rfl, a, _, rfl, oex_Unlike T, (exO2_ok T.k_Unlike).no, .inl ⟨ha, fun dx n ne => z dx n ne⟩⟩
/-- raise Unlike(x) -/
theorem rz_Unlike {K : PySem.W.Frag} {H : Hp} {x : V} {Q : XK} (z : ∀ d H', Same H H' → H' d = some (.xd [("bar", x)]) → Q (.ref (He.ga K "Unlike")) (some d) H') :
    [x].length ≤ 1000 ∧ ∀ a, H a = none → sp_Unlike_init K (.ref a :: ([x] ++ [])) (upd H a (exo a (He.ga K "Unlike") none)) (fun v H2 => v = .non ∧ ∃ (d : Addr) (fs : List (Str × V)), H2 a = some (exo a (He.ga K "Unlike") (some d)) ∧ H2 d = some (exd d fs) ∧ H d = none ∧ Q (.ref (He.ga K "Unlike")) (some d) (upd (L2.del H2 a) d (.xd fs))) (fun _ _ _ => False) := by
  refine ⟨by show (1 : Nat) ≤ 1000; decide, fun a na => ⟨a, x, rfl, upd_same, fun dx nd ne => ⟨rfl, dx, _, upd_same, by rw [upd_ne ne, upd_same], by rw [upd_ne ne] at nd; exact nd, z dx _ (fun b o e => ?_) upd_same⟩⟩⟩
  rw [upd_ne ne] at nd
  have n1 := ne_of_none e na
  have n2 := ne_of_none e nd
  rw [upd_ne n2, L2.del_ne n1, upd_ne n1, upd_ne n2, upd_ne n1]
  exact e
/-- the rule -/
theorem ps_rais_Unlike {X : Cx} (T : Txt X.K X.mg) {W : WX} {e : Expr} {te : TE} {p p3 pos : Pos} (hr : Room 2 X.A) (hg : Gl X "Unlike") (tk : L2N.Takes X W) (hc : X.calm = true) (he : PE X e te) (hst : starEach [e] X.env = (false, eval e X.env) :: starEach [] X.env := by rfl) :
    PS X (.Raise (some (.Call (.Name "Unlike" p) [e] [] p3)) none pos) (fun _ σ H => tMkO (He.ga X.K "Unlike") (sp_Unlike_init X.K) [] (tCons te tNil) σ H fun cls d H' => W cls d σ H') :=
  L2N.ps_raise hc tk (pmkN_oex (oex_Unlike T) (exO2_ok T.k_Unlike).ini (exO2_ok T.k_Unlike).fn (ok_Unlike_init T) hr (b_Unlike_init T) (fun _ _ _ _ _ _ _ z => z.elim) hg T.g_Unlike (pa_cons he pa_nil hst) (by decide) hst (by rfl))
def spx_together (K : PySem.W.Frag) : Sp := fun vs H _ E => ∃ (p1 q1 p2 q2 : Addr) (bs cs : List Bar) (past1 past2 : List (List Bar)) (k : Nat), vs = [.ref p1, .ref p2] ∧ PartX K H p1 q1 bs past1 ∧ PartX K H p2 q2 cs past2 ∧ bs.length ≤ 40 ∧ cs.length ≤ 40 ∧ unlikeOf bs cs = some k ∧
  ∀ dd H', Same H H' → H' dd = some (.xd [("bar", .int (k : Int))]) → E (.ref (He.ga K "Unlike")) (some dd) H'
theorem okx_together {P : Program} {w : World} {K : PySem.W.Frag} {mg : Str → Option Value} {base : Heap} (T : Txt K mg) : OkF P w K mg base (L2N.CX P w) 6 ("together", none) ["one", "other"] (spx_together K) := by
  refine T.together.ok sc_together (fun vs H Q E h => ?_) (fun cdv A outer s H vs Q E hr h => ?_)
  · obtain ⟨p1, q1, p2, q2, bs, cs, past1, past2, k, rfl, _⟩ := h
    rfl
  · obtain ⟨p1, q1, p2, q2, bs, cs, past1, past2, k, rfl, hp1, hp2, hl1, hl2, hu, z⟩ := h
    refine ⟨_, (pss_cons (ps_set (i := 2) sc_together.nd rfl (by first | exact Or.inl rfl | exact Or.inr rfl) (pe_listZip rfl (by rfl) T.b_list (by decide +kernel) (by rfl) T.b_zip (pa_cons (pe_meth0 (pv 0) T.cl_Part T.m_Part_bars (ok_Part_bars T) (hr.mono (by decide)) (b_Part_bars T) .nil pass0) (pa_cons (pe_meth0 (pv 1) T.cl_Part T.m_Part_bars (ok_Part_bars T) (hr.mono (by decide)) (b_Part_bars T) .nil pass0) pa_nil))))
      (pss_cons (ps_for (passes_of rfl) rfl (pi_enum (by rfl) T.b_enumerate (pa_cons (pv 2) pa_nil)) (pg_tup rfl (pgs_cons (pg_name (i := 3) sc_together.nd rfl (by first | exact Or.inl rfl | exact Or.inr rfl)) (pgs_cons (pg_tup rfl (pgs_cons (pg_name (i := 4) sc_together.nd rfl (by first | exact Or.inl rfl | exact Or.inr rfl)) (pgs_cons (pg_name (i := 5) sc_together.nd rfl (by first | exact Or.inl rfl | exact Or.inr rfl)) pgs_nil))) pgs_nil)))
      (pss_one (ps_if (pt_cmpR op_ne (pe_ix ix_tup (pv 4) pe_int (fun _ _ => rfl)) (pe_ix ix_tup (pv 5) pe_int (fun _ _ => rfl)) (nomark _)) (pss_one (ps_rais_Unlike T (hr.mono (by decide)) (by rfl) (L2N.takes_of rfl rfl rfl rfl) rfl (pv 3))) pss_nil)))
      (pss_cons (ps_if (pt_cmpR op_ne (pe_callB (call_lenP T (ok_Part_len T) (hr.mono (by decide))) (by rfl) T.b_len PySem.boot_len (pa_cons (pv 0) pa_nil)) (pe_callB (call_lenP T (ok_Part_len T) (hr.mono (by decide))) (by rfl) T.b_len PySem.boot_len (pa_cons (pv 1) pa_nil)) (nomark _)) (pss_one (ps_rais_Unlike T (hr.mono (by decide)) (by rfl) (L2N.takes_of rfl rfl rfl rfl) rfl (pe_callB call_len (by rfl) T.b_len PySem.boot_len (pa_cons (pv 2) pa_nil)))) pss_nil)
      pss_never))), ?_⟩
    obtain ⟨dx1, r1, ws1, h1, _⟩ := id hp1
    obtain ⟨dx2, r2, ws2, h2, _⟩ := id hp2
    refine ⟨_, rfl, p1, dx1, _, rfl, h1, pf_no (by decide +kernel) (by decide +kernel), p1, q1, bs, past1, rfl, hp1, fun H1 a s1 na ra => ?_⟩
    refine ⟨_, rfl, p2, dx2, _, rfl, s1 _ _ h2, pf_no (by decide +kernel) (by decide +kernel), p2, q2, cs, past2, rfl, hp2.same s1, fun H2 b s2 nb rb => ?_⟩
    obtain ⟨av, ha1, ha2⟩ := id (ra.same s2)
    obtain ⟨bv, hb1, hb2⟩ := id rb
    refine ⟨a, b, av, bv, rfl, .of ha1, .of hb1, fun H3 L ts s3 nL hL hts => ?_⟩
    have hal := bars_len ha2
    have hbl := bars_len hb2
    have s03 := (s1.trans s2).trans s3
    have hat : ∀ (i : Nat) (v : V), (ts.map V.ref)[i]? = some v → ∃ (t : Addr) (x y : Bar) (p q : Addr), v = .ref t ∧ H3 t = some (.tup [.ref p, .ref q]) ∧ bs[i]? = some x ∧ cs[i]? = some y ∧ SqT K H3 p (barV x) ∧ SqT K H3 q (barV y) := fun i v hv => by
      rw [List.getElem?_map] at hv
      cases hti : ts[i]? with
      | none =>
        rw [hti] at hv
        cases hv
      | some t =>
        rw [hti] at hv
        obtain ⟨qv, hq, ht⟩ := LiI.paired_get hts hti
        rw [List.getElem?_zip_eq_some] at hq
        obtain ⟨x, p, hx, ex, hp⟩ := bar_at ha2 hq.1
        obtain ⟨y, q, hy, ey, hq'⟩ := bar_at hb2 hq.2
        rw [ex, ey] at ht
        exact ⟨t, x, y, p, q, (Option.some.inj hv).symm, ht, hx, hy, same_sqt s3 hp, same_sqt s3 hq'⟩
    have htl : ts.length = min bs.length cs.length := by
      have := Paired.length hts
      rw [List.length_zip] at this
      omega
    refine ⟨_, rfl, L, _, rfl, .of hL, for_it (walk_enum (xs := ts.map V.ref)) (fun i σ H' => Same H3 H' ∧ (∀ j, j < i → dfr bs cs j = false) ∧ ∃ y3 y4 y5, σ = [some (.ref p1), some (.ref p2), some (.ref L), y3, y4, y5]) ⟨Same.refl _, (fun j hj => absurd hj (Nat.not_lt_zero _)), none, none, none, rfl⟩ ?_ ?_ ?_⟩
    · rintro i σ H' _ ⟨s', _⟩
      exact .of (s' _ _ hL)
    · rintro i v σ H' H'' hi ⟨s', hlt, y3, y4, y5, rfl⟩ hY
      obtain ⟨Tn, va, vb, rfl, nT, rfl, ea, eb⟩ := hY
      cases ea
      obtain ⟨t, x, y, p, q, rfl, ht, hx, hy, hp, hq⟩ := hat i vb eb
      have sT := s'.trans (same_upd (o := .tup [.int ((i : Nat) : Int), .ref t]) nT)
      refine ⟨Tn, _, rfl, .of upd_same, rfl, _, _, rfl, _, _, rfl, t, _, rfl, .of (sT _ _ ht), rfl, _, _, rfl, _, _, rfl, rfl, rfl, ?_⟩
      refine ⟨_, rfl, p, _, _, _, rfl, rfl, same_sqt sT hp, rfl, _, rfl, q, _, _, _, rfl, rfl, same_sqt sT hq, rfl, rfl, _, rfl, ite2NQ (fun ne => ?_) (fun eq => ⟨sT, fun j hj => ?_, _, _, _, rfl⟩)⟩
      · have hi' : i < min bs.length cs.length := by
          rw [List.length_map] at hi
          omega
        have ek := unlike_at hi' ((dfr_at hx hy).mpr ne) hlt
        rw [hu] at ek
        cases ek
        exact ⟨_, rfl, rz_Unlike fun dd H5 s5 h5 => z dd H5 ((s03.trans sT).trans s5) h5⟩
      · rcases Nat.lt_succ_iff_lt_or_eq.mp hj with h | h
        · exact hlt j h
        · rw [h, Bool.eq_false_iff]
          exact fun z => (dfr_at hx hy).mp z eq
    · rintro σ H4 ⟨s4, hlt, y3, y4, y5, rfl⟩
      rw [List.length_map, htl] at hlt
      have ek := unlike_end hlt
      rw [hu] at ek
      have ne : bs.length ≠ cs.length := fun e => by
        rw [if_pos e] at ek
        cases ek
      rw [if_neg ne] at ek
      have ek : k = min bs.length cs.length := Option.some.inj ek
      have s04 := s03.trans s4
      refine ⟨_, rfl, p1, dx1, _, rfl, s04 _ _ h1, p1, q1, bs, past1, rfl, hp1.same s04, bs.length, rfl, by omega, _, rfl, p2, dx2, _, rfl, s04 _ _ h2, p2, q2, cs, past2, rfl, hp2.same s04, cs.length, rfl, by omega, rfl, _, rfl, iteNEQ (by omega) ?_⟩
      refine ⟨_, rfl, _, _, rfl, .inl ⟨_, .of (s4 _ _ hL), rfl⟩, rz_Unlike fun dd H5 s5 h5 => z dd H5 (s04.trans s5) ?_⟩
      rw [List.length_map, htl, ← ek] at h5
      exact h5
theorem okw_together {P : Program} {w : World} {K : PySem.W.Frag} {mg : Str → Option Value} {base : Heap} (T : Txt K mg) : OkF P w K mg base (L2N.CX P w) 6 ("together", none) ["one", "other"] (fun vs H Q E => sp_together K vs H Q E ∨ spx_together K vs H Q E) := okOr (okLift (ok_together T)) (okx_together T)
theorem sc_Part_take_back : FnScope ["self"] ["self"] (defScope s_Part_take_back) := ⟨rfl, rfl, rfl, by decide +kernel, rfl, by decide +kernel, by decide +kernel⟩
section
variable {K : PySem.W.Frag} {mg : Str → Option Value}
theorem b_Part_take_back (T : Txt K mg) : Binds K (fdOf K ("Part", some "take_back")) ["self"] [] := T.Part_take_back.bindsN fun _ _ _ _ _ _ us hl => match us, hl with | [_], _ => rfl
end
def spx_Part_take_back (K : PySem.W.Frag) : Sp := fun vs H _ E => ∃ (p q : Addr) (bs : List Bar), vs = [.ref p] ∧ PartX K H p q bs [] ∧ ∀ H', Same H H' → E (.ref (He.ga K "Nothing")) none H'
theorem okx_Part_take_back {P : Program} {w : World} {K : PySem.W.Frag} {mg : Str → Option Value} {base : Heap} (T : Txt K mg) : OkF P w K mg base (L2N.CX P w) 3 ("Part", some "take_back") ["self"] (spx_Part_take_back K) := by
  refine T.Part_take_back.ok sc_Part_take_back (fun vs H Q E h => ?_) (fun cdv A outer s H vs Q E hr h => ?_)
  · obtain ⟨p, q, bs, rfl, _⟩ := h
    rfl
  · obtain ⟨p, q, bs, rfl, hp, z⟩ := h
    obtain ⟨dx, r, ws, h1, n, ⟨vs, h2, h3⟩, h4, h5⟩ := id hp
    cases h5
    refine ⟨_, (pss_cons (ps_if (pt_cmpR (op_eqD hr.units) (pe_fld (pv 0) rfl) (pe_lst pa_nil) (nomark _)) (pss_one (ps_rais T (n := "Nothing") (by decide +kernel) T.g_Nothing (by rfl) (L2N.takes_of rfl rfl rfl rfl) rfl)) pss_nil)
      pss_never), ?_⟩
    refine ⟨_, rfl, p, _, dx, _, _, rfl, h1, T.cl_Part, T.n_past, pf_past, by show (0 : Nat) ≤ sizeLine; decide, fun c nc => ?_⟩
    have sc := same_upd (o := .lst []) nc
    refine ⟨.list [], .list [], .lst (.of (sc _ _ h4)) .nil, .lst (.of upd_same) .nil, by decide +kernel, by decide +kernel, _, rfl, ?_⟩
    exact iteT (z _ sc)
theorem sc_need : FnScope ["good"] ["good"] (defScope s_need) := ⟨rfl, rfl, rfl, by decide +kernel, rfl, by decide +kernel, by decide +kernel⟩
section
variable {K : PySem.W.Frag} {mg : Str → Option Value}
theorem b_need (T : Txt K mg) : Binds K (fdOf K ("need", none)) ["good"] [] := T.need.bindsN fun _ _ _ _ _ _ us hl => match us, hl with | [_], _ => rfl
end
def spx_need (K : PySem.W.Frag) : Sp := fun vs H _ E => vs = [.bl false] ∧ E (.ref (He.ga K "BadText")) none H
theorem okx_need {P : Program} {w : World} {K : PySem.W.Frag} {mg : Str → Option Value} {base : Heap} (T : Txt K mg) : OkF P w K mg base (L2N.CX P w) 2 ("need", none) ["good"] (spx_need K) := by
  refine T.need.ok sc_need (fun vs H Q E h => ?_) (fun cdv A outer s H vs Q E hr h => ?_)
  · obtain ⟨rfl, _⟩ := h
    rfl
  · obtain ⟨rfl, z⟩ := h
    refine ⟨_, (pss_one (ps_if (pt_not (pt_val (pv 0))) (pss_one (ps_rais T (n := "BadText") (by decide +kernel) T.g_BadText (by rfl) (L2N.takes_of rfl rfl rfl rfl) rfl)) pss_nil)), ?_⟩
    exact ⟨_, rfl, _, rfl, iteT z⟩
/-! ### bars as texts -/
theorem str_len (a b : Str) : (a ++ b).length = a.length + b.length := by
  show (a.cps ++ b.cps).size = a.cps.size + b.cps.size
  exact Array.size_append
def numS (i : Int) : Str := Str.ofString (toString i)
def barS (x : Bar) : Str := Str.empty ++ numS x.w ++ Str.ofString "x" ++ numS x.b ++ (if x.r = true then Str.ofString "r" else Str.ofString "")
theorem num_len41 : ∀ n : _root_.Fin 41, (numS ((n : Nat) : Int)).length ≤ 2 := by decide +kernel
theorem num_len {i : Int} (h0 : 0 ≤ i) (h1 : i ≤ 40) : (numS i).length ≤ 2 := by
  have h := num_len41 ⟨i.toNat, by omega⟩
  have e : (((⟨i.toNat, by omega⟩ : _root_.Fin 41) : Nat) : Int) = i := Int.toNat_of_nonneg h0
  rw [e] at h
  exact h
theorem num_log {i : Int} (h0 : 0 ≤ i) (h1 : i ≤ 40) : i.natAbs.log2 < 1920 := by
  have h : i.natAbs < 2 ^ 6 := by omega
  exact Nat.lt_of_lt_of_le (PySem.Flt.log2_lt_of (by decide) h) (by decide)
theorem bar_len {x : Bar} (h : BarOk x) : (barS x).length ≤ 6 := by
  obtain ⟨h1, h2, h3, h4⟩ := h
  unfold barS
  rw [str_len, str_len, str_len, str_len]
  have a := num_len (i := x.w) (by omega) h2
  have b := num_len (i := x.b) (by omega) (by omega)
  have c : Str.empty.length = 0 := rfl
  have d : (Str.ofString "x").length = 1 := by decide
  have e : (if x.r = true then Str.ofString "r" else Str.ofString "").length ≤ 1 := by
    split <;> decide
  omega
theorem bars_lens : ∀ {bs : List Bar}, (∀ b ∈ bs, BarOk b) → ((bs.map barS).map (·.length)).sum ≤ 6 * bs.length
  | [], _ => by simp
  | x :: r, h => by
    have h1 := bar_len (h x List.mem_cons_self)
    have h2 := bars_lens (bs := r) fun b hb => h b (List.mem_cons_of_mem _ hb)
    simp only [List.map_cons, List.sum_cons, List.length_cons]
    omega
def barsS (bs : List Bar) : Str := Txt.join (Str.ofString " ") (bs.map barS)
/-! ### parts as texts -/
def tailS (b : Int) (r : Bool) : Str := numS b ++ (if r = true then Str.ofString "r" else Str.ofString "")
def saveS (bs : List Bar) : Str := barsS bs ++ Str.ofString "."
theorem str_assoc (a b c : Str) : a ++ b ++ c = a ++ (b ++ c) := by
  refine ext_tl ?_
  rw [tl_append, tl_append, tl_append, tl_append, List.append_assoc]
theorem str_nil (a : Str) : Str.empty ++ a = a := by
  refine ext_tl ?_
  rw [tl_append]
  rfl
theorem barS_eq (x : Bar) : barS x = numS x.w ++ Str.ofString "x" ++ tailS x.b x.r := by
  unfold barS tailS
  rw [str_nil, str_assoc (numS x.w ++ Str.ofString "x")]
/-- signs of a number up to forty -/
def figOk (z : Str) : Bool := decide (0 < z.length) && decide (z.length < 5) && z.cps.toList.all (fun c => decide (c ∈ (Str.ofString "0123456789").cps.toList))
theorem fig41 : ∀ n : _root_.Fin 41, figOk (numS ((n : Nat) : Int)) = true ∧ intText? (numS ((n : Nat) : Int)) = some ((n : Nat) : Int) := by decide +kernel
theorem fin41 {i : Int} (h0 : 0 ≤ i) (h1 : i ≤ 40) : ∃ n : _root_.Fin 41, ((n : Nat) : Int) = i := ⟨⟨i.toNat, by omega⟩, Int.toNat_of_nonneg h0⟩
theorem num_fig {i : Int} (h0 : 0 ≤ i) (h1 : i ≤ 40) : figOk (numS i) = true ∧ intText? (numS i) = some i := by
  obtain ⟨n, rfl⟩ := fin41 h0 h1
  exact fig41 n
theorem fig_sign {z : Str} (h : figOk z = true) {c : Nat} (hc : c ∈ z.cps.toList) : c ∈ (Str.ofString "0123456789").cps.toList := by
  unfold figOk at h
  rw [Bool.and_eq_true, Bool.and_eq_true] at h
  exact of_decide_eq_true (List.all_eq_true.mp h.2 c hc)
theorem fig_len {z : Str} (h : figOk z = true) : 0 < z.length ∧ z.length < 5 := by
  unfold figOk at h
  rw [Bool.and_eq_true, Bool.and_eq_true] at h
  exact ⟨of_decide_eq_true h.1.1, of_decide_eq_true h.1.2⟩
theorem digits_free : ∀ c ∈ (Str.ofString "0123456789").cps.toList, 48 ≤ c ∧ c ≤ 57 := by decide +kernel
theorem num_free {i : Int} (h0 : 0 ≤ i) (h1 : i ≤ 40) {c : Nat} (h : c ∈ tl (numS i)) : 48 ≤ c ∧ c ≤ 57 := digits_free c (fig_sign (num_fig h0 h1).1 h)
theorem tail17 : ∀ (n : _root_.Fin 41) (r : Bool), Txt.rstripChars (tailS ((n : Nat) : Int) r) (Str.ofString "r") = numS ((n : Nat) : Int) ∧ decide (cutS (tailS ((n : Nat) : Int) r) (some (-1)) none = Str.ofString "r") = r := by decide +kernel
theorem tail_ok {b : Int} (h0 : 0 ≤ b) (h1 : b ≤ 40) (r : Bool) : Txt.rstripChars (tailS b r) (Str.ofString "r") = numS b ∧ decide (cutS (tailS b r) (some (-1)) none = Str.ofString "r") = r := by
  obtain ⟨n, rfl⟩ := fin41 h0 h1
  exact tail17 n r
theorem tl_r (r : Bool) : ∀ c ∈ tl (if r = true then Str.ofString "r" else Str.ofString ""), c = 114 := by
  cases r <;> decide +kernel
theorem tl_x : tl (Str.ofString "x") = [120] := by decide +kernel
theorem tl_dot : tl (Str.ofString ".") = [46] := by decide +kernel
theorem tl_blank : tl (Str.ofString " ") = [32] := by decide +kernel
theorem part_bar {x : Bar} (h : BarOk x) : Txt.partition (barS x) (Str.ofString "x") = (numS x.w, Str.ofString "x", tailS x.b x.r) := by
  obtain ⟨h1, h2, h3, h4⟩ := h
  rw [barS_eq]
  exact partition_app tl_x fun hc => by
    have := num_free (by omega) h2 hc
    omega
theorem bar_signs {x : Bar} (h : BarOk x) {c : Nat} (hc : c ∈ tl (barS x)) : 48 ≤ c := by
  obtain ⟨h1, h2, h3, h4⟩ := h
  rw [barS_eq, tl_append, tl_append, tl_x] at hc
  unfold tailS at hc
  rw [tl_append] at hc
  rcases List.mem_append.mp hc with hc | hc
  · rcases List.mem_append.mp hc with hc | hc
    · exact (num_free (by omega) h2 hc).1
    · have := List.mem_singleton.mp hc
      omega
  · rcases List.mem_append.mp hc with hc | hc
    · exact (num_free (by omega) (by omega) hc).1
    · have := tl_r x.r c hc
      omega
theorem split_bars {bs : List Bar} (hne : bs ≠ []) (ok : ∀ b ∈ bs, BarOk b) : Txt.split (barsS bs) (Str.ofString " ") = bs.map barS := by
  unfold barsS
  refine split_join tl_blank (by decide +kernel) (fun e => hne (List.map_eq_nil_iff.mp e)) fun p hp hc => ?_
  obtain ⟨b, hb, rfl⟩ := List.mem_map.mp hp
  have := bar_signs (ok b hb) hc
  omega
theorem joinL_signs {S : List Nat} : ∀ {ps : List (List Nat)} {c : Nat}, c ∈ joinL S ps → c ∈ S ∨ ∃ p ∈ ps, c ∈ p
  | [], _, h => by cases h
  | [p], _, h => .inr ⟨p, List.mem_singleton.mpr rfl, h⟩
  | p :: q :: r, c, h => by
    have h' : c ∈ p ++ (S ++ joinL S (q :: r)) := h
    rcases List.mem_append.mp h' with h | h
    · exact .inr ⟨p, List.mem_cons_self, h⟩
    · rcases List.mem_append.mp h with h | h
      · exact .inl h
      · rcases joinL_signs h with h | ⟨p', h1, h2⟩
        · exact .inl h
        · exact .inr ⟨p', List.mem_cons_of_mem _ h1, h2⟩
theorem bars_nodot {bs : List Bar} (ok : ∀ b ∈ bs, BarOk b) : (46 : Nat) ∉ tl (barsS bs) := fun h => by
  unfold barsS at h
  rw [join_eq, tl_join, tl_blank] at h
  rcases joinL_signs h with h | ⟨p, h1, h2⟩
  · have := List.mem_singleton.mp h
    omega
  · obtain ⟨z, hz, rfl⟩ := List.mem_map.mp h1
    obtain ⟨b, hb, rfl⟩ := List.mem_map.mp hz
    have := bar_signs (ok b hb) h2
    omega
theorem save_len (bs : List Bar) : (saveS bs).length = (barsS bs).length + 1 := by
  unfold saveS
  rw [str_len]
  rfl
theorem sIx_neg1 (n d : Nat) : HT.sIx (n + 1) d (some (-1)) = n := by
  show (if (-1 : Int) < 0 then ((-1 : Int) + ((n + 1 : Nat) : Int)).toNat else min (-1 : Int).toNat (n + 1)) = n
  rw [if_pos (by decide)]
  omega
theorem cut_last (bs : List Bar) : cutS (saveS bs) (some (-1)) none = Str.ofString "." := by
  refine ext_tl ?_
  show ((tl (saveS bs)).drop (HT.sIx (saveS bs).length 0 (some (-1)))).take (HT.sIx (saveS bs).length (saveS bs).length none - HT.sIx (saveS bs).length 0 (some (-1))) = _
  rw [save_len, sIx_neg1, HT.sIx_none, tl_dot]
  unfold saveS
  rw [tl_append, tl_dot, len_tl, List.drop_append_of_le_length (Nat.le_refl _), List.drop_length]
  simp
theorem cut_front (bs : List Bar) : cutS (saveS bs) none (some (-1)) = barsS bs := by
  refine ext_tl ?_
  show ((tl (saveS bs)).drop (HT.sIx (saveS bs).length 0 none)).take (HT.sIx (saveS bs).length (saveS bs).length (some (-1)) - HT.sIx (saveS bs).length 0 none) = _
  rw [save_len, sIx_neg1, HT.sIx_none]
  unfold saveS
  rw [tl_append, len_tl]
  simp
theorem save_dot {bs : List Bar} (ok : ∀ b ∈ bs, BarOk b) : saveS bs = Str.ofString "." ↔ bs = [] := by
  refine ⟨fun h => ?_, fun h => by rw [h]; decide +kernel⟩
  have h1 := congrArg tl h
  unfold saveS at h1
  rw [tl_append, tl_dot] at h1
  have h2 : tl (barsS bs) = [] := by
    have := congrArg List.length h1
    rw [List.length_append] at this
    exact List.eq_nil_of_length_eq_zero (by simpa using this)
  cases bs with
  | nil => rfl
  | cons x r =>
    exfalso
    have hx := ok x List.mem_cons_self
    have hn : tl (barS x) = [] := by
      unfold barsS at h2
      rw [join_eq, tl_join] at h2
      cases r with
      | nil => exact h2
      | cons y r => exact (List.append_eq_nil_iff.mp h2).1
    rw [barS_eq, tl_append, tl_append, tl_x] at hn
    have := congrArg List.length hn
    rw [List.length_append, List.length_append] at this
    simp at this
theorem bars_len6 {bs : List Bar} (ok : ∀ b ∈ bs, BarOk b) (h : bs.length ≤ 1000) : (barsS bs).length ≤ 7 * bs.length := by
  have e : ∀ {l : List Bar}, (∀ b ∈ l, BarOk b) → (joinL [32] ((l.map barS).map tl)).length ≤ 7 * l.length := by
    intro l
    induction l with
    | nil => intro _; exact Nat.le_refl _
    | cons x r ih =>
      intro hl
      have h1 := bar_len (hl x List.mem_cons_self)
      have h2 := ih fun b hb => hl b (List.mem_cons_of_mem _ hb)
      rw [len_tl] at h1
      cases r with
      | nil =>
        show (tl (barS x)).length ≤ 7 * 1
        omega
      | cons y r =>
        show (tl (barS x) ++ ([32] ++ joinL [32] (((y :: r).map barS).map tl))).length ≤ 7 * ((y :: r).length + 1)
        rw [List.length_append, List.length_append]
        have h3 : ([32] : List Nat).length = 1 := rfl
        omega
  rw [len_tl]
  unfold barsS
  rw [join_eq, tl_join, tl_blank]
  exact e ok
theorem sc_woken : FnScope ["text", "words", "found", "word"] ["text"] (defScope s_woken) := ⟨rfl, rfl, rfl, by decide +kernel, rfl, by decide +kernel, by decide +kernel⟩
section
variable {K : PySem.W.Frag} {mg : Str → Option Value}
theorem b_woken (T : Txt K mg) : Binds K (fdOf K ("woken", none)) ["text"] [] := T.woken.bindsN fun _ _ _ _ _ _ us hl => match us, hl with | [_], _ => rfl
end
/-- what ends with no stop, or is no text -/
def noText : PyData → Prop
  | .str z => z.length ≤ sizeLine ∧ cutS z (some (-1)) none ≠ Str.ofString "."
  | _ => True
def spx_woken (K : PySem.W.Frag) : Sp := fun vs H _ E => ∃ v d, vs = [v] ∧ Dp K H v d ∧ noText d ∧ E (.ref (He.ga K "BadText")) none H
theorem okx_woken {P : Program} {w : World} {K : PySem.W.Frag} {mg : Str → Option Value} {base : Heap} (T : Txt K mg) : OkF P w K mg base (L2N.CX P w) 4 ("woken", none) ["text"] (spx_woken K) := by
  refine T.woken.ok sc_woken (fun vs H Q E h => ?_) (fun cdv A outer s H vs Q E hr h => ?_)
  · obtain ⟨v, d, rfl, _⟩ := h
    rfl
  · obtain ⟨v, d, rfl, hd, nd, z⟩ := h
    refine ⟨_, (pss_cons (ps_expr (pe_call (okx_need T) (hr.mono (by decide)) (by rfl) T.g_need T.need.kp (b_need T) .nil (passN rfl rfl rfl rfl) (pa_cons (pe_and (pe_callB call_isi (by rfl) T.b_isinstance (by decide +kernel) (pa_cons (pv 0) (pa_cons (pe_bltn (v := .ty "str") (by rfl) T.b_str (by decide +kernel) rfl) pa_nil))) (pe_one (pe_cmpR op_eq (pe_slice sl_str (pv 0) (po_some (pe_un un_neg pe_int)) po_none) (pe_glob (v := .str ".") (by rfl) T.c_END.choose_spec ⟨_, rfl⟩) (nomark _)))) pa_nil)))
      pss_never), ?_⟩
    refine ⟨_, rfl, _, _, _, _, _, rfl, .ty _, dp_ty hd, kit_str d, _, rfl, ?_⟩
    cases d with
    | str t =>
      cases hd
      obtain ⟨n1, n2⟩ := nd
      exact iteT ⟨_, rfl, _, rfl, _, rfl, _, rfl, n1, rfl, by rw [decide_eq_false (fun e => n2 (V.str.inj e))]; rfl, z⟩
    | _ => exact iteF ⟨rfl, z⟩
theorem sc_Part_str : FnScope ["self", "width", "beats", "rests"] ["self"] (defScope s_Part_str) := ⟨rfl, rfl, rfl, by decide +kernel, rfl, by decide +kernel, by decide +kernel⟩
section
variable {K : PySem.W.Frag} {mg : Str → Option Value}
theorem b_Part_str (T : Txt K mg) : Binds K (fdOf K ("Part", some "__str__")) ["self"] [] := T.Part_str.bindsN fun _ _ _ _ _ _ us hl => match us, hl with | [_], _ => rfl
end
def sp_Part_str (K : PySem.W.Frag) : Sp := fun vs H Q _ => ∃ (p q : Addr) (bs : List Bar) (past : List (List Bar)), vs = [.ref p] ∧ PartX K H p q bs past ∧ (∀ b ∈ bs, BarOk b) ∧ bs.length ≤ 1000 ∧ ∀ H', Same H H' → Q (.str (barsS bs)) H'
theorem ok_Part_str {P : Program} {w : World} {K : PySem.W.Frag} {mg : Str → Option Value} {base : Heap} (T : Txt K mg) : OkF P w K mg base CX0 1 ("Part", some "__str__") ["self"] (sp_Part_str K) := by
  refine okN T.Part_str sc_Part_str (fun vs H Q E h => ?_) (fun cdv A outer s H vs Q E hr h => ?_)
  · obtain ⟨p, q, bs, past, rfl, _⟩ := h
    rfl
  · obtain ⟨p, q, bs, past, rfl, hp, ok, hl, k⟩ := h
    obtain ⟨dx, r, ws, h1, n, ⟨vs, h2, h3⟩, _⟩ := hp
    refine ⟨_, (pss_one (ps_ret (pe_join pe_str (pe_lc (own := [("width", 1), ("beats", 2), ("rests", 3)]) (g := (gTup K 3 (gCons (gName 1) (gCons (gName 2) (gCons (gName 3) gNil))))) (tt := tYes)  (by rfl) sc_Part_str.nd (pi_list (pe_fld (pv 0) rfl)) (blkOk_by (own := [("width", 1), ("beats", 2), ("rests", 3)]) (N := ["self", "width", "beats", "rests"]) (sc := defScope s_Part_str) (by decide +kernel)) (fun _ _ _ _ _ => (pg_tup rfl (pgs_cons (pg_name (i := 1) sc_Part_str.nd rfl (by first | exact Or.inl rfl | exact Or.inr rfl)) (pgs_cons (pg_name (i := 2) sc_Part_str.nd rfl (by first | exact Or.inl rfl | exact Or.inr rfl)) (pgs_cons (pg_name (i := 3) sc_Part_str.nd rfl (by first | exact Or.inl rfl | exact Or.inr rfl)) pgs_nil))))) (fun _ _ _ _ _ => pts_nil) (fun _ _ _ _ _ => (pe_op op_add_str (pe_joined (PJ.cons (pe_fmt (pv 1)) (PJ.cons pe_str (PJ.cons (pe_fmt (pv 2)) PJ.nil)))) (pe_ifExp (pt_val (pv 3)) pe_str pe_str))))))), ?_⟩
    refine ⟨⟨_, rfl⟩, _, rfl, p, _, dx, _, _, rfl, h1, T.cl_Part, T.n_row, pf_row, r, rfl, ⟨_, .of h2⟩, fun D hD => lc_list (K := K) (a := r) (xs := vs) (fun i H' => Same H H' ∧ H' D = some (.lst (((bs.take i).map barS).map V.str))) ⟨same_upd hD, ?_⟩ ?_ ?_ ?_⟩
    · rw [upd_same]
      rfl
    · rintro i H' _ ⟨s, _⟩
      exact .of (s _ _ h2)
    · rintro i v H' hv ⟨s, e⟩
      obtain ⟨b, t, hb, rfl, ht⟩ := bar_at h3 hv
      have okb := ok b (List.mem_of_getElem? hb)
      obtain ⟨o1, o2, o3, o4⟩ := id okb
      have lw := num_len (i := b.w) (by omega) o2
      have lb := num_len (i := b.b) (by omega) (by omega)
      have le : Str.empty.length = 0 := rfl
      have lx : (Str.ofString "x").length = 1 := by decide
      have hsz : 1000 < sizeLine := by decide
      refine ⟨t, _, rfl, same_sqt s ht, rfl, _, _, rfl, _, _, rfl, _, _, rfl, rfl, rfl, ?_⟩
      refine ⟨_, rfl, .inr ⟨_, rfl, num_log (by omega) o2, _, rfl, ?_, _, rfl, ?_, _, rfl, .inr ⟨_, rfl, num_log (by omega) (by omega), _, rfl, ?_, ?_⟩⟩⟩
      · show (Str.empty ++ numS b.w).length ≤ sizeLine
        rw [str_len]
        omega
      · show (Str.empty ++ numS b.w ++ Str.ofString "x").length ≤ sizeLine
        rw [str_len, str_len]
        omega
      · show (Str.empty ++ numS b.w ++ Str.ofString "x" ++ numS b.b).length ≤ sizeLine
        rw [str_len, str_len, str_len]
        omega
      · refine ⟨_, rfl, _, rfl, ?_⟩
        have hlen : ((bs.take i).map barS).length ≤ 1000 := by
          rw [List.length_map, List.length_take]
          omega
        have fin : ∀ y : Str, (if b.r = true then Str.ofString "r" else Str.ofString "") = y → Same H (upd H' D (.lst (((bs.take i).map barS).map V.str ++ [V.str (Str.empty ++ numS b.w ++ Str.ofString "x" ++ numS b.b ++ y)]))) ∧
            (upd H' D (.lst (((bs.take i).map barS).map V.str ++ [V.str (Str.empty ++ numS b.w ++ Str.ofString "x" ++ numS b.b ++ y)]))) D = some (.lst (((bs.take (i + 1)).map barS).map V.str)) := by
          intro y hy
          refine ⟨same_updR s hD, ?_⟩
          rw [upd_same, take_at hb, List.map_append, List.map_append, ← hy]
          rfl
        have lr : (Str.ofString "r").length = 1 := by decide
        have l0 : (Str.ofString "").length = 0 := by decide
        cases hr : b.r with
        | true =>
          refine iteT ⟨_, _, rfl, rfl, ?_, _, e, ?_, fin (Str.ofString "r") (by rw [hr]; rfl)⟩
          · show (Str.empty ++ numS b.w ++ Str.ofString "x" ++ numS b.b).length + (Str.ofString "r").length ≤ sizeLine
            rw [str_len, str_len, str_len]
            omega
          · rw [List.length_map]
            exact small1000 hlen
        | false =>
          refine iteF ⟨_, _, rfl, rfl, ?_, _, e, ?_, fin (Str.ofString "") (by rw [hr]; rfl)⟩
          · show (Str.empty ++ numS b.w ++ Str.ofString "x" ++ numS b.b).length + (Str.ofString "").length ≤ sizeLine
            rw [str_len, str_len, str_len]
            omega
          · rw [List.length_map]
            exact small1000 hlen
    · rintro H1 ⟨s1, e1⟩
      rw [bars_len h3, List.take_length] at e1
      refine ⟨_, D, bs.map barS, rfl, rfl, .inl (.of e1), ?_, k _ s1⟩
      have h := bars_lens ok
      rw [List.length_map]
      have lx : (Str.ofString " ").length = 1 := by decide
      rw [lx]
      omega
section
variable {X : Cx}
def rStrP (K : PySem.W.Frag) (sp : Sp) : List V → Hp → VK → Prop := fun xs H Q => ∃ p dx fs, xs = [.ref p] ∧ H p = some (.ins (pC K) dx fs) ∧ sp [.ref p] H (fun v H' => ∃ z, v = .str z ∧ Q (.str z) H') E0
theorem call_strP {n : Nat} {sp : Sp} (T : Txt X.K X.mg) (F : FnOk X.prog X.w X.K X.mg X.base CX0 n (He.fAd X.K ("Part", some "__str__")) (fdOf X.K ("Part", some "__str__")) ["self"] sp) (hr : Room (n + 2) X.A) : CallR X (.type "str") (rStrP X.K sp) := by
  intro pins s σ H xs us Q I r h
  obtain ⟨p, dx, fs, rfl, hp, hs⟩ := h
  obtain ⟨u, rfl, e⟩ := vals1 r
  cases e
  obtain ⟨mA, J, _⟩ := ins_get I.hok hp
  obtain ⟨od, J, _⟩ := J.look
  refine PySem.W.kso_call hr.in1.in1.units0 I.kIn J T.m_Part_str.at_ T.m_Part_str.fn ?_
  refine wpAny_mono (run_at (vs := [.ref p]) (Q := fun v H' => ∃ z, v = .str z ∧ Q (.str z) H') (E := E0) F (b_Part_str T) I hr.in1.in1 rfl (.cons rfl .nil) hs) (fun r s' z => ?_) fun _ _ z => z
  obtain ⟨v', H', I', r', b, rfl, q⟩ := z
  obtain ⟨t, rfl⟩ := r'
  exact ⟨.str b, H', I', ⟨t, rfl⟩, q⟩
end
theorem sc_saved : FnScope ["part"] ["part"] (defScope s_saved) := ⟨rfl, rfl, rfl, by decide +kernel, rfl, by decide +kernel, by decide +kernel⟩
section
variable {K : PySem.W.Frag} {mg : Str → Option Value}
theorem b_saved (T : Txt K mg) : Binds K (fdOf K ("saved", none)) ["part"] [] := T.saved.bindsN fun _ _ _ _ _ _ us hl => match us, hl with | [_], _ => rfl
end
def sp_saved (K : PySem.W.Frag) : Sp := fun vs H Q _ => ∃ (p q : Addr) (bs : List Bar) (past : List (List Bar)), vs = [.ref p] ∧ PartX K H p q bs past ∧ (∀ b ∈ bs, BarOk b) ∧ bs.length ≤ 1000 ∧ ∀ H', Same H H' → Q (.str (saveS bs)) H'
theorem ok_saved {P : Program} {w : World} {K : PySem.W.Frag} {mg : Str → Option Value} {base : Heap} (T : Txt K mg) : OkF P w K mg base CX0 4 ("saved", none) ["part"] (sp_saved K) := by
  refine okN T.saved sc_saved (fun vs H Q E h => ?_) (fun cdv A outer s H vs Q E hr h => ?_)
  · obtain ⟨p, q, bs, past, rfl, _⟩ := h
    rfl
  · obtain ⟨p, q, bs, past, rfl, hp, ok, hl, z⟩ := h
    refine ⟨_, (pss_one (ps_ret (pe_op op_add_str (pe_callTy (call_strP T (ok_Part_str T) (hr.mono (by decide))) (by rfl) T.b_str (by decide +kernel) (pa_cons (pv 0) pa_nil)) (pe_glob (v := .str ".") (by rfl) T.c_END.choose_spec ⟨_, rfl⟩)))), ?_⟩
    obtain ⟨dx, r, ws, h1, _⟩ := id hp
    refine ⟨_, rfl, p, dx, _, rfl, h1, p, q, bs, past, rfl, hp, ok, hl, fun H' s' => ⟨_, rfl, _, _, rfl, rfl, ?_, z _ s'⟩⟩
    have h6 := bars_len6 ok hl
    have hd : (Str.ofString ".").length = 1 := by decide
    rw [hd]
    exact Nat.le_trans (show _ ≤ 7001 by omega) (by decide)
theorem sc_law : FnScope ["script", "dice", "bar", "more", "part", "full", "met", "at", "e"] ["script"] (defScope s_law) := ⟨rfl, rfl, rfl, by decide +kernel, rfl, by decide +kernel, by decide +kernel⟩
theorem gn {i : Nat} {v : V} {σ : L2.St} {H : Hp} {k : L2.St → Hp → Prop} (h : k (σ.set i (some v)) H) : gName i v σ H k := h
theorem rep_row {K : PySem.W.Frag} {H : Hp} {v : V} {b : Bar} (h : Dp K H v (barD b)) : ∀ n : Nat, DpAll K H (List.replicate n [v]).flatten (barsD (List.replicate n b))
  | 0 => .nil
  | n + 1 => by
    rw [List.replicate_succ, List.replicate_succ, List.flatten_cons]
    exact .cons h (rep_row h n)
theorem rep_ok {b : Bar} (hb : BarOk b) (n : Nat) : ∀ x ∈ List.replicate n b, BarOk x := fun x hx => by
  rw [(List.mem_replicate.mp hx).2]
  exact hb
theorem isNum_hi {i lo hi : Int} (h : hi < i) : isNum (.int i) lo hi = false := by
  show (decide (lo ≤ i) && decide (i ≤ hi)) = false
  rw [decide_eq_false (show ¬ i ≤ hi by omega), Bool.and_false]
theorem no_bar {m : Int} (h : 1 ≤ m) : isBar (.tuple [.int (40 + m), .int 1, .bool true]) = false := by
  show (isNum (.int (40 + m)) 1 40 && isNum (.int 1) 1 16) = false
  rw [isNum_hi (by omega), Bool.false_and]
theorem no_desk {m : Int} (h : 1 ≤ m) {s : Str} : isDesk (.tuple [.int (200 + m), .int 0, .str s, .int 0]) = false := by
  show (isNum (.int (200 + m)) 1 200 && _) = false
  rw [isNum_hi (by omega), Bool.false_and]
theorem no_reps {m : Int} (h : 1 ≤ m) : isReps 1 (.tuple [.tuple [.int 0, .int m]]) = false := by
  show (true && (isNum (.int 0) (-1 + 1) ((1 : Nat) - 1 : Int) && (isNum (.int m) 0 ((1 : Nat) - 1 : Int) && true))) = false
  rw [isNum_hi (i := m) (by omega), Bool.false_and, Bool.and_false, Bool.and_false]
theorem bar_fault {b : Bar} (hb : BarOk b) : faultG [b] ⟨b.w, 0, false, 0⟩ (.tuple [.int 1, .int 0]) = some (.empty 1) := by
  have h1 : restOf [b] 1 = if b.r = true then b.b + 0 else 0 := by
    show beatsOf [b] + beatsOf [] = _
    show (if b.r = true then b.b + beatsOf [] else 0) + 0 = _
    rw [Int.add_zero]
    rfl
  have h2 := hb.2.2.1
  have h0 := hb.1
  have w0 : wideOf [b] 0 1 = b.w := by simp [wideOf]
  have w1 : wideOf [b] 1 1 = 0 := by simp [wideOf]
  have hrest : 0 ≤ restOf [b] 1 := by
    rw [h1]
    split <;> omega
  have p0 : pageFault [b] ⟨b.w, 0, false, 0⟩ [1, 0] 0 = none := by
    simp [pageFault, w0, isRight]
  have p1 : pageFault [b] ⟨b.w, 0, false, 0⟩ [1, 0] 1 = some (.empty 1) := by
    have h9 : ¬ (0 : Int) > b.w := by omega
    simp [pageFault, w1, h9]
    try omega
  show (if true = true then faultN [b] ⟨b.w, 0, false, 0⟩ [1, 0] else _) = _
  rw [if_pos rfl]
  show faultFrom [b] ⟨b.w, 0, false, 0⟩ [1, 0] 0 2 = _
  rw [faultFrom_step, p0]
  show faultFrom [b] ⟨b.w, 0, false, 0⟩ [1, 0] 1 1 = _
  rw [faultFrom_step, p1]
theorem unlike_rep {b : Bar} {m : Nat} (h : 2 ≤ m) : unlikeOf [b] (List.replicate m b) = some 1 := by
  have e : unlikeOf [b] (List.replicate m b) = if ([b] : List Bar).length = (List.replicate m b).length then none else some (min ([b] : List Bar).length (List.replicate m b).length) := by
    refine unlike_end fun j hj => ?_
    rw [List.length_replicate] at hj
    have e0 : j = 0 := by
      have : ([b] : List Bar).length = 1 := rfl
      omega
    subst e0
    rw [Bool.eq_false_iff]
    intro z
    exact (dfr_at (x := b) (y := b) rfl (List.getElem?_replicate_of_lt (by omega))).mp z rfl
  rw [e, List.length_replicate]
  show (if 1 = m then none else some (min 1 m)) = some 1
  rw [if_neg (by omega), Nat.min_eq_left (by omega)]
theorem cut_mem {z : Str} {lo hi : Option Int} {c : Nat} (h : c ∈ tl (cutS z lo hi)) : c ∈ tl z := List.mem_of_mem_drop (List.mem_of_mem_take h)
theorem no_dot {z : Str} (h : (46 : Nat) ∉ tl z) : cutS z (some (-1)) none ≠ Str.ofString "." := fun e => by
  have e2 := congrArg tl e
  rw [tl_dot] at e2
  exact h (cut_mem (by rw [e2]; exact List.mem_singleton.mpr rfl))
theorem cut_neg {bs : List Bar} (ok : ∀ b ∈ bs, BarOk b) {m : Int} (hm : 1 ≤ m) : (46 : Nat) ∉ tl (cutS (saveS bs) none (some (-m))) := fun h => by
  have e : HT.sIx (saveS bs).length (saveS bs).length (some (-m)) = (-m + ((saveS bs).length : Int)).toNat := by
    show (if -m < 0 then _ else _) = _
    rw [if_pos (by omega)]
  have h' : (46 : Nat) ∈ ((tl (saveS bs)).drop (HT.sIx (saveS bs).length 0 none)).take (HT.sIx (saveS bs).length (saveS bs).length (some (-m)) - HT.sIx (saveS bs).length 0 none) := h
  rw [e, HT.sIx_none, List.drop_zero, Nat.sub_zero] at h'
  have hl := save_len bs
  have hb := len_tl (barsS bs)
  generalize (-m + ((saveS bs).length : Int)).toNat = k at h' e
  have hk : k ≤ (barsS bs).length := by
    have : HT.sIx (saveS bs).length (saveS bs).length (some (-m)) ≤ (saveS bs).length - 1 := by
      show (if -m < 0 then (-m + ((saveS bs).length : Int)).toNat else min (-m).toNat (saveS bs).length) ≤ _
      rw [if_pos (by omega)]
      omega
    omega
  unfold saveS at h'
  rw [tl_append, List.take_append_of_le_length (by omega)] at h'
  exact bars_nodot ok (List.mem_of_mem_take h')
theorem ok_law {P : Program} {w : World} {K : PySem.W.Frag} {mg : Str → Option Value} {base : Heap} (T : Txt K mg) (TB : LamX.TabB base mg (He.cT K ("law", none)).1 (He.cT K ("law", none)).2) : OkF P w K mg base CX0 20 ("law", none) ["script"] (sp_lawT K "law") := by
  refine okC T.law sc_law (fun vs H Q E h => ?_) (fun A outer s H vs Q E hr h => ?_)
  · obtain ⟨a, ns, rfl, _⟩ := h
    rfl
  · obtain ⟨a, ns, rfl, hS, hlen, hT0, z⟩ := h
    have hsz : sizeLine = 16777216 := sizeLine_eq
    refine ⟨_, (pss_cons (ps_for PassesOwn.never rfl (pi_list (pe_call (ok__law_rounds T) (hr.mono (by decide)) (by rfl) T.g__law_rounds T._law_rounds.kp (b__law_rounds T) .nil pass0 (pa_cons (pv 0) (pa_cons pe_int pa_nil)))) (pg_name (i := 1) sc_law.nd rfl (by first | exact Or.inl rfl | exact Or.inr rfl))
      (pss_cons (ps_asg (pe_tup (pa_cons (pe_call (ok__law_bar T) (hr.mono (by decide)) (by rfl) T.g__law_bar T._law_bar.kp (b__law_bar T) .nil pass0 (pa_cons (pv 1) pa_nil)) (pa_cons (pe_op op_add pe_int (pe_call ((fun T => okLift (ok__law_roll T)) T) (hr.mono (by decide)) (by rfl) T.g__law_roll T._law_roll.kp (b__law_roll T) .nil pass0 (pa_cons (pv 1) (pa_cons pe_int pa_nil)))) pa_nil))) (pg_tup rfl (pgs_cons (pg_name (i := 2) sc_law.nd rfl (by first | exact Or.inl rfl | exact Or.inr rfl)) (pgs_cons (pg_name (i := 3) sc_law.nd rfl (by first | exact Or.inl rfl | exact Or.inr rfl)) pgs_nil))))
      (pss_cons (ps_asg (pe_tup (pa_cons (pe_make T.mk_Part ((fun T => okLift (ok_Part_init T)) T) (hr.mono (by decide)) (by rfl) T.g_Part (b1_Part T) .nil pass0 (pa_cons (pe_lst (pa_cons (pv 2) pa_nil)) pa_nil)) (pa_cons (pe_make T.mk_Part ((fun T => okLift (ok_Part_init T)) T) (hr.mono (by decide)) (by rfl) T.g_Part (b1_Part T) .nil pass0 (pa_cons (pe_op op_rep (pe_lst (pa_cons (pv 2) pa_nil)) pe_int) pa_nil)) pa_nil))) (pg_tup rfl (pgs_cons (pg_name (i := 4) sc_law.nd rfl (by first | exact Or.inl rfl | exact Or.inr rfl)) (pgs_cons (pg_name (i := 5) sc_law.nd rfl (by first | exact Or.inl rfl | exact Or.inr rfl)) pgs_nil))))
      (pss_cons (ps_set (i := 6) sc_law.nd rfl (by first | exact Or.inl rfl | exact Or.inr rfl) (pe_lst (pa_cons (pe_met (k := 12) T TB rfl (hr.mono (by decide)) (by rfl) (LamX.lamS_by (sc := defScope s_law) (by decide +kernel)) (by rfl) (fun _ _ _ _ _ => by rfl) (fun _ _ _ _ _ _ _ hr => (pe_meth (pv 4) T.cl_Part T.m_Part_put (okx_Part_put T) (hr.mono (by decide)) (b_Part_put T) .nil (passN rfl rfl rfl rfl) (pa_cons pe_int (pa_cons (pe_tup (pa_cons (pe_op op_add pe_int (pv 3)) (pa_cons pe_int (pa_cons pe_bl pa_nil)))) pa_nil))))) pa_nil)))
      (pss_cons (ps_expr (pe_bm PySem.F.plainAttrs_list PySem.F.slot_list_append PySem.F.type_list_append mt_append (pv 6) (pa_cons (pe_met (k := 12) T TB rfl (hr.mono (by decide)) (by rfl) (LamX.lamS_by (sc := defScope s_law) (by decide +kernel)) (by rfl) (fun _ _ _ _ _ => by rfl) (fun _ _ _ _ _ _ _ hr => (pe_meth (pv 4) T.cl_Part T.m_Part_rest (okx_Part_rest T) (hr.mono (by decide)) (b_Part_rest T) .nil (passN rfl rfl rfl rfl) (pa_cons (pe_op op_add pe_int (pv 3)) pa_nil)))) pa_nil)))
      (pss_cons (ps_expr (pe_bm PySem.F.plainAttrs_list PySem.F.slot_list_append PySem.F.type_list_append mt_append (pv 6) (pa_cons (pe_met (k := 12) T TB rfl (hr.mono (by decide)) (by rfl) (LamX.lamS_by (sc := defScope s_law) (by decide +kernel)) (by rfl) (fun _ _ _ _ _ => by rfl) (fun _ _ _ _ _ _ _ hr => (pe_call (okxd_layout T) (hr.mono (by decide)) (by rfl) T.g_layout T.layout.kp (b_layout T) .nil (passN rfl rfl rfl rfl) (pa_cons (pv 4) (pa_cons (pe_tup (pa_cons (pe_op op_add pe_int (pv 3)) (pa_cons pe_int (pa_cons pe_str (pa_cons pe_int pa_nil))))) pa_nil))))) pa_nil)))
      (pss_cons (ps_expr (pe_bm PySem.F.plainAttrs_list PySem.F.slot_list_append PySem.F.type_list_append mt_append (pv 6) (pa_cons (pe_met (k := 12) T TB rfl (hr.mono (by decide)) (by rfl) (LamX.lamS_by (sc := defScope s_law) (by decide +kernel)) (by rfl) (fun _ _ _ _ _ => by rfl) (fun _ _ _ _ _ _ _ hr => (pe_call (okx_page_of T) (hr.mono (by decide)) (by rfl) T.g_page_of T.page_of.kp (b_page_of T) .nil (passN rfl rfl rfl rfl) (pa_cons (pv 4) (pa_cons (pe_tup (pa_cons (pe_ix (r := rIxT K) ix_tup (pv 2) pe_int (fun _ _ => rfl)) (pa_cons pe_int (pa_cons pe_str (pa_cons pe_int pa_nil))))) (pa_cons (pe_tup (pa_cons pe_int (pa_cons pe_int pa_nil))) (pa_cons pe_int pa_nil))))))) pa_nil)))
      (pss_cons (ps_expr (pe_bm PySem.F.plainAttrs_list PySem.F.slot_list_append PySem.F.type_list_append mt_append (pv 6) (pa_cons (pe_met (k := 12) T TB rfl (hr.mono (by decide)) (by rfl) (LamX.lamS_by (sc := defScope s_law) (by decide +kernel)) (by rfl) (fun _ _ _ _ _ => by rfl) (fun _ _ _ _ _ _ _ hr => (pe_call (okx_played T) (hr.mono (by decide)) (by rfl) T.g_played T.played.kp (b_played T) .nil (passN rfl rfl rfl rfl) (pa_cons (pv 4) (pa_cons (pe_tup (pa_cons (pe_tup (pa_cons pe_int (pa_cons (pv 3) pa_nil))) pa_nil)) pa_nil))))) pa_nil)))
      (pss_cons (ps_expr (pe_bm PySem.F.plainAttrs_list PySem.F.slot_list_append PySem.F.type_list_append mt_append (pv 6) (pa_cons (pe_met (k := 12) T TB rfl (hr.mono (by decide)) (by rfl) (LamX.lamS_by (sc := defScope s_law) (by decide +kernel)) (by rfl) (fun _ _ _ _ _ => by rfl) (fun _ _ _ _ _ _ _ hr => (pe_call (okx_together T) (hr.mono (by decide)) (by rfl) T.g_together T.together.kp (b_together T) .nil (passN rfl rfl rfl rfl) (pa_cons (pv 4) (pa_cons (pe_make T.mk_Part ((fun T => okLift (ok_Part_init T)) T) (hr.mono (by decide)) (by rfl) T.g_Part (b1_Part T) .nil (passN rfl rfl rfl rfl) (pa_cons (pe_op op_rep (pe_lst (pa_cons (pv 2) pa_nil)) (pe_op op_add pe_int (pv 3))) pa_nil)) pa_nil))))) pa_nil)))
      (pss_cons (ps_expr (pe_bm PySem.F.plainAttrs_list PySem.F.slot_list_append PySem.F.type_list_append mt_append (pv 6) (pa_cons (pe_met (k := 12) T TB rfl (hr.mono (by decide)) (by rfl) (LamX.lamS_by (sc := defScope s_law) (by decide +kernel)) (by rfl) (fun _ _ _ _ _ => by rfl) (fun _ _ _ _ _ _ _ hr => (pe_meth (pv 5) T.cl_Part T.m_Part_put (okx_Part_put T) (hr.mono (by decide)) (b_Part_put T) .nil (passN rfl rfl rfl rfl) (pa_cons (pe_call ((fun T => okLift (ok__law_roll T)) T) (hr.mono (by decide)) (by rfl) T.g__law_roll T._law_roll.kp (b__law_roll T) .nil (passN rfl rfl rfl rfl) (pa_cons (pv 1) (pa_cons pe_int pa_nil))) (pa_cons (pv 2) pa_nil))))) pa_nil)))
      (pss_cons (ps_expr (pe_bm PySem.F.plainAttrs_list PySem.F.slot_list_append PySem.F.type_list_append mt_append (pv 6) (pa_cons (pe_met (k := 12) T TB rfl (hr.mono (by decide)) (by rfl) (LamX.lamS_by (sc := defScope s_law) (by decide +kernel)) (by rfl) (fun _ _ _ _ _ => by rfl) (fun _ _ _ _ _ _ _ hr => (pe_meth0 (pv 4) T.cl_Part T.m_Part_take_back (okx_Part_take_back T) (hr.mono (by decide)) (b_Part_take_back T) .nil (passN rfl rfl rfl rfl) ))) pa_nil)))
      (pss_cons (ps_expr (pe_bm PySem.F.plainAttrs_list PySem.F.slot_list_append PySem.F.type_list_append mt_append (pv 6) (pa_cons (pe_met (k := 12) T TB rfl (hr.mono (by decide)) (by rfl) (LamX.lamS_by (sc := defScope s_law) (by decide +kernel)) (by rfl) (fun _ _ _ _ _ => by rfl) (fun _ _ _ _ _ _ _ hr => (pe_call (okx_woken T) (hr.mono (by decide)) (by rfl) T.g_woken T.woken.kp (b_woken T) .nil (passN rfl rfl rfl rfl) (pa_cons (pe_slice sl_str (pe_call (okLift (ok_saved T)) (hr.mono (by decide)) (by rfl) T.g_saved T.saved.kp (b_saved T) .nil (passN rfl rfl rfl rfl) (pa_cons (pv 5) pa_nil)) po_none (po_some (pe_un un_neg (pv 3)))) pa_nil)))) pa_nil)))
      (pss_cons (ps_if (pt_not (pt_val (pe_callB (cr_all rfl) (by rfl) T.b_all (by decide +kernel) (pa_cons (pe_lc (own := [("at", 7), ("e", 8)]) (g := (gTup K 2 (gCons (gName 7) (gCons (gName 8) gNil)))) (tt := tYes)  (by rfl) sc_law.nd (pi_enum (by rfl) T.b_enumerate (pa_cons (pv 6) pa_nil)) (blkOk_by (own := [("at", 7), ("e", 8)]) (N := ["script", "dice", "bar", "more", "part", "full", "met", "at", "e"]) (sc := defScope s_law) (by decide +kernel)) (fun _ _ _ _ _ => (pg_tup rfl (pgs_cons (pg_name (i := 7) sc_law.nd rfl (by first | exact Or.inl rfl | exact Or.inr rfl)) (pgs_cons (pg_name (i := 8) sc_law.nd rfl (by first | exact Or.inl rfl | exact Or.inr rfl)) pgs_nil)))) (fun _ _ _ _ _ => pts_nil) (fun _ _ _ _ _ => (pe_call (ok__law_alone T) (hr.mono (by decide)) (by rfl) T.g__law_alone T._law_alone.kp (b__law_alone T) .nil pass0 (pa_cons (pv 8) (pa_cons (pv 7) pa_nil))))) pa_nil)))) (pss_one (ps_ret pe_bl)) pss_nil)
      (pss_one (ps_if (PW.pt (pw_or (pt_cmpR op_ne (pe_xv (pe_ix ix_list (pv 6) pe_int (fun _ _ => rfl))) pe_int (nomark _)) (pw_or1 (pt_cmpR op_ne (pe_xv (pe_ix ix_list (pv 6) pe_int (fun _ _ => rfl))) pe_int (nomark _))))) (pss_one (ps_ret pe_bl)) pss_nil)))))))))))))))
      (pss_one (ps_ret pe_bl))), ?_⟩
    refine ⟨_, rfl, a, ns, 4, rfl, hS, hlen, by decide, fun H1 Rr ds s1 nR hR hds hdl => ?_⟩
    clear hS
    refine ⟨Rr, rfl, ⟨_, .of hR⟩, for_list (xs := ds.map V.ref) (fun i σ H' => (Rnd H' Rr ds ∧ LamX.Tabs (TabL K "law") H') ∧ ∃ y1 y2 y3 y4 y5 y6 y7 y8, σ = [some (.ref a), y1, y2, y3, y4, y5, y6, y7, y8]) ⟨⟨⟨hR, hds⟩, Tabs.same hT0 s1⟩, none, none, none, none, none, none, none, none, rfl⟩ ?_ ?_ ?_⟩
    · rintro i σ H' _ ⟨h, _⟩
      exact .of h.1.1
    · rintro i v σ H0 hv ⟨⟨hRnd, hT⟩, y1, y2, y3, y4, y5, y6, y7, y8, rfl⟩
      obtain ⟨d, rfl, hd, hD0⟩ := hRnd.at hv
      refine gn ?_
      -- bar, more
      with_reducible refine seq_cont (fun σ' G => ∃ (bp : Addr) (b : Bar) (r : Int), σ' = [some (.ref a), some (.ref d), some (.ref bp), some (.int (1 + r)), y4, y5, y6, y7, y8] ∧ Fr [d] H0 G ∧ Dice G d ∧ SqT K G bp (barV b) ∧ BarOk b ∧ 0 ≤ r ∧ r < 9) (fun cont => ?_) ?_
      · refine ⟨_, rfl, d, rfl, hD0, fun v H2 b f2 hD2 hv okb => ?_⟩
        obtain ⟨bp, rfl, hbp⟩ := dp_bar hv
        exact ⟨_, rfl, d, 9, rfl, hD2, by decide, by decide, fun H3 r f3 hD3 a3 b3 => ⟨_, _, rfl, rfl, by show (2 : Nat) ≤ sizeLine; decide, fun tp ntp => ⟨tp, _, rfl, .of upd_same, rfl, _, _, rfl, _, _, rfl, rfl, cont _ _ ⟨bp, b, r, rfl, (f2.trans f3).then (same_upd ntp), hD3.same (same_upd ntp), same_sqt (same_upd ntp) (f3.sqt hbp), okb, a3, b3⟩⟩⟩⟩
      rintro σ' G1 ⟨bp, b, r, rfl, f1, hD1, hbp1, okb, r0, r9⟩
      have hR1 := hRnd.turn hd f1 hD1
      have hT1 := Tabs.dice hT f1 hD0
      clear hRnd hT f1 hD0
      have one : ∀ x ∈ [b], BarOk x := fun x hx => by rw [List.mem_singleton.mp hx]; exact okb
      -- part, full
      with_reducible refine seq_cont (fun σ' G => ∃ p1 q1 p2 q2, σ' = [some (.ref a), some (.ref d), some (.ref bp), some (.int (1 + r)), some (.ref p1), some (.ref p2), y6, y7, y8] ∧ Same G1 G ∧ PartX K G p1 q1 [b] [] ∧ PartX K G p2 q2 (List.replicate 40 b) []) (fun cont => ?_) ?_
      · refine ⟨_, rfl, by show (1 : Nat) ≤ sizeLine; decide, fun l1 n1 => ?_⟩
        have s1 := same_upd (o := .lst [.ref bp]) n1
        have rw1 : RowAt K (upd G1 l1 (.lst [.ref bp])) l1 [b] := ⟨_, upd_same, .cons (dp_bar_of (same_sqt s1 hbp1)) .nil⟩
        refine make_part (.inr ⟨l1, rfl, rw1.dp⟩) one (by show (1 : Nat) ≤ 40; decide) fun H2 p1 q1 s2 np1 nq1 npq1 hp1 => ?_
        refine ⟨_, rfl, by show (1 : Nat) ≤ sizeLine; decide, fun l3 n3 => ?_⟩
        have s3 := same_upd (o := .lst [.ref bp]) n3
        refine ⟨l3, 40, _, rfl, rfl, upd_same, by decide, by decide, by show (1 : Nat) * 40 ≤ sizeLine; decide, fun l4 n4 => ?_⟩
        have s4 := same_upd (o := .lst (List.replicate (40 : Int).toNat [V.ref bp]).flatten) n4
        have s14 := ((s1.trans s2).trans s3).trans s4
        have rw4 : RowAt K (upd (upd H2 l3 (.lst [.ref bp])) l4 (.lst (List.replicate (40 : Int).toNat [V.ref bp]).flatten)) l4 (List.replicate 40 b) := ⟨_, upd_same, rep_row (dp_bar_of (same_sqt s14 hbp1)) 40⟩
        refine make_part (.inr ⟨l4, rfl, rw4.dp⟩) (rep_ok okb 40) (by rw [List.length_replicate]; decide) fun H5 p2 q2 s5 np2 nq2 npq2 hp2 => ?_
        refine ⟨by show (2 : Nat) ≤ sizeLine; decide, fun tp ntp => ⟨tp, _, rfl, .of upd_same, rfl, _, _, rfl, _, _, rfl, rfl, cont _ _ ⟨p1, q1, p2, q2, rfl, (s14.trans s5).trans (same_upd ntp), ?_, hp2.same (same_upd ntp)⟩⟩⟩
        exact hp1.same (((s3.trans s4).trans s5).trans (same_upd ntp))
      rintro σ' G2 ⟨p1, q1, p2, q2, rfl, s12, hp1, hp2⟩
      have hbp := same_sqt s12 hbp1
      have hD2 := hD1.same s12
      have hR2 := hR1.turn hd (Fr.of s12 _) hD2
      have hT2 := Tabs.same hT1 s12
      clear hR1 hT1 hD1 s12 hbp1
      -- 0: BadBar
      with_reducible refine seq_cont (fun σ' G => ∃ M as, σ' = [some (.ref a), some (.ref d), some (.ref bp), some (.int (1 + r)), some (.ref p1), some (.ref p2), some (.ref M), y7, y8] ∧ as.length = 1 ∧ FrN d G2 G ∧ Dice G d ∧ LamX.Tabs (TabL K "law") G ∧ MS K G M as ∧ NewT G2 M) (fun cont => ?_) ?_
      · refine ⟨hT2, fun F0 e0 t0 => ?_⟩
        have fF : FrN d G2 F0 := (FrN.refl d G2).ext e0
        have DF0 := hD2.ext e0
        have P1 := hp1.frN hD2 fF
        have P2 := hp2.frN hD2 fF
        have B0 := fF.sqt hbp
        obtain ⟨dx1, rr1, ws1, h11, _⟩ := id P1
        obtain ⟨dx2, rr2, ws2, h12, _⟩ := id P2
        refine ⟨_, rfl, p1, dx1, _, rfl, h11, pf_no (by decide +kernel) (by decide +kernel), _, rfl, _, _, rfl, rfl, by show (3 : Nat) ≤ sizeLine; decide, fun t nt => ?_⟩
        have sF := same_upd (o := .tup [.int (40 + (1 + r)), .int 1, .bl true]) nt
        refine ⟨p1, q1, _, _, .int 0, .tuple [.int (40 + (1 + r)), .int 1, .bool true], [b], [], rfl, P1.same sF, .int _, .tup (.of upd_same) (.cons (.int _) (.cons (.int _) (.cons (.bl _) .nil))), .inr (.inl ⟨rfl, no_bar (by omega), ?_⟩)⟩
        refine ⟨"BadBar", by decide +kernel, rfl, fun x nx => ⟨by show (1 : Nat) ≤ sizeLine; decide, fun M nM => ?_⟩⟩
        have sx := same_upd (o := exv x (He.ga K "BadBar") none) nx
        have sM := same_upd (o := .lst [.ref x]) nM
        have sA := (sF.trans sx).trans sM
        refine cont _ _ ⟨M, [x], rfl, rfl, fF.then sA, DF0.same sA, Tabs.same t0 sA, ⟨upd_same, fun i b q => ?_⟩, ?_⟩
        · match i, q with
          | 0, q =>
            cases q
            exact ⟨"BadBar", none, rfl, ⟨sM _ _ upd_same, fun x e => by cases e⟩, (fun e => by omega), (fun e => by omega)⟩
          | i + 1, q => simp at q
        · exact newT (e0.trans (.of (sF.trans sx))) nM
      rintro σ' G ⟨M, as, rfl, hal, fG, hDG, tG, ms, nM⟩
      -- 1: BadPlace
      with_reducible refine seq_cont (fun σ' G => ∃ as, σ' = [some (.ref a), some (.ref d), some (.ref bp), some (.int (1 + r)), some (.ref p1), some (.ref p2), some (.ref M), y7, y8] ∧ as.length = 2 ∧ FrN d G2 G ∧ Dice G d ∧ LamX.Tabs (TabL K "law") G ∧ MS K G M as) (fun cont => ?_) ?_
      · refine ⟨_, rfl, .inl ⟨rfl, _, .of ms.1⟩, tG, fun F0 e0 t0 => ?_⟩
        have fF : FrN d G2 F0 := fG.ext e0
        have DF0 := hDG.ext e0
        have ms0 := ms.ext e0
        have P1 := hp1.frN hD2 fF
        have P2 := hp2.frN hD2 fF
        have B0 := fF.sqt hbp
        obtain ⟨dx1, rr1, ws1, h11, _⟩ := id P1
        obtain ⟨dx2, rr2, ws2, h12, _⟩ := id P2
        refine ⟨_, rfl, p1, dx1, _, rfl, h11, pf_no (by decide +kernel) (by decide +kernel), _, rfl, _, _, rfl, rfl, p1, q1, _, .int (1 + (1 + r)), [b], [], rfl, P1, .int _, isNum_hi (by show ((1 : Nat) : Int) < _; omega), ?_⟩
        have sF := Same.refl F0
        refine ⟨"BadPlace", by decide +kernel, rfl, fun x nx => ?_⟩
        obtain ⟨g1, g2, g3, g4, g5⟩ := met_push (n := "BadPlace") (dd := none) (fF.then sF) nM (ms0.ext (.of sF)) (DF0.same sF) hD2 (Tabs.same t0 sF) nx (by rw [hal]; rfl) (fun x e => by cases e) (fun e => absurd (hal.symm.trans e) (by decide)) (fun e => absurd (hal.symm.trans e) (by decide))
        exact ⟨M, _, _, rfl, rfl, g1, by rw [List.length_map, hal]; show (1 : Nat) < sizeLine; decide, cont _ _ ⟨as ++ [x], rfl, by rw [List.length_append, hal]; rfl, g2, g3, g4, g5⟩⟩
      rintro σ' G ⟨as, rfl, hal, fG, hDG, tG, ms⟩
      -- 2: BadDesk
      with_reducible refine seq_cont (fun σ' G => ∃ as, σ' = [some (.ref a), some (.ref d), some (.ref bp), some (.int (1 + r)), some (.ref p1), some (.ref p2), some (.ref M), y7, y8] ∧ as.length = 3 ∧ FrN d G2 G ∧ Dice G d ∧ LamX.Tabs (TabL K "law") G ∧ MS K G M as) (fun cont => ?_) ?_
      · refine ⟨_, rfl, .inl ⟨rfl, _, .of ms.1⟩, tG, fun F0 e0 t0 => ?_⟩
        have fF : FrN d G2 F0 := fG.ext e0
        have DF0 := hDG.ext e0
        have ms0 := ms.ext e0
        have P1 := hp1.frN hD2 fF
        have P2 := hp2.frN hD2 fF
        have B0 := fF.sqt hbp
        obtain ⟨dx1, rr1, ws1, h11, _⟩ := id P1
        obtain ⟨dx2, rr2, ws2, h12, _⟩ := id P2
        refine ⟨_, rfl, _, rfl, _, _, rfl, rfl, by show (4 : Nat) ≤ sizeLine; decide, fun t nt => ?_⟩
        have sF := same_upd (o := .tup [.int (200 + (1 + r)), .int 0, .str "left", .int 0]) nt
        refine ⟨_, _, .tuple [.int (200 + (1 + r)), .int 0, .str "left", .int 0], rfl, .tup (.of upd_same) (.cons (.int _) (.cons (.int _) (.cons (.str _) (.cons (.int _) .nil)))), no_desk (by omega), ?_⟩
        refine ⟨"BadDesk", by decide +kernel, rfl, fun x nx => ?_⟩
        obtain ⟨g1, g2, g3, g4, g5⟩ := met_push (n := "BadDesk") (dd := none) (fF.then sF) nM (ms0.ext (.of sF)) (DF0.same sF) hD2 (Tabs.same t0 sF) nx (by rw [hal]; rfl) (fun x e => by cases e) (fun e => absurd (hal.symm.trans e) (by decide)) (fun e => absurd (hal.symm.trans e) (by decide))
        exact ⟨M, _, _, rfl, rfl, g1, by rw [List.length_map, hal]; show (2 : Nat) < sizeLine; decide, cont _ _ ⟨as ++ [x], rfl, by rw [List.length_append, hal]; rfl, g2, g3, g4, g5⟩⟩
      rintro σ' G ⟨as, rfl, hal, fG, hDG, tG, ms⟩
      -- 3: BadLayout
      with_reducible refine seq_cont (fun σ' G => ∃ as, σ' = [some (.ref a), some (.ref d), some (.ref bp), some (.int (1 + r)), some (.ref p1), some (.ref p2), some (.ref M), y7, y8] ∧ as.length = 4 ∧ FrN d G2 G ∧ Dice G d ∧ LamX.Tabs (TabL K "law") G ∧ MS K G M as) (fun cont => ?_) ?_
      · refine ⟨_, rfl, .inl ⟨rfl, _, .of ms.1⟩, tG, fun F0 e0 t0 => ?_⟩
        have fF : FrN d G2 F0 := fG.ext e0
        have DF0 := hDG.ext e0
        have ms0 := ms.ext e0
        have P1 := hp1.frN hD2 fF
        have P2 := hp2.frN hD2 fF
        have B0 := fF.sqt hbp
        obtain ⟨dx1, rr1, ws1, h11, _⟩ := id P1
        obtain ⟨dx2, rr2, ws2, h12, _⟩ := id P2
        refine ⟨_, rfl, _, rfl, bp, _, _, _, rfl, rfl, B0, rfl, by show (4 : Nat) ≤ sizeLine; decide, fun t nt => ⟨by show (2 : Nat) ≤ sizeLine; decide, fun t2 nt2 => ?_⟩⟩
        have sa := same_upd (o := .tup [.int b.w, .int 0, .str "left", .int 0]) nt
        have sb := same_upd (o := .tup [.int 1, .int 0]) nt2
        have sab := sa.trans sb
        refine ⟨p1, q1, [b], [], _, _, _, ⟨b.w, 0, false, 0⟩, .tuple [.int 1, .int 0], .int 0, rfl, P1.same sab, dp_desk_of (.of (sb _ _ upd_same)), ⟨okb.1, by show b.w ≤ 200; have := okb.2.1; omega, by show (0 : Int) ≤ 0; decide, by show (0 : Int) ≤ 99; decide, by show (0 : Int) ≤ 0; decide, by show (0 : Int) ≤ 3; decide⟩, .tup (.of upd_same) (.cons (.int _) (.cons (.int _) .nil)), .int _, (fun ds e => by cases e; show (2 : Nat) ≤ 1000000; decide), by show (1 : Nat) ≤ 1000; decide, .inl ⟨.empty 1, bar_fault okb, fun dd F sF0 hdd => ?_⟩⟩
        have sF := sab.trans sF0
        refine ⟨"BadLayout", by decide +kernel, rfl, fun x nx => ?_⟩
        obtain ⟨g1, g2, g3, g4, g5⟩ := met_push (n := "BadLayout") (dd := (some dd)) (fF.then sF) nM (ms0.ext (.of sF)) (DF0.same sF) hD2 (Tabs.same t0 sF) nx (by rw [hal]; rfl) (fun x e => by cases e; exact ⟨_, hdd⟩) (fun _ => ⟨dd, rfl, hdd⟩) (fun e => absurd (hal.symm.trans e) (by decide))
        exact ⟨M, _, _, rfl, rfl, g1, by rw [List.length_map, hal]; show (3 : Nat) < sizeLine; decide, cont _ _ ⟨as ++ [x], rfl, by rw [List.length_append, hal]; rfl, g2, g3, g4, g5⟩⟩
      rintro σ' G ⟨as, rfl, hal, fG, hDG, tG, ms⟩
      -- 4: BadRepeats
      with_reducible refine seq_cont (fun σ' G => ∃ as, σ' = [some (.ref a), some (.ref d), some (.ref bp), some (.int (1 + r)), some (.ref p1), some (.ref p2), some (.ref M), y7, y8] ∧ as.length = 5 ∧ FrN d G2 G ∧ Dice G d ∧ LamX.Tabs (TabL K "law") G ∧ MS K G M as) (fun cont => ?_) ?_
      · refine ⟨_, rfl, .inl ⟨rfl, _, .of ms.1⟩, tG, fun F0 e0 t0 => ?_⟩
        have fF : FrN d G2 F0 := fG.ext e0
        have DF0 := hDG.ext e0
        have ms0 := ms.ext e0
        have P1 := hp1.frN hD2 fF
        have P2 := hp2.frN hD2 fF
        have B0 := fF.sqt hbp
        obtain ⟨dx1, rr1, ws1, h11, _⟩ := id P1
        obtain ⟨dx2, rr2, ws2, h12, _⟩ := id P2
        refine ⟨_, rfl, _, rfl, by show (2 : Nat) ≤ sizeLine; decide, fun t nt => ⟨by show (1 : Nat) ≤ sizeLine; decide, fun t2 nt2 => ?_⟩⟩
        have sa := same_upd (o := .tup [.int 0, .int (1 + r)]) nt
        have sb := same_upd (o := .tup [.ref t]) nt2
        have sF := sa.trans sb
        refine ⟨p1, q1, [b], [], _, .tuple [.tuple [.int 0, .int (1 + r)]], rfl, P1.same sF, by show (1 : Nat) ≤ 1000; decide, .tup (.of upd_same) (.cons (.tup (.of (sb _ _ upd_same)) (.cons (.int _) (.cons (.int _) .nil))) .nil), no_reps (by omega), ?_⟩
        refine ⟨"BadRepeats", by decide +kernel, rfl, fun x nx => ?_⟩
        obtain ⟨g1, g2, g3, g4, g5⟩ := met_push (n := "BadRepeats") (dd := none) (fF.then sF) nM (ms0.ext (.of sF)) (DF0.same sF) hD2 (Tabs.same t0 sF) nx (by rw [hal]; rfl) (fun x e => by cases e) (fun e => absurd (hal.symm.trans e) (by decide)) (fun e => absurd (hal.symm.trans e) (by decide))
        exact ⟨M, _, _, rfl, rfl, g1, by rw [List.length_map, hal]; show (4 : Nat) < sizeLine; decide, cont _ _ ⟨as ++ [x], rfl, by rw [List.length_append, hal]; rfl, g2, g3, g4, g5⟩⟩
      rintro σ' G ⟨as, rfl, hal, fG, hDG, tG, ms⟩
      -- 5: Unlike
      with_reducible refine seq_cont (fun σ' G => ∃ as, σ' = [some (.ref a), some (.ref d), some (.ref bp), some (.int (1 + r)), some (.ref p1), some (.ref p2), some (.ref M), y7, y8] ∧ as.length = 6 ∧ FrN d G2 G ∧ Dice G d ∧ LamX.Tabs (TabL K "law") G ∧ MS K G M as) (fun cont => ?_) ?_
      · refine ⟨_, rfl, .inl ⟨rfl, _, .of ms.1⟩, tG, fun F0 e0 t0 => ?_⟩
        have fF : FrN d G2 F0 := fG.ext e0
        have DF0 := hDG.ext e0
        have ms0 := ms.ext e0
        have P1 := hp1.frN hD2 fF
        have P2 := hp2.frN hD2 fF
        have B0 := fF.sqt hbp
        obtain ⟨dx1, rr1, ws1, h11, _⟩ := id P1
        obtain ⟨dx2, rr2, ws2, h12, _⟩ := id P2
        refine ⟨_, rfl, _, rfl, by show (1 : Nat) ≤ sizeLine; decide, fun l1 n1 => ⟨_, rfl, _, _, rfl, rfl, l1, 1 + (1 + r), _, rfl, rfl, upd_same, by omega, by omega, by show (1 : Nat) * (1 + (1 + r)).toNat ≤ sizeLine; omega, fun l2 n2 => ?_⟩⟩
        have sa := same_upd (o := .lst [.ref bp]) n1
        have sb := same_upd (o := .lst (List.replicate (1 + (1 + r)).toNat [V.ref bp]).flatten) n2
        have sab := sa.trans sb
        have rw4 : RowAt K (upd (upd F0 l1 (.lst [.ref bp])) l2 (.lst (List.replicate (1 + (1 + r)).toNat [V.ref bp]).flatten)) l2 (List.replicate (1 + (1 + r)).toNat b) := ⟨_, upd_same, rep_row (dp_bar_of (same_sqt sab B0)) _⟩
        refine make_part (.inr ⟨l2, rfl, rw4.dp⟩) (rep_ok okb _) (by rw [List.length_replicate]; omega) fun F1 p3 q3 s3 np3 nq3 npq3 hp3 => ?_
        have sc := sab.trans s3
        refine ⟨p1, q1, p3, q3, [b], List.replicate (1 + (1 + r)).toNat b, [], [], 1, rfl, P1.same sc, hp3, by show (1 : Nat) ≤ 40; decide, by rw [List.length_replicate]; omega, unlike_rep (by omega), fun dd F sF0 hdd => ?_⟩
        have sF := sc.trans sF0
        refine ⟨"Unlike", by decide +kernel, rfl, fun x nx => ?_⟩
        obtain ⟨g1, g2, g3, g4, g5⟩ := met_push (n := "Unlike") (dd := (some dd)) (fF.then sF) nM (ms0.ext (.of sF)) (DF0.same sF) hD2 (Tabs.same t0 sF) nx (by rw [hal]; rfl) (fun x e => by cases e; exact ⟨_, hdd⟩) (fun e => absurd (hal.symm.trans e) (by decide)) (fun _ => ⟨dd, rfl, hdd⟩)
        exact ⟨M, _, _, rfl, rfl, g1, by rw [List.length_map, hal]; show (5 : Nat) < sizeLine; decide, cont _ _ ⟨as ++ [x], rfl, by rw [List.length_append, hal]; rfl, g2, g3, g4, g5⟩⟩
      rintro σ' G ⟨as, rfl, hal, fG, hDG, tG, ms⟩
      -- 6: Full
      with_reducible refine seq_cont (fun σ' G => ∃ as, σ' = [some (.ref a), some (.ref d), some (.ref bp), some (.int (1 + r)), some (.ref p1), some (.ref p2), some (.ref M), y7, y8] ∧ as.length = 7 ∧ FrN d G2 G ∧ Dice G d ∧ LamX.Tabs (TabL K "law") G ∧ MS K G M as) (fun cont => ?_) ?_
      · refine ⟨_, rfl, .inl ⟨rfl, _, .of ms.1⟩, tG, fun F0 e0 t0 => ?_⟩
        have fF : FrN d G2 F0 := fG.ext e0
        have DF0 := hDG.ext e0
        have ms0 := ms.ext e0
        have P1 := hp1.frN hD2 fF
        have P2 := hp2.frN hD2 fF
        have B0 := fF.sqt hbp
        obtain ⟨dx1, rr1, ws1, h11, _⟩ := id P1
        obtain ⟨dx2, rr2, ws2, h12, _⟩ := id P2
        refine ⟨_, rfl, p2, dx2, _, rfl, h12, pf_no (by decide +kernel) (by decide +kernel), _, rfl, d, 41, rfl, DF0, by decide, by decide, fun F k fr hDF k0 k1 => ?_⟩
        obtain ⟨k, rfl⟩ : ∃ m : Nat, k = (m : Int) := ⟨k.toNat, by omega⟩
        have P2' := P2.fr DF0 fr
        refine ⟨_, rfl, p2, q2, _, _, .int (k : Int), barD b, List.replicate 40 b, [], rfl, P2', .int _, dp_bar_of (fr.sqt B0), .inr (.inr ⟨isNum_nat (by rw [List.length_replicate]; omega), isBar_bar okb, List.length_replicate, ?_⟩)⟩
        refine ⟨"Full", by decide +kernel, rfl, fun x nx => ?_⟩
        obtain ⟨g1, g2, g3, g4, g5⟩ := met_push (n := "Full") (dd := none) (fF.fr fr) nM (ms0.fr DF0 fr (fun e => by rw [e] at hal; cases hal)) (hDF) hD2 (Tabs.dice t0 fr DF0) nx (by rw [hal]; rfl) (fun x e => by cases e) (fun e => absurd (hal.symm.trans e) (by decide)) (fun e => absurd (hal.symm.trans e) (by decide))
        exact ⟨M, _, _, rfl, rfl, g1, by rw [List.length_map, hal]; show (6 : Nat) < sizeLine; decide, cont _ _ ⟨as ++ [x], rfl, by rw [List.length_append, hal]; rfl, g2, g3, g4, g5⟩⟩
      rintro σ' G ⟨as, rfl, hal, fG, hDG, tG, ms⟩
      -- 7: Nothing
      with_reducible refine seq_cont (fun σ' G => ∃ as, σ' = [some (.ref a), some (.ref d), some (.ref bp), some (.int (1 + r)), some (.ref p1), some (.ref p2), some (.ref M), y7, y8] ∧ as.length = 8 ∧ FrN d G2 G ∧ Dice G d ∧ LamX.Tabs (TabL K "law") G ∧ MS K G M as) (fun cont => ?_) ?_
      · refine ⟨_, rfl, .inl ⟨rfl, _, .of ms.1⟩, tG, fun F0 e0 t0 => ?_⟩
        have fF : FrN d G2 F0 := fG.ext e0
        have DF0 := hDG.ext e0
        have ms0 := ms.ext e0
        have P1 := hp1.frN hD2 fF
        have P2 := hp2.frN hD2 fF
        have B0 := fF.sqt hbp
        obtain ⟨dx1, rr1, ws1, h11, _⟩ := id P1
        obtain ⟨dx2, rr2, ws2, h12, _⟩ := id P2
        refine ⟨_, rfl, p1, dx1, _, rfl, h11, pf_no (by decide +kernel) (by decide +kernel), p1, q1, [b], rfl, P1, fun F sF => ?_⟩
        refine ⟨"Nothing", by decide +kernel, rfl, fun x nx => ?_⟩
        obtain ⟨g1, g2, g3, g4, g5⟩ := met_push (n := "Nothing") (dd := none) (fF.then sF) nM (ms0.ext (.of sF)) (DF0.same sF) hD2 (Tabs.same t0 sF) nx (by rw [hal]; rfl) (fun x e => by cases e) (fun e => absurd (hal.symm.trans e) (by decide)) (fun e => absurd (hal.symm.trans e) (by decide))
        exact ⟨M, _, _, rfl, rfl, g1, by rw [List.length_map, hal]; show (7 : Nat) < sizeLine; decide, cont _ _ ⟨as ++ [x], rfl, by rw [List.length_append, hal]; rfl, g2, g3, g4, g5⟩⟩
      rintro σ' G ⟨as, rfl, hal, fG, hDG, tG, ms⟩
      -- 8: BadText
      with_reducible refine seq_cont (fun σ' G => ∃ as, σ' = [some (.ref a), some (.ref d), some (.ref bp), some (.int (1 + r)), some (.ref p1), some (.ref p2), some (.ref M), y7, y8] ∧ as.length = 9 ∧ FrN d G2 G ∧ Dice G d ∧ LamX.Tabs (TabL K "law") G ∧ MS K G M as) (fun cont => ?_) ?_
      · refine ⟨_, rfl, .inl ⟨rfl, _, .of ms.1⟩, tG, fun F0 e0 t0 => ?_⟩
        have fF : FrN d G2 F0 := fG.ext e0
        have DF0 := hDG.ext e0
        have ms0 := ms.ext e0
        have P1 := hp1.frN hD2 fF
        have P2 := hp2.frN hD2 fF
        have B0 := fF.sqt hbp
        obtain ⟨dx1, rr1, ws1, h11, _⟩ := id P1
        obtain ⟨dx2, rr2, ws2, h12, _⟩ := id P2
        refine ⟨_, rfl, p2, q2, List.replicate 40 b, [], rfl, P2, rep_ok okb 40, by rw [List.length_replicate]; decide, fun F sF => ⟨_, rfl, _, rfl, _, rfl, _, rfl, by have h6 := bars_len6 (rep_ok okb 40) (by rw [List.length_replicate]; decide); have h7 := save_len (List.replicate 40 b); rw [List.length_replicate] at h6; omega, ?_⟩⟩
        refine ⟨_, .str (cutS (saveS (List.replicate 40 b)) none (some (-(1 + r)))), rfl, .str _, ⟨Nat.le_trans (cutS_length _ _ _) (by have h6 := bars_len6 (rep_ok okb 40) (by rw [List.length_replicate]; decide); have h7 := save_len (List.replicate 40 b); rw [List.length_replicate] at h6; omega), no_dot (cut_neg (rep_ok okb 40) (by omega))⟩, ?_⟩
        refine ⟨"BadText", by decide +kernel, rfl, fun x nx => ?_⟩
        obtain ⟨g1, g2, g3, g4, g5⟩ := met_push (n := "BadText") (dd := none) (fF.then sF) nM (ms0.ext (.of sF)) (DF0.same sF) hD2 (Tabs.same t0 sF) nx (by rw [hal]; rfl) (fun x e => by cases e) (fun e => absurd (hal.symm.trans e) (by decide)) (fun e => absurd (hal.symm.trans e) (by decide))
        exact ⟨M, _, _, rfl, rfl, g1, by rw [List.length_map, hal]; show (8 : Nat) < sizeLine; decide, cont _ _ ⟨as ++ [x], rfl, by rw [List.length_append, hal]; rfl, g2, g3, g4, g5⟩⟩
      rintro σ' G ⟨as, rfl, hal, fG, hDG, tG, ms⟩
      -- each alone
      have hR := hR2.frN fG hd hDG
      have hatA : ∀ i v, (as.map V.ref)[i]? = some v → ∃ x, v = .ref x ∧ Mt K G i x := fun i v q => by
        rw [List.getElem?_map] at q
        cases hx : as[i]? with
        | none => rw [hx] at q; cases q
        | some x =>
          rw [hx] at q
          exact ⟨x, (Option.some.inj q).symm, ms.2 i x hx⟩
      with_reducible refine seq_cont (fun σ' G' => (∃ y7 y8, σ' = [some (.ref a), some (.ref d), some (.ref bp), some (.int (1 + r)), some (.ref p1), some (.ref p2), some (.ref M), y7, y8]) ∧ Same G G') (fun cont => ?_) ?_
      · refine ⟨_, rfl, M, _, rfl, .of ms.1, fun D nD => lc_it (walk_enum (xs := as.map V.ref)) (fun i H' => Same G H' ∧ H' D = some (.lst ((List.replicate i true).map V.bl))) ⟨same_upd nD, by rw [upd_same]; rfl⟩ ?_ ?_ ?_⟩
        · rintro i H' _ ⟨s', _⟩
          exact .of (s' _ _ ms.1)
        · rintro i v H' H'' hi ⟨s', hDl⟩ hY
          obtain ⟨Tn, va, vb, rfl, nT, rfl, ea, eb⟩ := hY
          cases ea
          obtain ⟨x, rfl, n, dd, hn, hx, _⟩ := hatA i vb eb
          have sT := same_upd (o := .tup [.int ((i : Nat) : Int), .ref x]) nT
          have s2 := s'.trans sT
          refine ⟨Tn, _, rfl, .of upd_same, rfl, _, _, rfl, _, _, rfl, rfl, rfl, _, rfl, _, rfl, x, dd, n, i, rfl, List.mem_of_getElem? hn, hn, hx.same s2, fun H3 s3 => ⟨_, s3 _ _ (sT _ _ hDl), ?_, same_updR (s2.trans s3) nD, ?_⟩⟩
          · rw [List.length_map, List.length_replicate]
            rw [List.length_map, hal] at hi
            exact small1000 (by omega)
          · rw [upd_same, List.replicate_succ', List.map_append]
            rfl
        · rintro H' ⟨s', hDl⟩
          refine ⟨D, _, rfl, .of hDl, ?_⟩
          have e : ∀ m, (List.replicate m true).all id = true := fun m => by
            induction m with
            | zero => rfl
            | succ m ih => rw [List.replicate_succ]; exact ih
          rw [e]
          exact ⟨_, rfl, iteF (cont _ _ ⟨⟨_, _, rfl⟩, s'⟩)⟩
      rintro σ' G' ⟨⟨y7, y8, rfl⟩, sG⟩
      obtain ⟨x3, hx3⟩ : ∃ x, as[3]? = some x := ⟨as[3]'(by omega), List.getElem?_eq_getElem (by omega)⟩
      obtain ⟨x5, hx5⟩ : ∃ x, as[5]? = some x := ⟨as[5]'(by omega), List.getElem?_eq_getElem (by omega)⟩
      obtain ⟨n3, d3, hn3, hv3, h33, _⟩ := ms.2 3 x3 hx3
      obtain ⟨n5, d5, hn5, hv5, _, h55⟩ := ms.2 5 x5 hx5
      obtain ⟨dd3, rfl, hd3⟩ := h33 rfl
      obtain ⟨dd5, rfl, hd5⟩ := h55 rfl
      have en3 : n3 = "BadLayout" := (Option.some.inj hn3).symm
      have en5 : n5 = "Unlike" := (Option.some.inj hn5).symm
      subst en3 en5
      have hM' := sG _ _ ms.1
      have ex := exAll_ok T.k_exc
      refine ⟨_, rfl, M, _, _, .ref x3, rfl, rfl, .of hM', atI_nat (j := 3) (by rw [List.getElem?_map, hx3]; rfl), "BadLayout", x3, dd3, _, _, rfl, ex _ (by decide +kernel), (exO2_ok T.k_BadLayout).no, sG _ _ hv3.at', sG _ _ hd3, rfl, rfl, _, rfl, iteNNQ rfl ?_⟩
      refine ⟨_, rfl, M, _, _, .ref x5, rfl, rfl, .of hM', atI_nat (j := 5) (by rw [List.getElem?_map, hx5]; rfl), "Unlike", x5, dd5, _, _, rfl, ex _ (by decide +kernel), (exO2_ok T.k_Unlike).no, sG _ _ hv5.at', sG _ _ hd5, rfl, rfl, _, rfl, iteNNQ rfl ?_⟩
      exact ⟨⟨hR.turn hd (Fr.of sG _) (hDG.same sG), Tabs.same tG sG⟩, _, _, _, _, _, _, _, _, rfl⟩
    · rintro σ H' ⟨_, y1, y2, y3, y4, y5, y6, y7, y8, rfl⟩
      exact z _
abbrev R : PySem.W.OpenRow := PySem.W.OpenLaw.row PySem.Challenge.rw_turnedleaves_k83_refusals_apart
abbrev hk : PySem.W.Hook := hookY 6 fa fn tf ex
def ob (s : PySem.W.SharedT) : He.AlX := obsY 6 fa fn tf ex (HandSHeadRun.getT s)
theorem ob_eq (s : PySem.W.SharedT) : ob s = hk.obs s.abs := obsY_eq (HandSHeadRun.getT_eq s)
theorem run (w : World) : HandSHeadRun.RunEq R (PySem.W.view R.prog [58]) hk ob 20000 loose w := by
  intro os
  kernel_rfl
end TL
open PySem PySem.W PySem.Calls PyProof.Rows
set_option maxRecDepth 100000 in
set_option maxHeartbeats 0 in
theorem PySem.Challenge.cw_turnedleaves_k83_refusals_apart_holds : PySem.Challenge.rw_turnedleaves_k83_refusals_apart.Holds := by
  w_on; o_law
  refine HandSHeadRun.head_any (r := OpenLaw.row PySem.Challenge.rw_turnedleaves_k83_refusals_apart) (q := view (OpenLaw.row PySem.Challenge.rw_turnedleaves_k83_refusals_apart).prog [58]) (H := TL.hk) (ob := TL.ob) (M := 20000) (loose := TL.loose) (d := HandSHeadRun.topDef (OpenLaw.row PySem.Challenge.rw_turnedleaves_k83_refusals_apart).prog 58) (kwd := []) TL.ob_eq
    (by kernel_rfl) (fun s => by kernel_rfl) TL.run (by kernel_rfl) (by kernel_rfl) (by kernel_rfl) (by rfl) (by first | assumption | decide +kernel) (by decide +kernel) ⟨rfl, rfl, rfl, rfl, rfl, by decide +kernel⟩ ?hw ?hc
  case hw => w_witness2
  case hc =>
    refine LamX.walk_ofTsE (l := PySem.Challenge.rw_turnedleaves_k83_refusals_apart) (n := 63) (k := 20) (x := "script") (CX := fun _ => L2.CX0) rfl (by decide) (by kernel_rfl) ⟨rfl, by decide, by decide⟩ ?F (fun _ _ _ _ _ z => z)
    intro w mg fa h Y G hmg0
    obtain ⟨K, KX, c⟩ := Y
    have hmg : mg ("law" : PySem.Str) = some (.ref fa) := by
      have e : (HandSHeadRun.topDef (OpenLaw.row PySem.Challenge.rw_turnedleaves_k83_refusals_apart).prog 58).name = ("law" : PySem.Str) := by kernel_rfl
      rw [← e]
      exact hmg0
    have T : TL.Txt K mg := TL.txt_of KX G c
    have e := hmg.symm.trans T.g_law
    cases e
    have b := L2.FunD.bindsA (ps := ["script"]) T.law fun _ _ _ _ _ _ us hl => match us, hl with | [_], _ => rfl
    refine ⟨K, KX, TL.fdOf K ("law", none), TL.tf.map (He.cT K), TL.sp_lawT K "law", ?_, ?_, ?_, fun s v => b s [v] rfl, fun H a ns hl _ hT hS => ⟨a, ns, rfl, hS, hl, fun p hp => ?_, fun _ => rfl⟩, fun base _ _ TB => TL.ok_law T (TB _ (List.mem_map.mpr ⟨_, List.mem_singleton.mpr rfl, rfl⟩))⟩
    · intro p hp
      obtain ⟨q, hq, rfl⟩ := List.mem_map.mp hp
      exact c.empty q hq
    · intro p hp
      obtain ⟨q, hq, rfl⟩ := List.mem_map.mp hp
      exact c.out q hq
    · intro p hp
      obtain ⟨q, hq, rfl⟩ := List.mem_map.mp hp
      exact codeHd_of_K KX (c.hd q hq)
    · cases List.mem_singleton.mp hp
      exact LamX.TabS.nil (hT _ (List.mem_map.mpr ⟨_, List.mem_singleton.mpr rfl, rfl⟩))
